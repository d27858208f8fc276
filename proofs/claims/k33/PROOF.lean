import PyProof.Rows.All
import HandS.Base
import HandS.Call
import HandS.List
import HandS.Text
import HandS.StrMore
import HandS.ForMost
import HandS.ExcCtx
import HandS.HotCalls
import HandS.TryOnly
import HandS.CallSlots
import HandS.Wide
import HandS.WideBits
import HandS.Defaults
import HandS.HeadHook1
import HandS.HeadHook2
import HandS.ExcIs
import HandS.ExcField
import HandS.ExcInit
import HandS.Codes
import HandS.TupAny
import KE.KExcIs
import PyProof.StrOps2
import HandS.IsInst
import HandS.RaiseMore
import HandS.Comp
import HandS.Zip
import PyProof.ExcBaseAll.ValueError
import HandS.ExcValue
import KE.KDictCopyH
import HandS.More
import KE.SortData
import KE.GoesMore
import KE.GoesZip
import KE.SortKeyHeap
import HandS.SortKw
import HandS.Head0
import HandS.Head1
import HandS.Head2
import HandS.HeadEnd
import HandS.HeadHook4
import KE.KStateDown
import HandS.Words
import HandS.WordsExc
import PySem.Challenge.RW_aheadmill_k33_shelf_left_and_thrown
set_option Elab.async false
set_option linter.all false
set_option maxRecDepth 100000
set_option maxHeartbeats 0
/-! A small Python of our own: values, stores, terms, and what they come to. -/
namespace MP
open PySem
inductive Val where
  | non | bl (b : Bool) | int (i : Int) | str (x : Str) | ref (l : Nat) | tup (xs : List Val) | exc (c : Nat) (ds : List Val)
def Val.isNon : Val → Bool
  | .non => true
  | _ => false
abbrev Key := Sum Int Str
/-- what stands in a store: a list, the script (read only), a dict (lk: walked just now), an instance -/
inductive Ob where
  | lst (xs : List Val) | fro (xs : List Val) | dic (lk : Bool) (kvs : List (Key × Val)) | ins (c : Nat) (fs : List (Nat × Val))
abbrev Store := List Ob
abbrev Ev := List (Option Val)
inductive R (α : Type) where
  | ok (a : α) (S : Store) | exc (c : Nat) (ds : List Val) (S : Store) | bad
def R.bind {α β : Type} (r : R α) (k : α → Store → R β) : R β := match r with
  | .ok a S => k a S
  | .exc c ds S => .exc c ds S
  | .bad => .bad
def ofO {α : Type} (o : Option α) (S : Store) : R α := match o with
  | some a => .ok a S
  | none => .bad
/-- what a statement comes to -/
inductive F where
  | nx (ρ : Ev) (S : Store) | rt (v : Val) (S : Store) | bk (ρ : Ev) (S : Store) | ct (ρ : Ev) (S : Store) | exc (c : Nat) (ds : List Val) (ρ : Ev) (S : Store) | bad
def F.bind (r : F) (k : Ev → Store → F) : F := match r with
  | .nx ρ S => k ρ S
  | r => r
/-- an expression within a statement -/
def R.toF {α : Type} (r : R α) (ρ : Ev) (k : α → Store → F) : F := match r with
  | .ok a S => k a S
  | .exc c ds S => .exc c ds ρ S
  | .bad => .bad
inductive BOp where
  | add | sub | mul | fdiv | mod | pow | shl | shr | band | bor | bxor
inductive COp where
  | lt | le | gt | ge | eq | ne | isin | notin
inductive Ty where
  | int | bool | str | tup | list | verr | cls (c : Nat)
/-- methods of built-in types by name -/
inductive BM where
  | append | popk | clear | get1 | get2 | index | startswith | endswith | zfill | upper | lstrip | partition | sindex | update
inductive Bl1 where
  | len | int | str
inductive Bl2 where
  | min | max | divmod
/-- expressions; .nil, .cons are rows of them; the l.. give what a list or a tuple holds, the i.. what a loop walks -/
inductive E where
  | var (i : Nat) | int (i : Int) | bl (b : Bool) | non | str (x : Str)
  | glob (g : Nat)
  | bin (o : BOp) (a b : E) | neg (a : E)
  | cmp (o : COp) (a b : E) | chain (o p : COp) (a b c : E) | isN (a : E) | notN (a : E)
  | and (es : E) | or (es : E) | not (a : E)
  | nil | cons (a b : E)
  | tup (es : E) | list (l : E) | dict (ks : List Key) (es : E)
  | ix (a i : E) | ixL (l i : E) | sl (a lo hi : E) | noPart
  | call (f : Nat) (es : E) (k : Nat) | new (c : Nat) (es : E) (k : Nat)
  | meth (o : E) (m : Nat) (es : E) (k : Nat) | fld (o : E) (f : Nat)
  | isinst (a : E) (t : Ty)
  | bl1 (b : Bl1) (a : E) | bl2 (b : Bl2) (a c : E) | bm (m : BM) (o : E) (es : E)
  | tupL (l : E) | lenL (l : E) | maxL (l : E) | join (s l : E) | extend (o l : E) | inL (a l : E) | notinL (a l : E) | update (o d : E) | dcopy (d : E)
  | lof (e : E) | llit (es : E) | lcomp (tg : List Nat) (one : Bool) (own : List Nat) (it : E) (cond : E) (elt : E) | lsl (l lo hi : E) | lcat (a b : E)
  | lcopy (l : E) | lsortI (l : E) | lsortK (l : E) (f : Nat) | lsortT (l : E) | lsortD (d : E) | lsplit (e : E) | lsplitc (e : E) (x : Str)
  | iof (l : E) | ienum (l : E) | izip (a b : E) | irng1 (a : E) | irng2 (a b : E) | irev (l : E) | ichars (e : E) | ivals (e : E) | iitems (e : E) | ikeys (e : E) | ilk (k : Nat) (e : E)
inductive T where
  | name (i : Nat) | names (is : List Nat) | fld (o : E) (f : Nat) | sub (o i : E)
inductive S where
  | nil | cons (a b : S)
  | asg (t : T) (e : E) | swap (is : List Nat) (es : E) | aug (o : E) (f : Nat) (op : BOp) (e : E)
  | ex (e : E) | ite (c : E) (a b : S) | whl (c : E) (b : S) | for_ (tg : List Nat) (one : Bool) (it : E) (b : S)
  | ret (e : E) | retN | brk | cnt | pass
  | raise (c : Nat) (ln : E)
  | try_ (b : S) (hs : S) (o : S) | hnil | hcons (c : Nat) (slot : Option Nat) (b : S) (r : S)
structure Def where
  np : Nat
  ns : Nat
  body : S
structure Prog where
  defs : Nat → Option Def
  /-- a def's defaults; the module's constants -/
  dfl : Nat → List Val
  glob : Nat → Val
  /-- the def of a class's method -/
  meth : Nat → Nat → Option Nat
  init : Nat → Option Nat
  /-- whether the first class is the second or under it -/
  sub : Nat → Nat → Bool
  /-- the field of an exception made with a line -/
  line : Nat → Bool
  /-- most turns of a while -/
  fuel : Nat
def LIM : Nat := 1000000
def small (i : Int) : Bool := decide (-18446744073709551616 < i ∧ i < 18446744073709551616)
def mid (i : Int) : Bool := decide (-13407807929942597099574024998205846127479365820592393377723561443721764030073546976801874298166903427690031858186486050853753882811946569946433649006084096 < i ∧ i < 13407807929942597099574024998205846127479365820592393377723561443721764030073546976801874298166903427690031858186486050853753882811946569946433649006084096)
/-- a text, so many times -/
def strRep (x : Str) (n : Int) : Str := if n < 1 then Str.empty else if (n == 1 || x.length == 0) = true then x else ⟨(List.replicate n.toNat x.cps).foldl (· ++ ·) #[]⟩
def binop : BOp → Val → Val → Option Val
  | .add, .int i, .int j => some (.int (i + j))
  | .add, .str x, .str y => if x.length + y.length ≤ LIM then some (.str (x ++ y)) else none
  | .add, .tup xs, .tup ys => if xs.length + ys.length ≤ LIM then some (.tup (xs ++ ys)) else none
  | .sub, .int i, .int j => some (.int (i - j))
  | .mul, .int i, .int j => if (small i || small j || (mid i && mid j)) = true then some (.int (i * j)) else none
  | .mul, .str x, .int n => if x.length ≤ 1024 ∧ n ≤ 1024 ∧ -1024 ≤ n then some (.str (strRep x n)) else none
  | .fdiv, .int i, .int j => if 0 < j ∧ mid j = true then some (.int (i / j)) else none
  | .mod, .int i, .int j => if 0 < j then some (.int (i % j)) else none
  | .pow, .int i, .int j => if 0 ≤ j ∧ j ≤ 1000 ∧ small i = true then some (.int (i ^ j.toNat)) else none
  | .shl, .int i, .int j => if 0 ≤ j ∧ j ≤ 1000 ∧ small i = true then some (.int (i * 2 ^ j.toNat)) else none
  | .shr, .int i, .int j => if 0 ≤ j then some (.int (i / 2 ^ j.toNat)) else none
  | .band, .int i, .int j => some (.int (Builtin.bitAnd i j))
  | .bor, .int i, .int j => some (.int (Builtin.bitOr i j))
  | .bxor, .int i, .int j => some (.int (Builtin.bitXor i j))
  | _, _, _ => none
/-- what a reference to a list holds -/
def Store.lstAt (S : Store) (l : Nat) : Option (List Val) := match S[l]? with
  | some (.lst xs) => some xs
  | some (.fro xs) => some xs
  | _ => none
mutual
/-- a value as data, n deep -/
def toD : Nat → Store → Val → Option PyData
  | _, _, .non => some .none
  | _, _, .bl b => some (.bool b)
  | _, _, .int i => some (.int i)
  | _, _, .str x => if PyData.strOk x = true then some (.str x) else none
  | n + 1, S, .tup xs => (toDs n S xs).map .tuple
  | n + 1, S, .ref l => match S.lstAt l with
    | some xs => (toDs n S xs).map .list
    | none => none
  | _, _, _ => none
def toDs : Nat → Store → List Val → Option (List PyData)
  | _, _, [] => some []
  | n, S, x :: xs => match toD n S x, toDs n S xs with
    | some d, some ds => some (d :: ds)
    | _, _ => none
end
/-- == -/
def vEq (S : Store) : Val → Val → Option Bool
  | .int i, .int j => some (decide (i = j))
  | .str x, .str y => some (decide (x = y))
  | .bl a, .bl b => some (decide (a = b))
  | .non, .non => some true
  | v, w => match toD 40 S v, toD 40 S w with
    | some d, some e => some (PyData.eqv d e)
    | _, _ => none
/-- scalars, for in -/
def flat : Val → Bool
  | .non | .bl _ | .int _ | .str _ => true
  | _ => false
def sEq : Val → Val → Bool
  | .non, .non => true
  | .bl a, .bl b => a == b
  | .int i, .int j => decide (i = j)
  | .str x, .str y => decide (x = y)
  | .int i, .bl b => decide (i = if b then 1 else 0)
  | .bl b, .int i => decide (i = if b then 1 else 0)
  | _, _ => false
def inVs (x : Val) (xs : List Val) : Option Bool := if flat x && xs.all flat then some (xs.any fun y => sEq y x) else none
def keyOf : Val → Option Key
  | .int i => some (.inl i)
  | .str x => some (.inr x)
  | _ => none
def dGet (kvs : List (Key × Val)) (k : Key) : Option Val := (kvs.find? fun kv => decide (kv.1 = k)).map (·.2)
def dPut (kvs : List (Key × Val)) (k : Key) (v : Val) : List (Key × Val) :=
  if (kvs.any fun kv => decide (kv.1 = k)) then kvs.map fun kv => if kv.1 = k then (kv.1, v) else kv else kvs ++ [(k, v)]
def dDrop (kvs : List (Key × Val)) (k : Key) : List (Key × Val) := kvs.filter fun kv => decide (kv.1 ≠ k)
def cmpop (S : Store) : COp → Val → Val → Option Bool
  | .lt, .int i, .int j => some (decide (i < j))
  | .le, .int i, .int j => some (decide (i ≤ j))
  | .gt, .int i, .int j => some (decide (j < i))
  | .ge, .int i, .int j => some (decide (j ≤ i))
  | .eq, v, w => vEq S v w
  | .ne, v, w => (vEq S v w).map (!·)
  | .isin, v, .tup ys => inVs v ys
  | .notin, v, .tup ys => (inVs v ys).map (!·)
  | .isin, .str x, .str y => match x.cps.toList with | [c] => some (decide (c ∈ y.cps.toList)) | _ => none
  | .notin, .str x, .str y => match x.cps.toList with | [c] => some (!decide (c ∈ y.cps.toList)) | _ => none
  | .isin, v, .ref l => match S[l]? with
    | some (.dic false kvs) => (keyOf v).map fun k => (dGet kvs k).isSome
    | some (.lst ys) => inVs v ys
    | _ => none
  | .notin, v, .ref l => match S[l]? with
    | some (.dic false kvs) => (keyOf v).map fun k => !(dGet kvs k).isSome
    | some (.lst ys) => (inVs v ys).map (!·)
    | _ => none
  | _, _, _ => none
/-- a place in a row of n items -/
def ixOf (n : Nat) (i : Int) : Option Nat := if 0 ≤ i then (if i < n then some i.toNat else none) else if -(n : Int) ≤ i then some (i + n).toNat else none
def atI {α : Type} (xs : List α) (i : Int) : Option α := (ixOf xs.length i).bind fun j => xs[j]?
def getI (S : Store) : Val → Val → Option Val
  | .tup xs, .int i => atI xs i
  | .str x, .int i => if x.length ≤ LIM then (atI x.cps.toList i).map fun c => .str ⟨#[c]⟩ else none
  | .ref l, k => match S[l]?, k with
    | some (.lst xs), .int i => atI xs i
    | some (.fro xs), .int i => atI xs i
    | some (.dic false kvs), k => (keyOf k).bind fun k => dGet kvs k
    | _, _ => none
  | _, _ => none
/-- the ends of a slice -/
def cutIx (n d : Nat) : Option Int → Nat
  | none => d
  | some i => if i < 0 then (i + (n : Int)).toNat else min i.toNat n
def cut {α : Type} (xs : List α) (lo hi : Option Int) : List α := (xs.drop (cutIx xs.length 0 lo)).take (cutIx xs.length xs.length hi - cutIx xs.length 0 lo)
def fget (fs : List (Nat × Val)) (f : Nat) : Option Val := fs.lookup f
def fput (f : Nat) (v : Val) : List (Nat × Val) → List (Nat × Val)
  | [] => [(f, v)]
  | p :: r => if p.1 = f then (f, v) :: r else p :: fput f v r
def isTy (P : Prog) (S : Store) : Ty → Val → Option Bool
  | .int, .int _ => some true | .int, .bl _ => some true
  | .bool, .bl _ => some true | .bool, .int _ => some false
  | .str, .str _ => some true
  | .tup, .tup _ => some true
  | .cls c, .exc d _ => some (P.sub d c)
  | .verr, .exc _ _ => some true
  | .cls c, .ref l => match S[l]? with
    | some (.ins d _) => some (P.sub d c)
    | _ => none
  | .list, .ref l => match S[l]? with
    | some (.lst _) => some true | some (.fro _) => some true | some (.dic _ _) => some false
    | _ => none
  | .tup, .ref l => match S[l]? with
    | some (.lst _) => some false | some (.fro _) => some false
    | _ => none
  | .int, .ref l => match S[l]? with
    | some (.lst _) => some false | some (.fro _) => some false
    | _ => none
  | .bool, .ref l => match S[l]? with
    | some (.lst _) => some false | some (.fro _) => some false
    | _ => none
  | .str, .ref l => match S[l]? with
    | some (.lst _) => some false | some (.fro _) => some false
    | _ => none
  | _, .exc _ _ => none
  | .cls _, _ => none
  | .verr, _ => none
  | .int, _ => some false
  | .bool, _ => some false
  | .str, _ => some false
  | .tup, _ => some false
  | .list, _ => some false
end MP
/-! What the terms come to. -/
namespace MP
open PySem
inductive LV where
  | tmp (xs : List Val) | trk (l : Nat) | tup (xs : List Val)
/-- what it holds now -/
def LV.now (v : LV) (S : Store) : Option (List Val) := match v with
  | .tmp xs => some xs
  | .trk l => S.lstAt l
  | .tup xs => some xs
/-- what it holds now, as a list that is no script -/
def LV.lst (v : LV) (S : Store) : Option (List Val) := match v with
  | .tmp xs => some xs
  | .trk l => match S[l]? with
    | some (.lst xs) => some xs
    | _ => none
  | .tup _ => none
def LV.isT : LV → Bool
  | .tup _ => true
  | _ => false
/-- what a loop walks: how many, the i-th, whether it is at its end then; a dict that is walked -/
structure IV where
  n : Nat
  get : Nat → Store → Option Val
  fin : Store → Bool
  lk : Option Nat
def LV.get (v : LV) (i : Nat) (S : Store) : Option Val := (v.now S).bind fun xs => xs[i]?
def LV.fin (v : LV) (n : Nat) (S : Store) : Bool := match v with
  | .trk l => match S.lstAt l with
    | some ys => decide (ys.length ≤ n)
    | none => false
  | _ => true
def Ev.put (ρ : Ev) (i : Nat) (v : Val) : Option Ev := if i < ρ.length then some (ρ.set i (some v)) else none
def Ev.puts : Ev → List Nat → List Val → Option Ev
  | ρ, [], [] => some ρ
  | ρ, i :: is, v :: vs => (ρ.put i v).bind fun ρ1 => Ev.puts ρ1 is vs
  | _, _, _ => none
def Ev.tg (tg : List Nat) (one : Bool) (v : Val) (ρ : Ev) : Option Ev := match one, tg, v with
  | true, [i], v => ρ.put i v
  | false, is, .tup vs => ρ.puts is vs
  | _, _, _ => none
def Ev.wipe (ρ : Ev) : List Nat → Ev
  | [] => ρ
  | i :: is => (Ev.wipe ρ is).set i none
def forN (iv : IV) (set : Val → Ev → Option Ev) (body : Ev → Store → F) : Nat → Nat → Ev → Store → F
  | 0, _, ρ, S => if iv.fin S = true then .nx ρ S else .bad
  | k + 1, i, ρ, S => match iv.get i S with
    | none => .bad
    | some v => match set v ρ with
      | none => .bad
      | some ρ1 => match body ρ1 S with
        | .nx ρ2 S2 => forN iv set body k (i + 1) ρ2 S2
        | .ct ρ2 S2 => forN iv set body k (i + 1) ρ2 S2
        | .bk ρ2 S2 => .nx ρ2 S2
        | r => r
def whlN (c : Ev → Store → R Bool) (body : Ev → Store → F) : Nat → Ev → Store → F
  | 0, _, _ => .bad
  | k + 1, ρ, S => (c ρ S).toF ρ fun b S1 => if b = true then match body ρ S1 with
      | .nx ρ2 S2 => whlN c body k ρ2 S2
      | .ct ρ2 S2 => whlN c body k ρ2 S2
      | .bk ρ2 S2 => .nx ρ2 S2
      | r => r
    else .nx ρ S1
def compN (iv : IV) (set : Val → Ev → Option Ev) (c : Ev → Store → R Bool) (e : Ev → Store → R Val) (ρ : Ev) : Nat → Nat → List Val → Store → R (List Val)
  | 0, _, acc, S => if iv.fin S = true then .ok acc S else .bad
  | k + 1, i, acc, S => match iv.get i S with
    | none => .bad
    | some v => match set v ρ with
      | none => .bad
      | some ρ1 => match c ρ1 S with
        | .ok t S1 => if t = true then match e ρ1 S1 with
          | .ok y S2 => if acc.length < LIM then compN iv set c e ρ k (i + 1) (acc ++ [y]) S2 else .bad
          | _ => .bad
          else compN iv set c e ρ k (i + 1) acc S1
        | _ => .bad
def truth (v : Val) : Option Bool := match v with
  | .bl b => some b
  | _ => none
def optI (v : Val) : Option Int := match v with
  | .int i => some i
  | _ => none
def intsOf : List Val → Option (List Int)
  | [] => some []
  | .int i :: r => (intsOf r).map (i :: ·)
  | _ => none
/-- a dict's entry as it is walked: its key, its value, both -/
def keyV : Key → Val
  | .inl i => .int i
  | .inr x => .str x
def dkv : Nat → Key × Val → Val
  | 0, kv => keyV kv.1
  | 1, kv => kv.2
  | _, kv => .tup [keyV kv.1, kv.2]
def intRows : List Val → Option (List (List Int))
  | [] => some []
  | .tup [] :: _ => none
  | .tup (v :: vs) :: r => match intsOf (v :: vs), intRows r with
    | some is, some rs => some (is :: rs)
    | _, _ => none
  | _ => none
def intKeys : List (Key × Val) → Option (List Int)
  | [] => some []
  | (.inl i, _) :: r => (intKeys r).map (i :: ·)
  | _ => none
def sortR (rs : List (List Int)) : List (List Int) := rs.mergeSort fun a b => decide (a ≤ b)
def keysN (cf : Nat → List Val → Store → R Val) (f : Nat) (ds : List Val) : List Val → Store → Option (List Int × Store)
  | [], S => some ([], S)
  | x :: xs, S => match cf f (x :: ds) S with
    | .ok (.int k) S1 => (keysN cf f ds xs S1).map fun p => (k :: p.1, p.2)
    | _ => none
def sortK (ks : List Int) (xs : List Val) : List Val := ((xs.zip ks).mergeSort fun p q => decide (p.2 ≤ q.2)).map (·.1)
def lvOf (S : Store) : Val → Option LV
  | .ref l => (S.lstAt l).map fun _ => .trk l
  | .tup xs => some (.tup xs)
  | _ => none
def Store.put (S : Store) (l : Nat) (o : Ob) : Store := S.set l o
def Store.new (S : Store) (o : Ob) : Val × Store := (.ref S.length, S ++ [o])
def unlk (S : Store) : Option Nat → Store
  | none => S
  | some l => match S[l]? with
    | some (.dic true kvs) => S.set l (.dic false kvs)
    | _ => S
def F.unlk (r : F) (lk : Option Nat) : F := match lk with
  | none => r
  | some l => match r with
    | .nx ρ S => .nx ρ (MP.unlk S (some l))
    | .rt v S => .rt v (MP.unlk S (some l))
    | .bk ρ S => .bk ρ (MP.unlk S (some l))
    | .ct ρ S => .ct ρ (MP.unlk S (some l))
    | _ => .bad
def strsOf : List Val → Option (List Str)
  | [] => some []
  | .str x :: r => (strsOf r).map (x :: ·)
  | _ => none
def insI (i : Int) : List Int → List Int
  | [] => [i]
  | j :: r => if i ≤ j then i :: j :: r else j :: insI i r
def sortI : List Int → List Int
  | [] => []
  | i :: r => insI i (sortI r)
def maxI : List Int → Int
  | [] => 0
  | i :: r => r.foldl (fun m x => if x > m then x else m) i
def bl1op (S : Store) : Bl1 → Val → Option Val
  | .len, .str x => if x.length ≤ LIM then some (.int x.length) else none
  | .len, .tup xs => some (.int xs.length)
  | .len, .ref l => match S[l]? with
    | some (.lst xs) => some (.int xs.length)
    | some (.fro xs) => some (.int xs.length)
    | some (.dic false kvs) => some (.int kvs.length)
    | _ => none
  | .int, .int i => some (.int i)
  | .int, .bl b => some (.int (if b then 1 else 0))
  | .int, .str x => if x.length ≤ 640 then (intText? x).map .int else none
  | .str, .int i => if mid i = true then some (.str (toString i)) else none
  | .str, .str x => some (.str x)
  | _, _ => none
def bl2op : Bl2 → Val → Val → Option Val
  | .max, .int i, .int j => some (.int (if j > i then j else i))
  | .min, .int i, .int j => some (.int (if j < i then j else i))
  | .divmod, .int i, .int j => if 0 < j ∧ mid j = true then some (.tup [.int (i / j), .int (i % j)]) else none
  | _, _, _ => none
/-- what the object of a method call must be -/
def bmPre (S : Store) : BM → Val → Bool
  | .append, .ref l => match S[l]? with
    | some (.lst _) => true
    | _ => false
  | .clear, .ref l => match S[l]? with
    | some (.lst _) => true
    | _ => false
  | .index, .ref l => match S[l]? with
    | some (.lst _) => true
    | _ => false
  | .popk, .ref l => match S[l]? with
    | some (.dic false _) => true
    | _ => false
  | .update, .ref l => match S[l]? with
    | some (.dic false _) => true
    | _ => false
  | .sindex, .str _ => true
  | .get1, .ref l => match S[l]? with
    | some (.dic false _) => true
    | _ => false
  | .get2, .ref l => match S[l]? with
    | some (.dic false _) => true
    | _ => false
  | .startswith, .str _ => true
  | .endswith, .str _ => true
  | .zfill, .str _ => true
  | .upper, .str _ => true
  | .lstrip, .str _ => true
  | .partition, .str _ => true
  | _, _ => false
def bmop (S : Store) : BM → Val → List Val → R Val
  | .append, .ref l, [v] => match S[l]? with
    | some (.lst xs) => if xs.length < LIM then .ok .non (S.put l (.lst (xs ++ [v]))) else .bad
    | _ => .bad
  | .clear, .ref l, [] => match S[l]? with
    | some (.lst xs) => .ok .non (S.put l (.lst []))
    | _ => .bad
  | .index, .ref l, [k] => match S[l]? with
    | some (.lst xs) => if flat k && xs.all flat then (match xs.findIdx? fun y => sEq y k with
      | some j => .ok (.int j) S
      | none => .bad) else .bad
    | _ => .bad
  | .sindex, .str x, [.str y] => match Txt.index0 x y with
    | some j => .ok (.int j) S
    | none => .bad
  | .update, .ref l, [.ref m] => match S[l]?, S[m]? with
    | some (.dic false kvs), some (.dic false more) => if l ≠ m ∧ kvs.length + more.length ≤ LIM then .ok .non (S.put l (.dic false (more.foldl (fun d kv => dPut d kv.1 kv.2) kvs))) else .bad
    | _, _ => .bad
  | .popk, .ref l, [k] => match S[l]?, keyOf k with
    | some (.dic false kvs), some k => match dGet kvs k with
      | some v => .ok v (S.put l (.dic false (dDrop kvs k)))
      | none => .bad
    | _, _ => .bad
  | .get1, .ref l, [k] => match S[l]?, keyOf k with
    | some (.dic false kvs), some k => .ok ((dGet kvs k).getD .non) S
    | some (.dic false _), none => if k.isNon = true then .ok .non S else .bad
    | _, _ => .bad
  | .get2, .ref l, [k, d] => match S[l]?, keyOf k with
    | some (.dic false kvs), some k => .ok ((dGet kvs k).getD d) S
    | _, _ => .bad
  | .startswith, .str x, [.str y] => .ok (.bl (Txt.startswith x y)) S
  | .endswith, .str x, [.str y] => .ok (.bl (Txt.endswith x y)) S
  | .zfill, .str x, [.int i] => if PadOk i = true then .ok (.str (Txt.zfill x i)) S else .bad
  | .upper, .str x, [] => if x.length ≤ LIM then .ok (.str (Txt.upper x)) S else .bad
  | .lstrip, .str x, [.str y] => if x.length ≤ LIM then .ok (.str (Txt.lstripChars x y)) S else .bad
  | .partition, .str x, [.str y] => if x.length ≤ LIM ∧ y.length ≠ 0 then .ok (.tup [.str (Txt.partition x y).1, .str (Txt.partition x y).2.1, .str (Txt.partition x y).2.2]) S else .bad
  | _, _, _ => .bad
/-- a new list of two others -/
def catS (v w : Val) (S : Store) : R Val := match v, w with
  | .ref a, .ref b => match S[a]?, S[b]? with
    | some (.lst xs), some (.lst ys) => if xs.length + ys.length ≤ LIM then .ok (.ref S.length) (S ++ [.lst (xs ++ ys)]) else .bad
    | _, _ => .bad
  | _, _ => .bad
def binopS (o : BOp) (v w : Val) (S : Store) : R Val := match o, v with
  | .add, .ref _ => catS v w S
  | o, v => ofO (binop o v w) S
def E.isNil : E → Bool
  | .nil => true
  | _ => false
def E.isNo : E → Bool
  | .noPart => true
  | _ => false
variable (P : Prog) (cf : Nat → List Val → Store → R Val)
mutual
def evalE : E → Ev → Store → R Val
  | .var i, ρ, S => match ρ[i]? with
    | some (some v) => .ok v S
    | _ => .bad
  | .int i, _, S => .ok (.int i) S
  | .bl b, _, S => .ok (.bl b) S
  | .non, _, S => .ok .non S
  | .str x, _, S => .ok (.str x) S
  | .glob g, _, S => .ok (P.glob g) S
  | .bin o a b, ρ, S => (evalE a ρ S).bind fun v S1 => (evalE b ρ S1).bind fun w S2 => binopS o v w S2
  | .neg a, ρ, S => (evalE a ρ S).bind fun v S1 => ofO ((optI v).map fun i => .int (-i)) S1
  | .cmp o a b, ρ, S => (evalE a ρ S).bind fun v S1 => (evalE b ρ S1).bind fun w S2 => ofO ((cmpop S2 o v w).map .bl) S2
  | .chain o p a b c, ρ, S => (evalE a ρ S).bind fun v S1 => (evalE b ρ S1).bind fun w S2 => match cmpop S2 o v w with
    | none => .bad
    | some t => if t = true then (evalE c ρ S2).bind fun u S3 => ofO ((cmpop S3 p w u).map .bl) S3 else .ok (.bl false) S2
  | .isN a, ρ, S => (evalE a ρ S).bind fun v S1 => .ok (.bl v.isNon) S1
  | .notN a, ρ, S => (evalE a ρ S).bind fun v S1 => .ok (.bl (!v.isNon)) S1
  | .and es, ρ, S => evalAnd es ρ S
  | .or es, ρ, S => evalOr es ρ S
  | .not a, ρ, S => (evalE a ρ S).bind fun v S1 => match v with
    | .bl b => .ok (.bl (!b)) S1
    | _ => .bad
  | .tup es, ρ, S => (evalEs es ρ S).bind fun vs S1 => if vs.length ≤ LIM then .ok (.tup vs) S1 else .bad
  | .list l, ρ, S => (evalL l ρ S).bind fun v S1 => match v with
    | .tmp xs => .ok (.ref S1.length) (S1 ++ [.lst xs])
    | _ => .bad
  | .dict ks es, ρ, S => (evalEs es ρ S).bind fun vs S1 => if ks.length = vs.length ∧ ks.length ≤ 15 then .ok (.ref S1.length) (S1 ++ [.dic false ((ks.zip vs).foldl (fun d kv => dPut d kv.1 kv.2) [])]) else .bad
  | .ix a i, ρ, S => (evalE a ρ S).bind fun v S1 => (evalE i ρ S1).bind fun w S2 => ofO (getI S2 v w) S2
  | .ixL l i, ρ, S => (evalL l ρ S).bind fun v S1 => (evalE i ρ S1).bind fun w S2 => match v, w with
    | .tmp xs, .int k => ofO (atI xs k) S2
    | _, _ => .bad
  | .sl a lo hi, ρ, S => (evalE a ρ S).bind fun v S1 => (if lo.isNo = true then R.ok none S1 else (evalE lo ρ S1).bind fun v S => ofO ((optI v).map some) S).bind fun l S2 => (if hi.isNo = true then R.ok none S2 else (evalE hi ρ S2).bind fun v S => ofO ((optI v).map some) S).bind fun h S3 => match v with
    | .str x => if x.length ≤ LIM then .ok (.str ⟨(cut x.cps.toList l h).toArray⟩) S3 else .bad
    | .tup xs => .ok (.tup (cut xs l h)) S3
    | .ref a => match S3.lstAt a with
      | some xs => .ok (.ref S3.length) (S3 ++ [.lst (cut xs l h)])
      | none => .bad
    | _ => .bad
  | .call f es k, ρ, S => (evalEs es ρ S).bind fun vs S1 => cf f (vs ++ (P.dfl f).drop k) S1
  | .new c es k, ρ, S => (evalEs es ρ S).bind fun vs S1 => match P.init c with
    | some f => (cf f (.ref S1.length :: (vs ++ (P.dfl f).drop k)) (S1 ++ [.ins c []])).bind fun v S2 => match v with
      | .non => .ok (.ref S1.length) S2
      | _ => .bad
    | none => .bad
  | .meth o m es k, ρ, S => (evalE o ρ S).bind fun v S1 => match v with
    | .ref l => match S1[l]? with
      | some (.ins c _) => match P.meth c m with
        | some f => (evalEs es ρ S1).bind fun vs S2 => cf f (.ref l :: (vs ++ (P.dfl f).drop k)) S2
        | none => .bad
      | _ => .bad
    | _ => .bad
  | .fld o f, ρ, S => (evalE o ρ S).bind fun v S1 => match v with
    | .ref l => match S1[l]? with
      | some (.ins _ fs) => ofO (fget fs f) S1
      | _ => .bad
    | .exc _ [v] => if P.line f = true then .ok v S1 else .bad
    | _ => .bad
  | .isinst a t, ρ, S => (evalE a ρ S).bind fun v S1 => ofO ((isTy P S1 t v).map .bl) S1
  | .bl1 b a, ρ, S => (evalE a ρ S).bind fun v S1 => ofO (bl1op S1 b v) S1
  | .bl2 b a c, ρ, S => (evalE a ρ S).bind fun v S1 => (evalE c ρ S1).bind fun w S2 => ofO (bl2op b v w) S2
  | .bm m o es, ρ, S => (evalE o ρ S).bind fun v S1 => if bmPre S1 m v = true then (evalEs es ρ S1).bind fun vs S2 => bmop S2 m v vs else .bad
  | .tupL l, ρ, S => (evalL l ρ S).bind fun v S1 => ofO ((v.now S1).map .tup) S1
  | .lenL l, ρ, S => (evalL l ρ S).bind fun v S1 => ofO ((v.now S1).map fun xs => .int xs.length) S1
  | .maxL l, ρ, S => (evalL l ρ S).bind fun v S1 => match (if v.isT = true then none else (v.now S1).bind intsOf) with
    | some (i :: r) => .ok (.int (maxI (i :: r))) S1
    | _ => .bad
  | .join s l, ρ, S => (evalE s ρ S).bind fun v S1 => match v with
    | .str x => (evalL l ρ S1).bind fun w S2 => match (w.now S2).bind strsOf with
      | some ys => if (ys.map fun y => y.length).sum + ys.length * x.length ≤ LIM then .ok (.str (Txt.join x ys)) S2 else .bad
      | none => .bad
    | _ => .bad
  | .extend o l, ρ, S => (evalE o ρ S).bind fun v S1 => if bmPre S1 .append v = true then (evalL l ρ S1).bind fun w S2 => match v with
    | .ref a => match S2[a]?, w.lst S2 with
      | some (.lst xs), some ys => if xs.length + ys.length ≤ LIM then .ok .non (S2.put a (.lst (xs ++ ys))) else .bad
      | _, _ => .bad
    | _ => .bad
    else .bad
  | .inL a l, ρ, S => (evalE a ρ S).bind fun v S1 => (evalL l ρ S1).bind fun w S2 => ofO ((w.now S2).bind fun xs => (inVs v xs).map .bl) S2
  | .notinL a l, ρ, S => (evalE a ρ S).bind fun v S1 => (evalL l ρ S1).bind fun w S2 => ofO ((w.now S2).bind fun xs => (inVs v xs).map fun b => .bl (!b)) S2
  | .dcopy d, ρ, S => (evalE d ρ S).bind fun v S1 => match v with
    | .ref l => match S1[l]? with
      | some (.dic false kvs) => .ok (.ref S1.length) (S1 ++ [.dic false kvs])
      | _ => .bad
    | _ => .bad
  | _, _, _ => .bad
def evalAnd : E → Ev → Store → R Val
  | .cons a r, ρ, S => (evalE a ρ S).bind fun v S1 => if r.isNil = true then .ok v S1 else match v with
    | .bl t => if t = true then evalAnd r ρ S1 else .ok (.bl false) S1
    | _ => .bad
  | _, _, _ => .bad
def evalOr : E → Ev → Store → R Val
  | .cons a r, ρ, S => (evalE a ρ S).bind fun v S1 => if r.isNil = true then .ok v S1 else match v with
    | .bl t => if t = true then .ok (.bl true) S1 else evalOr r ρ S1
    | _ => .bad
  | _, _, _ => .bad
def evalEs : E → Ev → Store → R (List Val)
  | .nil, _, S => .ok [] S
  | .cons a b, ρ, S => (evalE a ρ S).bind fun v S1 => (evalEs b ρ S1).bind fun vs S2 => .ok (v :: vs) S2
  | _, _, _ => .bad
def evalL : E → Ev → Store → R LV
  | .lof e, ρ, S => (evalE e ρ S).bind fun v S1 => ofO (lvOf S1 v) S1
  | .llit es, ρ, S => (evalEs es ρ S).bind fun vs S1 => if vs.length ≤ LIM then .ok (.tmp vs) S1 else .bad
  | .lcomp tg one own it cond elt, ρ, S => (evalI it ρ S).bind fun iv S1 => match iv.lk with
    | none => (compN iv (Ev.tg tg one) (fun ρ S => if cond.isNo = true then R.ok true S else (evalE cond ρ S).bind fun v S => ofO (truth v) S) (fun ρ S => evalE elt ρ S) (ρ.wipe own) iv.n 0 [] S1).bind fun xs S2 => .ok (.tmp xs) S2
    | some l => (compN iv (Ev.tg tg one) (fun ρ S => if cond.isNo = true then R.ok true S else (evalE cond ρ S).bind fun v S => ofO (truth v) S) (fun ρ S => evalE elt ρ S) (ρ.wipe own) iv.n 0 [] S1).bind fun xs S2 => .ok (.tmp xs) (unlk S2 (some l))
  | .lsl l lo hi, ρ, S => (evalL l ρ S).bind fun v S1 => (if lo.isNo = true then R.ok none S1 else (evalE lo ρ S1).bind fun v S => ofO ((optI v).map some) S).bind fun a S2 => (if hi.isNo = true then R.ok none S2 else (evalE hi ρ S2).bind fun v S => ofO ((optI v).map some) S).bind fun b S3 => match v with
    | .tup _ => .bad
    | v => ofO ((v.now S3).map fun xs => .tmp (cut xs a b)) S3
  | .lcat a b, ρ, S => (evalL a ρ S).bind fun v S1 => (evalL b ρ S1).bind fun w S2 => match v.lst S2, w.lst S2 with
    | some xs, some ys => if xs.length + ys.length ≤ LIM then .ok (.tmp (xs ++ ys)) S2 else .bad
    | _, _ => .bad
  | .lcopy l, ρ, S => (evalL l ρ S).bind fun v S1 => ofO ((v.now S1).map .tmp) S1
  | .lsortI l, ρ, S => (evalL l ρ S).bind fun v S1 => match (if v.isT = true then none else (v.now S1).bind intsOf) with
    | some is => if is.length < 64 then .ok (.tmp ((sortI is).map .int)) S1 else .bad
    | none => .bad
  | .lsplit e, ρ, S => (evalE e ρ S).bind fun v S1 => match v with
    | .str x => if x.length ≤ LIM then .ok (.tmp ((Txt.words x).map .str)) S1 else .bad
    | _ => .bad
  | .lsplitc e y, ρ, S => (evalE e ρ S).bind fun v S1 => match v with
    | .str x => if x.length ≤ LIM ∧ y.length ≠ 0 then .ok (.tmp ((Txt.split x y).map .str)) S1 else .bad
    | _ => .bad
  | .lsortD e, ρ, S => (evalE e ρ S).bind fun v S1 => match v with
    | .ref l => match S1[l]? with
      | some (.dic false kvs) => match intKeys kvs with
        | some is => if is.length < 64 then .ok (.tmp ((sortI is).map .int)) S1 else .bad
        | none => .bad
      | _ => .bad
    | _ => .bad
  | .lsortT l, ρ, S => (evalL l ρ S).bind fun v S1 => match (if v.isT = true then none else (v.now S1).bind intRows) with
    | some rs => if rs.length ≤ LIM then .ok (.tmp ((sortR rs).map fun r => .tup (r.map .int))) S1 else .bad
    | none => .bad
  | .lsortK l f, ρ, S => (evalL l ρ S).bind fun v S1 => match (if v.isT = true then none else v.now S1) with
    | some xs => match keysN cf f (P.dfl f) xs S1 with
      | some p => .ok (.tmp (sortK p.1 xs)) p.2
      | none => .bad
    | none => .bad
  | _, _, _ => .bad
def evalI : E → Ev → Store → R IV
  | .iof l, ρ, S => (evalL l ρ S).bind fun v S1 => ofO ((v.now S1).map fun xs => ⟨xs.length, v.get, v.fin xs.length, none⟩) S1
  | .ienum l, ρ, S => (evalL l ρ S).bind fun v S1 => if v.isT = true then .bad else ofO ((v.now S1).map fun xs => ⟨xs.length, fun i S => (v.get i S).map fun x => .tup [.int i, x], v.fin xs.length, none⟩) S1
  | .izip a b, ρ, S => (evalL a ρ S).bind fun v S1 => (evalL b ρ S1).bind fun w S2 => match v.now S2, w.now S2 with
    | some xs, some ys => .ok ⟨min xs.length ys.length, fun i S => (v.get i S).bind fun x => (w.get i S).map fun y => .tup [x, y], fun S => (if xs.length ≤ ys.length then v.fin xs.length S else w.fin ys.length S) && (v.now S).isSome && (w.now S).isSome, none⟩ S2
    | _, _ => .bad
  | .irng1 a, ρ, S => (evalE a ρ S).bind fun v S1 => match v with
    | .int j => if -4611686018427387904 ≤ j ∧ j < 4611686018427387904 then .ok ⟨j.toNat, fun i _ => some (.int i), fun _ => true, none⟩ S1 else .bad
    | _ => .bad
  | .irng2 a b, ρ, S => (evalE a ρ S).bind fun v S1 => (evalE b ρ S1).bind fun w S2 => match v, w with
    | .int i, .int j => if (-4611686018427387904 ≤ i ∧ i < 4611686018427387904) ∧ -4611686018427387904 ≤ j ∧ j < 4611686018427387904 then .ok ⟨(j - i).toNat, fun k _ => some (.int (i + k)), fun _ => true, none⟩ S2 else .bad
    | _, _ => .bad
  | .irev l, ρ, S => (evalL l ρ S).bind fun v S1 => match v with
    | .tup _ => .bad
    | v => ofO ((v.now S1).map fun xs => ⟨xs.length, fun i S => v.get (xs.length - 1 - i) S, fun _ => true, none⟩) S1
  | .ichars e, ρ, S => (evalE e ρ S).bind fun v S1 => match v with
    | .str x => .ok ⟨x.cps.size, fun i _ => (x.cps[i]?).map fun c => .str ⟨#[c]⟩, fun _ => true, none⟩ S1
    | _ => .bad
  | .ivals e, ρ, S => (evalE e ρ S).bind fun v S1 => match v with
    | .ref l => match S1[l]? with
      | some (.dic false kvs) => .ok ⟨kvs.length, fun i _ => (kvs[i]?).map (dkv 1), fun _ => true, some l⟩ (S1.put l (.dic true kvs))
      | _ => .bad
    | _ => .bad
  | .iitems e, ρ, S => (evalE e ρ S).bind fun v S1 => match v with
    | .ref l => match S1[l]? with
      | some (.dic false kvs) => .ok ⟨kvs.length, fun i _ => (kvs[i]?).map (dkv 2), fun _ => true, some l⟩ (S1.put l (.dic true kvs))
      | _ => .bad
    | _ => .bad
  | .ikeys e, ρ, S => (evalE e ρ S).bind fun v S1 => match v with
    | .ref l => match S1[l]? with
      | some (.dic false kvs) => .ok ⟨kvs.length, fun i _ => (kvs[i]?).map (dkv 0), fun _ => true, some l⟩ (S1.put l (.dic true kvs))
      | _ => .bad
    | _ => .bad
  | .ilk k e, ρ, S => (evalE e ρ S).bind fun v S1 => match v with
    | .ref l => match S1[l]? with
      | some (.dic true kvs) => .ok ⟨kvs.length, fun i _ => (kvs[i]?).map (dkv k), fun _ => true, none⟩ S1
      | _ => .bad
    | _ => .bad
  | _, _, _ => .bad
end
end MP
/-! Statements, defs, calls. -/
namespace MP
open PySem
variable (P : Prog) (cf : Nat → List Val → Store → R Val)
def setSub (S : Store) (o i v : Val) : Option Store := match o with
  | .ref l => match S[l]?, i with
    | some (.lst xs), .int k => (ixOf xs.length k).map fun j => S.put l (.lst (xs.set j v))
    | some (.dic false kvs), k => (keyOf k).bind fun k => if kvs.length < LIM then some (S.put l (.dic false (dPut kvs k v))) else none
    | _, _ => none
  | _ => none
def setFld (S : Store) (o : Val) (f : Nat) (v : Val) : Option Store := match o with
  | .ref l => match S[l]? with
    | some (.ins c fs) => if fs.length < 900 then some (S.put l (.ins c (fput f v fs))) else none
    | _ => none
  | _ => none
def getFld (S : Store) (o : Val) (f : Nat) : Option Val := match o with
  | .ref l => match S[l]? with
    | some (.ins _ fs) => fget fs f
    | _ => none
  | _ => none
/-- the class of an instance -/
def clsAt (S : Store) : Val → Option Nat
  | .ref l => match S[l]? with
    | some (.ins c _) => some c
    | _ => none
  | _ => none
/-- op=, of whole numbers -/
def augop : BOp → Val → Val → Option Val
  | .add, .int i, .int j => some (.int (i + j))
  | .sub, .int i, .int j => some (.int (i - j))
  | _, _, _ => none
/-- a store to a target -/
def evalT (t : T) (v : Val) (ρ : Ev) (S : Store) : F := match t with
  | .name i => match ρ.put i v with
    | some ρ1 => .nx ρ1 S
    | none => .bad
  | .names is => match (lvOf S v).bind fun lv => lv.now S with
    | some xs => match ρ.puts is xs with
      | some ρ1 => .nx ρ1 S
      | none => .bad
    | none => .bad
  | .fld o f => (evalE P cf o ρ S).toF ρ fun w S1 => match setFld S1 w f v with
    | some S2 => .nx ρ S2
    | none => .bad
  | .sub o i => (evalE P cf o ρ S).toF ρ fun w S1 => (evalE P cf i ρ S1).toF ρ fun k S2 => match setSub S2 w k v with
    | some S3 => .nx ρ S3
    | none => .bad
def handle (P : Prog) (c : Nat) (ds : List Val) (ρ : Ev) (S : Store) (r : F) (hr : Ev → Store → F) (h : Nat) (slot : Option Nat) : F :=
  if P.sub c h = true then match slot with
    | none => match hr ρ S with
      | .exc _ _ _ _ => .bad
      | r => r
    | some i => match ρ.put i (.exc c ds) with
      | none => .bad
      | some ρ1 => match hr ρ1 S with
        | .nx ρ2 S2 => .nx (ρ2.set i none) S2
        | .rt v S2 => .rt v S2
        | .bk ρ2 S2 => .bk (ρ2.set i none) S2
        | .ct ρ2 S2 => .ct (ρ2.set i none) S2
        | _ => .bad
  else r
mutual
def evalS : S → Ev → Store → F
  | .nil, ρ, S => .nx ρ S
  | .cons a b, ρ, S => (evalS a ρ S).bind fun ρ1 S1 => evalS b ρ1 S1
  | .asg t e, ρ, S => (evalE P cf e ρ S).toF ρ fun v S1 => evalT P cf t v ρ S1
  | .swap is es, ρ, S => (evalEs P cf es ρ S).toF ρ fun vs S1 => match ρ.puts is vs with
    | some ρ1 => .nx ρ1 S1
    | none => .bad
  | .aug o f op e, ρ, S => (evalE P cf o ρ S).toF ρ fun w S1 => match getFld S1 w f with
    | none => .bad
    | some x => (evalE P cf e ρ S1).toF ρ fun v S2 => match augop op x v with
      | none => .bad
      | some y => if clsAt S1 w = clsAt S2 w then match setFld S2 w f y with
        | some S3 => .nx ρ S3
        | none => .bad
        else .bad
  | .ex e, ρ, S => (evalE P cf e ρ S).toF ρ fun _ S1 => .nx ρ S1
  | .ite c a b, ρ, S => (evalE P cf c ρ S).toF ρ fun v S1 => match v with
    | .bl t => if t = true then evalS a ρ S1 else evalS b ρ S1
    | _ => .bad
  | .whl c b, ρ, S => whlN (fun ρ S => (evalE P cf c ρ S).bind fun v S1 => ofO (truth v) S1) (fun ρ S => evalS b ρ S) P.fuel ρ S
  | .for_ tg one it b, ρ, S => (evalI P cf it ρ S).toF ρ fun iv S1 => (forN iv (Ev.tg tg one) (fun ρ S => evalS b ρ S) iv.n 0 ρ S1).unlk iv.lk
  | .ret e, ρ, S => (evalE P cf e ρ S).toF ρ fun v S1 => .rt v S1
  | .retN, _, S => .rt .non S
  | .brk, ρ, S => .bk ρ S
  | .cnt, ρ, S => .ct ρ S
  | .pass, ρ, S => .nx ρ S
  | .raise c ln, ρ, S => if ln.isNo = true then .exc c [] ρ S else (evalE P cf ln ρ S).toF ρ fun v S1 => .exc c [v] ρ S1
  | .try_ b hs o, ρ, S => match evalS b ρ S with
    | .nx ρ1 S1 => evalS o ρ1 S1
    | .exc c ds ρ1 S1 => evalH hs c ds ρ1 S1
    | r => r
  | _, _, _ => .bad
def evalH : S → Nat → List Val → Ev → Store → F
  | .hnil, _, _, _, _ => .bad
  | .hcons h slot b r, c, ds, ρ, S => handle P c ds ρ S (evalH r c ds ρ S) (fun ρ S => evalS b ρ S) h slot
  | _, _, _, _, _ => .bad
end
/-- what a def's body comes to -/
def F.fin (r : F) : R Val := match r with
  | .nx _ S => .ok .non S
  | .rt v S => .ok v S
  | .exc c ds _ S => .exc c ds S
  | _ => .bad
def env0 (ns : Nat) (vs : List Val) : Ev := vs.map some ++ List.replicate (ns - vs.length) none
def callN : Nat → Nat → List Val → Store → R Val
  | 0, _, _, _ => .bad
  | n + 1, f, vs, S => match P.defs f with
    | some d => if vs.length = d.np then (evalS P (callN n) d.body (env0 d.ns vs) S).fin else .bad
    | none => .bad
end MP
example (P : MP.Prog) (cf) : MP.evalE P cf (.bin .add (.int 3) (.int 4)) [] [] = .ok (.int 7) [] := rfl
/-! How the small Python's states lie in the machine's. -/
namespace MP
open PySem L2
/-- names by numbers -/
structure Nms where
  cls : Nat → Str
  fld : Nat → Str
  mth : Nat → Str
  fn : Nat → Str
  glb : Nat → Str
  isG : Nat → Bool
  isF : Nat → Bool
  isC : Nat → Bool
  isA : Nat → Bool
  isX : Nat → Bool
  isE : Nat → Bool
  isO : Nat → Bool
  isH : Nat → Bool
  frees : List Str
def TupAt (K : PySem.W.Frag) (H : Hp) (a : Addr) (ys : List V) : Prop := H a = some (.tup ys) ∨
  ∃ (o : Obj) (its : Array Value) (n : Nat), K.lookup a = some o ∧ o.cls = .type "tuple" ∧ o.data = .seq its n ∧ its.size ≤ sizeLine ∧ Vals ys its.toList
/-- what never changes where the store does not name it: tuples, exceptions, their dicts -/
def Fix : HO → Prop
  | .tup _ => True
  | .ext _ => True
  | .xd _ => True
  | .frz _ _ => True
  | _ => False
/-- an exception that was caught: its class, its dict -/
def exE (cls : Value) (d : Option Addr) (a : Addr) : HO := .ext fun h => ∃ (oe : Obj) (vs : Array Value), h.get? a = some oe ∧ oe.cls = cls ∧ oe.dict = d ∧ oe.data = .fields vs
theorem TupAt.sq {K : PySem.W.Frag} {H : Hp} {a : Addr} {ys : List V} (h : TupAt K H a ys) : SqT K H a ys := by
  rcases h with h | h
  · exact SqT.of h
  · exact .inr h
section
variable (K : PySem.W.Frag) (N : Nms)
/-- a raised thing: its class, its own dict -/
def RX0 (c : Nat) (cls : Value) : Prop := cls = .ref (He.ga K (N.cls c))
mutual
inductive RV (π : List Addr) (H : Hp) : Val → V → Prop
  | non : RV π H .non .non
  | bl (b : Bool) : RV π H (.bl b) (.bl b)
  | int (i : Int) : RV π H (.int i) (.int i)
  | str (x : Str) : RV π H (.str x) (.str x)
  | ref {l : Nat} {a : Addr} : π[l]? = some a → RV π H (.ref l) (.ref a)
  | tup {xs : List Val} {ys : List V} {a : Addr} : TupAt K H a ys → RVs π H xs ys → RV π H (.tup xs) (.ref a)
  | exc0 {c : Nat} {a : Addr} : N.isE c = true → H a = some (exE (.ref (He.ga K (N.cls c))) none a) → RV π H (.exc c []) (.ref a)
  | exc1 {c : Nat} {a d : Addr} {v : Val} {x : V} : N.isE c = true → H a = some (exE (.ref (He.ga K (N.cls c))) (some d) a) → H d = some (.xd [("line", x)]) → RV π H v x → RV π H (.exc c [v]) (.ref a)
inductive RVs (π : List Addr) (H : Hp) : List Val → List V → Prop
  | nil : RVs π H [] []
  | cons {x : Val} {xs : List Val} {y : V} {ys : List V} : RV π H x y → RVs π H xs ys → RVs π H (x :: xs) (y :: ys)
end
def RF (π : List Addr) (H : Hp) : List (Nat × Val) → List (Str × V) → Prop := Paired fun p q => q.1 = N.fld p.1 ∧ RV K N π H p.2 q.2
def RK (π : List Addr) (H : Hp) : List (Key × Val) → List (L2.Key × V) → Prop := Paired fun p q => q.1 = p.1 ∧ RV K N π H p.2 q.2
/-- what stands at a is this object -/
def RO (π : List Addr) (H : Hp) (a : Addr) : Ob → Prop
  | .lst xs => ∃ ys, H a = some (.lst ys) ∧ RVs K N π H xs ys
  | .fro xs => ∃ ys, (∃ o, H a = some (.frz o (.lst ys))) ∧ RVs K N π H xs ys
  | .dic false kvs => ∃ ys, H a = some (.dK ys) ∧ RK K N π H kvs ys
  | .dic true kvs => ∃ o ys, H a = some (.frz o (.dK ys)) ∧ RK K N π H kvs ys
  | .ins c fs => ∃ dx gs, H a = some (.ins (He.ga K (N.cls c)) dx gs) ∧ RF K N π H fs gs ∧ N.isC c = true ∧ (∀ p ∈ fs, N.isA p.1 = true)
structure RS (π : List Addr) (S : Store) (H : Hp) : Prop where
  len : π.length = S.length
  nd : π.Nodup
  at_ : ∀ (l : Nat) (a : Addr) (o : Ob), π[l]? = some a → S[l]? = some o → RO K N π H a o
structure RE (π : List Addr) (H : Hp) (ρ : Ev) (σ : St) : Prop where
  len : ρ.length = σ.length
  at_ : ∀ (i : Nat) (v : Val), ρ[i]? = some (some v) → ∃ x, σ[i]? = some (some x) ∧ RV K N π H v x
structure Ext (π : List Addr) (H : Hp) (π' : List Addr) (H' : Hp) : Prop where
  pre : ∃ t, π' = π ++ t
  new : ∀ b, b ∈ π' → b ∈ π ∨ H b = none
  keep : ∀ b o, b ∉ π → H b = some o → H' b = some o
  tup : ∀ b u, Fix u → H b = some u → H' b = some u
end
section
variable {K : PySem.W.Frag} {N : Nms} {π π' π₁ : List Addr} {H H' H₁ : Hp} {S : Store}
theorem Ext.refl : Ext π H π H := ⟨⟨[], by simp⟩, fun _ h => .inl h, fun _ _ _ h => h, fun _ _ _ h => h⟩
theorem Ext.trans (a : Ext π H π₁ H₁) (b : Ext π₁ H₁ π' H') : Ext π H π' H' := by
  obtain ⟨t, e1⟩ := a.pre
  obtain ⟨u, e2⟩ := b.pre
  have nin : ∀ c o, c ∉ π → H c = some o → c ∉ π₁ := fun c o h1 h2 h3 => by
    rcases a.new c h3 with h | h
    · exact h1 h
    · rw [h2] at h; cases h
  refine ⟨⟨t ++ u, by rw [e2, e1, List.append_assoc]⟩, fun c hc => ?_, fun c o h1 h2 => b.keep c o (nin c o h1 h2) (a.keep c o h1 h2), fun c ys f h => b.tup c ys f (a.tup c ys f h)⟩
  rcases b.new c hc with h | h
  · exact a.new c h
  · by_cases hp : c ∈ π
    · exact .inl hp
    · refine .inr ?_
      cases q : H c with
      | none => rfl
      | some o =>
        have := a.keep c o hp q
        rw [h] at this; cases this
theorem Ext.ix (x : Ext π H π' H') {l : Nat} {a : Addr} (h : π[l]? = some a) : π'[l]? = some a := by
  obtain ⟨t, e⟩ := x.pre
  rw [e, List.getElem?_append_left (List.getElem?_eq_some_iff.mp h).1]
  exact h
theorem TupAt.ext (x : Ext π H π' H') {a : Addr} {ys : List V} (h : TupAt K H a ys) : TupAt K H' a ys := by
  rcases h with h | h
  · exact .inl (x.tup _ _ trivial h)
  · exact .inr h
mutual
theorem RV.ext (x : Ext π H π' H') : ∀ {v : Val} {y : V}, RV K N π H v y → RV K N π' H' v y
  | _, _, .non => .non
  | _, _, .bl b => .bl b
  | _, _, .int i => .int i
  | _, _, .str s => .str s
  | _, _, .ref h => .ref (x.ix h)
  | _, _, .tup h r => .tup (h.ext x) (RVs.ext x r)
  | _, _, .exc0 h0 h => .exc0 h0 (x.tup _ _ trivial h)
  | _, _, .exc1 h0 h h2 r => .exc1 h0 (x.tup _ _ trivial h) (x.tup _ _ trivial h2) (RV.ext x r)
theorem RVs.ext (x : Ext π H π' H') : ∀ {vs : List Val} {ys : List V}, RVs K N π H vs ys → RVs K N π' H' vs ys
  | _, _, .nil => .nil
  | _, _, .cons r t => .cons (RV.ext x r) (RVs.ext x t)
end
theorem RF.ext (x : Ext π H π' H') {fs : List (Nat × Val)} {gs : List (Str × V)} (r : RF K N π H fs gs) : RF K N π' H' fs gs := Paired.mapP r fun _ _ h => ⟨h.1, h.2.ext x⟩
theorem RK.ext (x : Ext π H π' H') {fs : List (Key × Val)} {gs : List (L2.Key × V)} (r : RK K N π H fs gs) : RK K N π' H' fs gs := Paired.mapP r fun _ _ h => ⟨h.1, h.2.ext x⟩
theorem RE.ext (x : Ext π H π' H') {ρ : Ev} {σ : St} (r : RE K N π H ρ σ) : RE K N π' H' ρ σ := ⟨r.len, fun i v h => by
  obtain ⟨y, h1, h2⟩ := r.at_ i v h
  exact ⟨y, h1, h2.ext x⟩⟩
theorem RVs.length : ∀ {vs : List Val} {ys : List V}, RVs K N π H vs ys → vs.length = ys.length
  | _, _, .nil => rfl
  | _, _, .cons _ t => congrArg (· + 1) (RVs.length t)
theorem RVs.get : ∀ {vs : List Val} {ys : List V} {i : Nat} {v : Val}, RVs K N π H vs ys → vs[i]? = some v → ∃ y, ys[i]? = some y ∧ RV K N π H v y
  | _, _, _, _, .nil, e => by simp at e
  | _, _, 0, _, .cons r _, e => by
    simp at e
    subst e
    exact ⟨_, rfl, r⟩
  | _, _, i + 1, v, .cons _ t, e => by
    obtain ⟨y, h1, h2⟩ := RVs.get (i := i) (v := v) t (by simpa using e)
    exact ⟨y, by simpa using h1, h2⟩
theorem RVs.append : ∀ {vs ws : List Val} {ys zs : List V}, RVs K N π H vs ys → RVs K N π H ws zs → RVs K N π H (vs ++ ws) (ys ++ zs)
  | _, _, _, _, .nil, t => t
  | _, _, _, _, .cons r s, t => .cons r (RVs.append s t)
theorem RVs.take : ∀ {vs : List Val} {ys : List V} (n : Nat), RVs K N π H vs ys → RVs K N π H (vs.take n) (ys.take n)
  | _, _, 0, _ => .nil
  | _, _, n + 1, .nil => .nil
  | _, _, n + 1, .cons r t => .cons r (RVs.take n t)
theorem RVs.drop : ∀ {vs : List Val} {ys : List V} (n : Nat), RVs K N π H vs ys → RVs K N π H (vs.drop n) (ys.drop n)
  | _, _, 0, r => r
  | _, _, n + 1, .nil => .nil
  | _, _, n + 1, .cons _ t => RVs.drop n t
theorem RVs.set {v : Val} {y : V} (r : RV K N π H v y) : ∀ {vs : List Val} {ys : List V} (i : Nat), RVs K N π H vs ys → RVs K N π H (vs.set i v) (ys.set i y)
  | _, _, _, .nil => .nil
  | _, _, 0, .cons _ t => .cons r t
  | _, _, i + 1, .cons q t => .cons q (RVs.set r i t)
/-- all the addresses of a state are tracked, none a tuple -/
theorem RS.addr (r : RS K N π S H) {l : Nat} {a : Addr} (h : π[l]? = some a) : ∃ o, S[l]? = some o ∧ RO K N π H a o := by
  have hl : l < S.length := by rw [← r.len]; exact (List.getElem?_eq_some_iff.mp h).1
  exact ⟨S[l], by simp [hl], r.at_ l a _ h (by simp [hl])⟩
theorem RO.some {a : Addr} : ∀ {o : Ob}, RO K N π H a o → ∃ u, H a = some u ∧ True
  | .lst _, ⟨_, h, _⟩ => ⟨_, h, trivial⟩
  | .fro _, ⟨_, ⟨_, h⟩, _⟩ => ⟨_, h, trivial⟩
  | .dic false _, ⟨_, h, _⟩ => ⟨_, h, trivial⟩
  | .dic true _, ⟨_, _, h, _⟩ => ⟨_, h, trivial⟩
  | .ins _ _, ⟨_, _, h, _⟩ => ⟨_, h, trivial⟩
theorem RO.ext (x : Ext π H π' H') {a : Addr} (e : H' a = H a) : ∀ {o : Ob}, RO K N π H a o → RO K N π' H' a o
  | .lst _, ⟨ys, h, r⟩ => ⟨ys, e.trans h, r.ext x⟩
  | .fro _, ⟨ys, ⟨o, h⟩, r⟩ => ⟨ys, ⟨o, e.trans h⟩, r.ext x⟩
  | .dic false _, ⟨ys, h, r⟩ => ⟨ys, e.trans h, r.ext x⟩
  | .dic true _, ⟨o, ys, h, r⟩ => ⟨o, ys, e.trans h, r.ext x⟩
  | .ins _ _, ⟨dx, gs, h, r, q⟩ => ⟨dx, gs, e.trans h, r.ext x, q⟩
theorem RS.mem (r : RS K N π S H) {a : Addr} (h : a ∈ π) : ∃ u, H a = some u ∧ True := by
  obtain ⟨l, hl⟩ := List.mem_iff_getElem?.mp h
  obtain ⟨o, _, q⟩ := r.addr hl
  exact q.some
/-- a new thing that the store does not name (a tuple, a passing list) -/
theorem RS.aside (r : RS K N π S H) {p : Addr} {u : HO} (hp : H p = none) : Ext π H π (upd H p u) ∧ RS K N π S (upd H p u) := by
  have x : Ext π H π (upd H p u) := ⟨⟨[], by simp⟩, fun _ h => .inl h, fun b o _ h => by rw [upd_ne (ne_of_none h hp)]; exact h, fun b ys _ h => by rw [upd_ne (ne_of_none h hp)]; exact h⟩
  refine ⟨x, r.len, r.nd, fun l a o h1 h2 => ?_⟩
  have q := r.at_ l a o h1 h2
  obtain ⟨u', hu, _⟩ := q.some
  exact q.ext x (upd_ne (ne_of_none hu hp))
/-- a new thing that the store names -/
theorem RS.new (r : RS K N π S H) {p : Addr} {u : HO} {o : Ob} (hp : H p = none) (ho : ∀ {π' : List Addr} {H' : Hp}, Ext π H π' H' → H' p = some u → RO K N π' H' p o) : Ext π H (π ++ [p]) (upd H p u) ∧ RS K N (π ++ [p]) (S ++ [o]) (upd H p u) := by
  have hn : p ∉ π := fun h => by
    obtain ⟨v, hv, _⟩ := r.mem h
    rw [hp] at hv; cases hv
  have x : Ext π H (π ++ [p]) (upd H p u) := by
    refine ⟨⟨[p], rfl⟩, fun b h => ?_, fun b o _ h => by rw [upd_ne (ne_of_none h hp)]; exact h, fun b ys _ h => by rw [upd_ne (ne_of_none h hp)]; exact h⟩
    rcases List.mem_append.mp h with h | h
    · exact .inl h
    · have e : b = p := by simpa using h
      subst e
      exact .inr hp
  refine ⟨x, by simp [r.len], ?_, fun l a o' h1 h2 => ?_⟩
  · refine List.nodup_append.mpr ⟨r.nd, by simp, fun a ha b hb => ?_⟩
    have e : b = p := by simpa using hb
    subst e
    exact fun e => hn (e ▸ ha)
  · by_cases hl : l < π.length
    · rw [List.getElem?_append_left hl] at h1
      rw [List.getElem?_append_left (by rw [← r.len]; exact hl)] at h2
      have q := r.at_ l a o' h1 h2
      obtain ⟨u', hu, _⟩ := q.some
      exact q.ext x (upd_ne (ne_of_none hu hp))
    · have hl' : l = π.length := by
        have := (List.getElem?_eq_some_iff.mp h1).1
        simp at this
        omega
      subst hl'
      rw [List.getElem?_append_right (Nat.le_refl _)] at h1
      rw [List.getElem?_append_right (by rw [r.len]; exact Nat.le_refl _)] at h2
      simp [r.len] at h1 h2
      subst h1; subst h2
      exact ho x upd_same
/-- a thing that the store names is changed -/
theorem RS.put (r : RS K N π S H) {l : Nat} {a : Addr} {u : HO} {o : Ob} (hl : π[l]? = some a) (hk : ∃ u0, H a = some u0 ∧ ¬ Fix u0) (ho : ∀ {H' : Hp}, Ext π H π H' → H' a = some u → RO K N π H' a o) : Ext π H π (upd H a u) ∧ RS K N π (S.set l o) (upd H a u) := by
  have hm : a ∈ π := List.mem_iff_getElem?.mpr ⟨l, hl⟩
  obtain ⟨v, hv, hnt⟩ := hk
  have x : Ext π H π (upd H a u) := ⟨⟨[], by simp⟩, fun _ h => .inl h, fun b o hb h => by rw [upd_ne (by rintro rfl; exact hb hm)]; exact h, fun b ys f h => by
    rw [upd_ne]
    · exact h
    · intro e
      subst e
      rw [hv] at h
      cases h
      exact hnt f⟩
  refine ⟨x, by simp [r.len], r.nd, fun l' a' o' h1 h2 => ?_⟩
  by_cases e : l' = l
  · subst e
    rw [hl] at h1
    cases h1
    have hs : l' < S.length := by rw [← r.len]; exact (List.getElem?_eq_some_iff.mp hl).1
    rw [List.getElem?_set_self hs] at h2
    cases h2
    exact ho x upd_same
  · rw [List.getElem?_set_ne (Ne.symm e)] at h2
    have ne : a' ≠ a := fun q => e (nd_ix r.nd h1 (by rw [q]; exact hl))
    exact (r.at_ l' a' o' h1 h2).ext x (upd_ne ne)
theorem RE.get {ρ : Ev} {σ : St} (r : RE K N π H ρ σ) {i : Nat} {v : Val} (h : ρ[i]? = some (some v)) : ∃ x, σ[i]? = some (some x) ∧ RV K N π H v x := r.at_ i v h
theorem RE.set {ρ : Ev} {σ : St} (r : RE K N π H ρ σ) {i : Nat} {v : Val} {x : V} (q : RV K N π H v x) : RE K N π H (ρ.set i (some v)) (σ.set i (some x)) := by
  refine ⟨by simp [r.len], fun j w h => ?_⟩
  by_cases e : i = j
  · subst e
    by_cases hl : i < ρ.length
    · rw [List.getElem?_set_self hl] at h
      cases h
      exact ⟨x, by rw [List.getElem?_set_self (by rw [← r.len]; exact hl)], q⟩
    · rw [List.getElem?_eq_none (by simpa using hl)] at h; cases h
  · rw [List.getElem?_set_ne e] at h
    rw [List.getElem?_set_ne e]
    exact r.at_ j w h
theorem RE.clr {ρ : Ev} {σ : St} (r : RE K N π H ρ σ) (i : Nat) : RE K N π H (ρ.set i none) (σ.set i none) := by
  refine ⟨by simp [r.len], fun j w h => ?_⟩
  by_cases e : i = j
  · subst e
    by_cases hl : i < ρ.length
    · rw [List.getElem?_set_self hl] at h
      cases h
    · rw [List.getElem?_eq_none (by simpa using hl)] at h; cases h
  · rw [List.getElem?_set_ne e] at h
    rw [List.getElem?_set_ne e]
    exact r.at_ j w h
theorem RE.wipe {ρ : Ev} {σ : St} (r : RE K N π H ρ σ) : ∀ is : List Nat, RE K N π H (ρ.wipe is) (L2.wipe σ is)
  | [] => r
  | i :: is => (RE.wipe r is).clr i
end
/-! ### what is wished behind an expression, a statement -/
section
variable (K : PySem.W.Frag) (N : Nms)
/-- a raised thing lies so -/
def RX (π : List Addr) (H : Hp) (c : Nat) (ds : List Val) (cls : Value) (d : Option Addr) : Prop := N.isE c = true ∧ cls = .ref (He.ga K (N.cls c)) ∧ ((ds = [] ∧ d = none) ∨ ∃ v x a, ds = [v] ∧ d = some a ∧ H a = some (.xd [("line", x)]) ∧ RV K N π H v x)
def G {α : Type} (π : List Addr) (H : Hp) (r : R α) (A : α → Store → List Addr → Hp → Prop) (B : Nat → List Val → Store → List Addr → Hp → Prop) : Prop := match r with
  | .ok a S => ∀ π' H', Ext π H π' H' → RS K N π' S H' → A a S π' H'
  | .exc c ds S => ∀ π' H', Ext π H π' H' → RS K N π' S H' → B c ds S π' H'
  | .bad => False
/-- what is wished of an exception, at the slots σ -/
def BX (W : WX) (σ : St) : Nat → List Val → Store → List Addr → Hp → Prop := fun c ds _ π H => ∀ cls d, RX K N π H c ds cls d → W cls d σ H
def tE (W : WX) (m : Ev → Store → R Val) : TE := fun σ H Q => ∃ π S ρ, RS K N π S H ∧ RE K N π H ρ σ ∧ G K N π H (m ρ S) (fun v _ π' H' => ∀ x, RV K N π' H' v x → Q x H') (BX K N W σ)
def tEs (W : WX) (m : Ev → Store → R (List Val)) : TA := fun σ H Q => ∃ π S ρ, RS K N π S H ∧ RE K N π H ρ σ ∧ G K N π H (m ρ S) (fun vs _ π' H' => ∀ xs, RVs K N π' H' vs xs → Q xs H') (BX K N W σ)
def tCn (W : WX) (m : Ev → Store → R Val) : TT := fun σ H Q => ∃ π S ρ, RS K N π S H ∧ RE K N π H ρ σ ∧ G K N π H (m ρ S) (fun v _ _ H' => ∃ b, v = .bl b ∧ Q b H') (BX K N W σ)
def GF (π : List Addr) (H : Hp) (r : F) (W : WX) (D : Ends) : Prop := match r with
  | .nx ρ S => ∀ π' H' σ, Ext π H π' H' → RS K N π' S H' → RE K N π' H' ρ σ → D.nx σ H'
  | .bk ρ S => ∀ π' H' σ, Ext π H π' H' → RS K N π' S H' → RE K N π' H' ρ σ → D.bk σ H'
  | .ct ρ S => ∀ π' H' σ, Ext π H π' H' → RS K N π' S H' → RE K N π' H' ρ σ → D.ct σ H'
  | .rt v S => ∀ π' H' x, Ext π H π' H' → RS K N π' S H' → RV K N π' H' v x → D.rt x H'
  | .exc c ds ρ S => ∀ π' H' σ, Ext π H π' H' → RS K N π' S H' → RE K N π' H' ρ σ → BX K N W σ c ds S π' H'
  | .bad => False
def tS (W : WX) (m : Ev → Store → F) : TS := fun D σ H => ∃ π S ρ, RS K N π S H ∧ RE K N π H ρ σ ∧ GF K N π H (m ρ S) W D
end
section
variable {K : PySem.W.Frag} {N : Nms} {π π' π₁ : List Addr} {H H' H₁ : Hp} {α β : Type} {A A' : α → Store → List Addr → Hp → Prop} {B B' : Nat → List Val → Store → List Addr → Hp → Prop}
theorem G.ext (x : Ext π H π₁ H₁) : ∀ {r : R α}, G K N π H r A B → G K N π₁ H₁ r A B
  | .ok _ _, g => fun _ _ y q => g _ _ (x.trans y) q
  | .exc _ _ _, g => fun _ _ y q => g _ _ (x.trans y) q
  | .bad, g => g
theorem G.imp : ∀ {r : R α}, G K N π H r A B → (∀ a S π' H', Ext π H π' H' → RS K N π' S H' → A a S π' H' → A' a S π' H') → (∀ c ds S π' H', Ext π H π' H' → B c ds S π' H' → B' c ds S π' H') → G K N π H r A' B'
  | .ok _ _, g, h, _ => fun _ _ y q => h _ _ _ _ y q (g _ _ y q)
  | .exc _ _ _, g, _, h => fun _ _ y q => h _ _ _ _ _ y (g _ _ y q)
  | .bad, g, _, _ => g
theorem G.bind {r : R α} {k : α → Store → R β} {A : β → Store → List Addr → Hp → Prop} (g : G K N π H (r.bind k) A B) : G K N π H r (fun a S π' H' => G K N π' H' (k a S) A B) B := by
  cases r with
  | ok a S => exact fun _ _ y _ => G.ext y g
  | exc c ds S => exact g
  | bad => exact g
/-- r, then k -/
theorem G.seq {r : R α} {k : α → Store → R β} {A : β → Store → List Addr → Hp → Prop} {A' : α → Store → List Addr → Hp → Prop} (g : G K N π H (r.bind k) A B) (h : ∀ a S π' H', Ext π H π' H' → RS K N π' S H' → G K N π' H' (k a S) A B → A' a S π' H') : G K N π H r A' B :=
  (G.bind g).imp h fun _ _ _ _ _ _ b => b
theorem G.ofO {o : Option α} {S : Store} (g : G K N π H (ofO o S) A B) (r : RS K N π S H) : ∃ a, o = some a ∧ A a S π H := by
  cases o with
  | none => exact g.elim
  | some a => exact ⟨a, rfl, g _ _ Ext.refl r⟩
theorem G.ok {a : α} {S : Store} (g : G K N π H (.ok a S) A B) (r : RS K N π S H) : A a S π H := g _ _ Ext.refl r
theorem GF.ext (x : Ext π H π₁ H₁) {W : WX} {D : Ends} : ∀ {r : F}, GF K N π H r W D → GF K N π₁ H₁ r W D
  | .nx _ _, g => fun _ _ _ y q => g _ _ _ (x.trans y) q
  | .bk _ _, g => fun _ _ _ y q => g _ _ _ (x.trans y) q
  | .ct _ _, g => fun _ _ _ y q => g _ _ _ (x.trans y) q
  | .rt _ _, g => fun _ _ _ y q => g _ _ _ (x.trans y) q
  | .exc _ _ _ _, g => fun _ _ _ y q => g _ _ _ (x.trans y) q
  | .bad, g => g
/-- an expression within a statement -/
theorem GF.toF {r : R α} {ρ : Ev} {k : α → Store → F} {W : WX} {D : Ends} {σ : St} (g : GF K N π H (r.toF ρ k) W D) (e : RE K N π H ρ σ) (h : ∀ a S π' H', Ext π H π' H' → RS K N π' S H' → GF K N π' H' (k a S) W D → A a S π' H') : G K N π H r A (BX K N W σ) := by
  cases r with
  | ok a S => exact fun π' H' y q => h a S π' H' y q (GF.ext y g)
  | exc c ds S => exact fun π' H' y q => g π' H' σ y q (e.ext y)
  | bad => exact g
/-- a statement, then k -/
theorem GF.bind {r : F} {k : Ev → Store → F} {W : WX} {D : Ends} (g : GF K N π H (r.bind k) W D) : GF K N π H r W { D with nx := fun σ H' => ∃ π' S ρ, RS K N π' S H' ∧ RE K N π' H' ρ σ ∧ GF K N π' H' (k ρ S) W D } := by
  cases r with
  | nx ρ S => exact fun π' H' σ y q e => ⟨π', S, ρ, q, e, GF.ext y g⟩
  | _ => exact g
end
theorem PE.mono {X : Cx} {e : Expr} {t t' : TE} (h : PE X e t) (i : ∀ σ H Q, t' σ H Q → t σ H Q) : PE X e t' := ⟨fun pins s σ H Q I q => h.run pins s σ H Q I (i σ H Q q)⟩
theorem PT.mono {X : Cx} {e : Expr} {t t' : TT} (h : PT X e t) (i : ∀ σ H Q, t' σ H Q → t σ H Q) : PT X e t' := ⟨fun pins s σ H Q I q => h.run pins s σ H Q I (i σ H Q q)⟩
theorem PW.mono {X : Cx} {e : Expr} {t t' : TT} (h : PW X e t) (i : ∀ σ H Q, t' σ H Q → t σ H Q) : PW X e t' := ⟨fun wh pins s σ H Q I q => h.run wh pins s σ H Q I (i σ H Q q)⟩
theorem PA.mono {X : Cx} {e : List Expr} {t t' : TA} (h : PA X e t) (i : ∀ σ H Q, t' σ H Q → t σ H Q) : PA X e t' := ⟨fun pos pins s σ H Q I q => h.run pos pins s σ H Q I (i σ H Q q)⟩
theorem PS.mono {X : Cx} {e : Stmt} {t t' : TS} (h : PS X e t) (i : ∀ D σ H, t' D σ H → t D σ H) : PS X e t' := ⟨fun pins s σ H D I q => h.run pins s σ H D I (i D σ H q)⟩
theorem PSs.mono {X : Cx} {e : List Stmt} {t t' : TS} (h : PSs X e t) (i : ∀ D σ H, t' D σ H → t D σ H) : PSs X e t' := ⟨fun pins s σ H D I q => h.run pins s σ H D I (i D σ H q)⟩
end MP
/-! Each kind of expression comes to what we say. -/
namespace MP
open PySem L2
structure Sc where
  N : List Str
  sc : Scope
  blk : Bool
def visB (sc : Scope) (x : Str) : Bool := match sc.names.lookup x with
  | some .local => true
  | some .cell => true
  | some .free => true
  | _ => false
def glB (sc : Scope) (x : Str) : Bool := match sc.names.lookup x with
  | some .globalImplicit => true
  | _ => false
def tgB (s : Sc) (x : Str) : Bool := match s.sc.names.lookup x with
  | some .local => true
  | some .cell => !s.blk
  | _ => false
theorem vis_of {sc : Scope} {x : Str} (h : visB sc x = true) : Vis sc x := by
  unfold visB at h
  unfold Vis
  split at h <;> simp_all
theorem gl_of {X : Cx} {sc : Scope} {x : Str} (e : X.env.scope = sc) (h : glB sc x = true) : Gl X x := by
  unfold glB at h
  show X.env.scope.names.lookup x = some .globalImplicit
  rw [e]
  split at h
  · assumption
  · cases h
def okName (x : Str) : Bool := !(x == ("__debug__" : Str)) && !(x == ("__classdict__" : Str)) && !(x == ("__name__" : Str))
theorem okName_of {x : Str} (h : okName x = true) : (x == ("__debug__" : Str)) = false ∧ (x == ("__classdict__" : Str)) = false ∧ x ≠ ("__name__" : Str) := by
  unfold okName at h
  simp only [Bool.and_eq_true, Bool.not_eq_true'] at h
  exact ⟨h.1.1, h.1.2, fun e => by rw [e] at h; exact absurd h.2 (by decide +kernel)⟩
/-- a def's promise: what it comes to in the small Python -/
def spN (P : Prog) (N : Nms) (K : PySem.W.Frag) (n f : Nat) : Sp := fun vs H Q E => ∃ π S args, RS K N π S H ∧ RVs K N π H args vs ∧
  G K N π H (callN P n f args S) (fun v _ π' H' => ∀ x, RV K N π' H' v x → Q x H') (fun c ds _ π' H' => ∀ cls d, RX K N π' H' c ds cls d → E cls d H')
/-- a def at a that keeps it -/
def Cal (P : Prog) (N : Nms) (Pr : Program) (w : World) (K : PySem.W.Frag) (mg : Str → Option Value) (base : Heap) (n f : Nat) (a : Addr) : Prop :=
  ∃ fd ps, FnOk Pr w K mg base (L2N.CX Pr w) (2 * n + 2) a fd ps (spN P N K n f) ∧ ∀ k, ∃ dvs dss, Binds K fd ps dss ∧ Vals dvs dss ∧ ∀ π H, RVs K N π H ((P.dfl f).drop k) dvs
/-- what an exception class made with a line says -/
def spO (K : PySem.W.Frag) (C : Addr) : Sp := fun vs H Q _ => ∃ (a : Addr) (y : V), vs = [.ref a, y] ∧ H a = some (exo a C none) ∧
  ∀ dx, H dx = none → dx ≠ a → Q .non (upd (upd H dx (exd dx [("line", y)])) a (exo a C (some dx)))
/-- C.__init__ as it is read off the class -/
structure Bi (K : PySem.W.Frag) (C : Addr) (v : Value) : Prop where
  rd : PySem.W.readsIn K C (.type "type") = true
  sp : PySem.W.specialIn K (.ref C) "__getattribute__" = some (some (.builtin "type.__getattribute__"))
  fi : PySem.W.findCls K (.ref C) (.type "type") "__init__" = some (.val v)
  kp : PySem.W.keepIn K v = true ∨ ∃ s, v = .builtin s
  hi : PySem.W.handedIn v = true
/-- what the classes say -/
structure Fx (P : Prog) (N : Nms) (K : PySem.W.Frag) (mg : Str → Option Value) : Prop where
  xc : ∀ c, N.isE c = true → mg (N.cls c) = some (.ref (He.ga K (N.cls c))) ∧ ExcC K (He.ga K (N.cls c)) ∧ PySem.W.findIn K (.ref (He.ga K (N.cls c))) "line" = some none ∧ PySem.W.kitOne K (.ref (He.ga K (N.cls c))) (.type "ValueError") = some true
  xs : ∀ c h, N.isE c = true → N.isE h = true → PySem.W.exmOne K (.ref (He.ga K (N.cls c))) (.ref (He.ga K (N.cls h))) = some (P.sub c h)
  line : ∀ f, P.line f = true → N.fld f = "line"
  ic : ∀ c, N.isC c = true → C8.InsC K (He.ga K (N.cls c)) ∧ mg (N.cls c) = some (.ref (He.ga K (N.cls c)))
  is : ∀ c h, (N.isC c = true ∨ N.isE c = true) → (N.isC h = true ∨ N.isE h = true) → PySem.W.kitOne K (.ref (He.ga K (N.cls c))) (.ref (He.ga K (N.cls h))) = some (P.sub c h)
/-- what the module says -/
structure Md (P : Prog) (N : Nms) (Pr : Program) (w : World) (K : PySem.W.Frag) (mg : Str → Option Value) (base : Heap) (n : Nat) : Prop where
  glob : ∀ g, N.isG g = true → ∃ u y, mg (N.glb g) = some u ∧ RelV y u ∧ ∀ π H, RV K N π H (P.glob g) y
  free : ∀ x, N.frees.contains x = true → mg x = none
  call : ∀ f, N.isF f = true → ∃ a, mg (N.fn f) = some (.ref a) ∧ PySem.W.keepIn K (.ref a) = true ∧ Cal P N Pr w K mg base n f a
  meth : ∀ c m f, P.meth c m = some f → ∃ a, Meth K (He.ga K (N.cls c)) (N.mth m) a ∧ Cal P N Pr w K mg base n f a ∧ (∀ g, N.isA g = true → N.mth m ≠ N.fld g)
  init : ∀ c f, P.init c = some f → N.isC c = true ∧ ∃ a, mg (N.cls c) = some (.ref (He.ga K (N.cls c))) ∧ Mk K (He.ga K (N.cls c)) a ∧ Cal P N Pr w K mg base n f a ∧ Bi K (He.ga K (N.cls c)) (.ref a)
  cls : ∀ c, N.isC c = true → Cls K (He.ga K (N.cls c)) ∧ ∀ f, N.isA f = true → NoAttr K (He.ga K (N.cls c)) (N.fld f)
  inj : ∀ f g, N.isA f = true → N.isA g = true → N.fld f = N.fld g → f = g
  exc : ∀ c, N.isX c = true → N.isE c = true ∧ mg (N.cls c) = some (.ref (He.ga K (N.cls c))) ∧ PySem.W.excIn K (He.ga K (N.cls c)) He.veBase "ValueError.__new__" = true ∧ PySem.W.keepIn K (.ref (He.ga K (N.cls c))) = true ∧ PySem.W.subIn K (.ref (He.ga K (N.cls c))) (.type "BaseException") = some true ∧ PySem.W.typeIn K (.ref (He.ga K (N.cls c))) = some (.type "type")
  fx : Fx P N K mg
  hot : ∀ f, N.isH f = true → ∃ a fd ps, mg (N.fn f) = some (.ref a) ∧ PySem.W.keepIn K (.ref a) = true ∧ L2H.FnH Pr w K mg base (L2N.CX Pr w) 1 a fd ps (spN P N K n f) ∧ Binds K fd ps []
  own : ∀ c, N.isO c = true → N.isE c = true ∧ ∃ fI fd ps, OexC K (He.ga K (N.cls c)) ∧ PySem.W.findIn K (.ref (He.ga K (N.cls c))) "__init__" = some (some (.ref fI)) ∧ PySem.W.typeIn K (.ref fI) = some (.type "function") ∧
    FnOk Pr w K mg base (L2N.CX Pr w) 1 fI fd ps (spO K (He.ga K (N.cls c))) ∧ Binds K fd ps []
structure CE (P : Prog) (N : Nms) (n : Nat) (s : Sc) (X : Cx) (W : WX) : Prop where
  hN : X.N = s.N
  nd : s.N.Nodup
  hsc : X.env.scope = s.sc
  fn : s.blk = false → ∀ x, X.fn x = true
  calm : X.calm = true
  room : Room (2 * n + 3) X.A
  tk : L2N.Takes X W
  md : Md P N X.prog X.w X.K X.mg X.base n
/-- an expression of a form that nothing special is done about -/
def pl : Expr → Bool
  | .Starred .. => false
  | .Set .. => false
  | .Slice .. => false
  | .Call (.Name _ _) [] [] _ => false
  | _ => true
theorem pl_star {e : Expr} (h : pl e = true) (es : List Expr) (env : Env) : starEach (e :: es) env = (false, eval e env) :: starEach es env := by
  cases e <;> first | rfl | cases h
theorem pl_attr {e : Expr} (h : pl e = true) (f : Str) (env : Env) (t : Sem Value) : attributeBase e f env t = t := by
  cases e <;> try rfl
  rename_i f a k p
  cases f <;> try rfl
  cases a <;> try rfl
  cases k <;> first | rfl | cases h
theorem pl_sub {e : Expr} (h : pl e = true) (o i : Value) : subscripted e false o i = operate [o, i] (getItem o i) := by
  cases e <;> first | rfl | cases h
theorem pl_fold {e : Expr} (h : pl e = true) (env : Env) (x : Value) : foldedSetIterable e env x = pure x := by
  cases e <;> first | rfl | cases h
theorem pl_mark {e : Expr} (h : pl e = true) (op : CmpOp) : behindInMarks op e = false := by
  cases e <;> first | rfl | cases h
/-- a value whose store is nothing special -/
def noComp : Expr → Bool
  | .ListComp .. => false
  | .SetComp .. => false
  | .DictComp .. => false
  | _ => true
theorem noComp_sw {e : Expr} (h : noComp e = true) (t : Option Expr) (l : Nat) (env : Env) : swapsWith e t l env = pure false := by
  cases e <;> first | rfl | cases h
/-- no test of a form of its own -/
def noTest : Expr → Bool
  | .UnaryOp .. => false
  | .BoolOp .. => false
  | .IfExp .. => false
  | .Compare .. => false
  | _ => true
theorem noTest_is {e : Expr} (h : noTest e = true) (env : Env) (whole : Sem Value) : isTrue e env whole = (do let v ← whole; standAt e.pos; holding [v] (truthy v)) := by
  cases e <;> first | rfl | cases h
def plA : Expr → Bool
  | .Starred .. => false
  | _ => true
theorem plA_star {e : Expr} (h : plA e = true) (es : List Expr) (env : Env) : starEach (e :: es) env = (false, eval e env) :: starEach es env := by
  cases e <;> first | rfl | cases h
theorem pl_plA {e : Expr} (h : pl e = true) : plA e = true := by
  cases e <;> first | rfl | cases h
theorem all_plA {es : List Expr} (h : es.all pl = true) : es.all plA = true := by
  rw [List.all_eq_true] at h ⊢
  exact fun e he => pl_plA (h e he)
theorem backTo_nostar {es : List Expr} (h : es.all plA = true) (pos : Pos) (env : Env) : (backTo pos (starEach es env)).any (·.1) = false := by
  induction es with
  | nil => rfl
  | cons e r ih =>
    simp only [List.all_cons, Bool.and_eq_true] at h
    rw [plA_star h.1]
    simp only [backTo, List.map_cons, List.any_cons]
    exact ih h.2
section
variable {P : Prog} {cf : Nat → List Val → Store → R Val} {N : Nms} {n : Nat} {s : Sc} {X : Cx} {W : WX} {pos pos' : Pos}
abbrev tEv (P : Prog) (cf : Nat → List Val → Store → R Val) (N : Nms) (X : Cx) (W : WX) (e : E) : TE := tE X.K N W (evalE P cf e)
theorem s_const {v : Val} {y : V} {ex : Expr} {e : E} (h : PE X ex (tC y)) (he : ∀ ρ S, evalE P cf e ρ S = .ok v S) (r : ∀ π H, RV X.K N π H v y) : PE X ex (tEv P cf N X W e) := by
  refine PE.mono h fun σ H Q ⟨π, S, ρ, hS, hE, g⟩ => ?_
  rw [he] at g
  exact G.ok g hS y (r π H)
theorem s_int {i j} : PE X (.Constant (.int i) j pos) (tEv P cf N X W (.int i)) := s_const pe_int (fun _ _ => by simp only [evalE]) fun _ _ => .int i
theorem s_bl {b j} : PE X (.Constant (.bool b) j pos) (tEv P cf N X W (.bl b)) := s_const pe_bl (fun _ _ => by simp only [evalE]) fun _ _ => .bl b
theorem s_non {j} : PE X (.Constant .none j pos) (tEv P cf N X W .non) := s_const pe_non (fun _ _ => by simp only [evalE]) fun _ _ => .non
theorem s_str {x j} : PE X (.Constant (.str x) j pos) (tEv P cf N X W (.str x)) := s_const pe_str (fun _ _ => by simp only [evalE]) fun _ _ => .str x
theorem s_glob (c : CE P N n s X W) {g : Nat} (hg : N.isG g = true) (hl : glB s.sc (N.glb g) = true) (ho : okName (N.glb g) = true) : PE X (.Name (N.glb g) pos) (tEv P cf N X W (.glob g)) := by
  obtain ⟨u, y, h1, h2, h3⟩ := c.md.glob g hg
  exact s_const (pe_glob (gl_of c.hsc hl) h1 h2 (okName_of ho).1) (fun _ _ => by simp only [evalE]) h3
theorem s_var (c : CE P N n s X W) {i : Nat} {x : Str} (h1 : s.N[i]? = some x) (h2 : visB s.sc x = true) (ho : okName x = true) : PE X (.Name x pos) (tEv P cf N X W (.var i)) := by
  obtain ⟨o1, o2, _⟩ := okName_of ho
  refine PE.mono (pe_var (i := i) (by rw [c.hN]; exact h1) (by rw [c.hsc]; exact vis_of h2) o1 o2) fun σ H Q ⟨π, S, ρ, hS, hE, g⟩ => ?_
  simp only [evalE] at g
  split at g
  · rename_i v e
    obtain ⟨y, h1, h2⟩ := hE.get e
    exact ⟨y, h1, G.ok g hS y h2⟩
  · exact g.elim
/-! ### two-place operations -/
theorem mid_log {i : Int} (h : mid i = true) : i.natAbs.log2 < 600 := by
  unfold mid at h
  have h := of_decide_eq_true h
  rcases Nat.eq_zero_or_pos i.natAbs with e | e
  · rw [e]; decide
  · refine (Nat.log2_lt (by omega)).mpr (Nat.lt_of_lt_of_le (m := 2 ^ 512) ?_ (Nat.pow_le_pow_right (by decide) (by decide)))
    have e2 : (2 : Nat) ^ 512 = 13407807929942597099574024998205846127479365820592393377723561443721764030073546976801874298166903427690031858186486050853753882811946569946433649006084096 := by decide +kernel
    rw [e2]
    omega
theorem small_iff {i : Int} (h : small i = true) : -(2 ^ 64) < i ∧ i < 2 ^ 64 := by
  unfold small at h
  have h := of_decide_eq_true h
  have e2 : (2 : Int) ^ 64 = 18446744073709551616 := by decide +kernel
  rw [e2]
  exact h
theorem LIM_line {n : Nat} (h : n ≤ LIM) : n ≤ sizeLine := Nat.le_trans h (by decide +kernel)
theorem RVs.ints : ∀ {is : List Int} {K : PySem.W.Frag} {π : List Addr} {H : Hp}, RVs K N π H (is.map Val.int) (is.map V.int)
  | [], _, _, _ => .nil
  | i :: r, _, _, _ => .cons (.int i) RVs.ints
theorem rep_size (a : Array Nat) : ∀ (n : Nat) (b : Array Nat), ((List.replicate n a).foldl (· ++ ·) b).size = b.size + n * a.size
  | 0, b => by simp
  | n + 1, b => by
    rw [List.replicate_succ, List.foldl_cons, rep_size a n (b ++ a), Array.size_append, Nat.succ_mul]
    omega
theorem op_mulS {X : Cx} : OpR X (binaryOp .Mult) (fun x y H Q => ∃ i n, x = .str i ∧ y = .int n ∧ i.length ≤ 1024 ∧ n ≤ 1024 ∧ -1024 ≤ n ∧ Q (.str (strRep i n)) H) := by
  intro pins s σ H x y v u Q I rx ry h
  obtain ⟨i, n, rfl, rfl, h1, h2, h3, q⟩ := h
  obtain ⟨t, rfl⟩ := rx
  obtain ⟨t', rfl⟩ := ry
  have hm : i.length * n.toNat ≤ 1048576 := by
    have := Nat.mul_le_mul h1 (show n.toNat ≤ 1024 by omega)
    simpa using this
  refine PySem.P.mul_str ?_ (fun a _ => ?_) (fun a _ => ?_) ?_
  · rw [decide_eq_false (by omega), decide_eq_false (by omega)]; rfl
  · have hd : (1024 : Int) ≤ (2 ^ 63 - 1) / n := by
      rw [Int.le_ediv_iff_mul_le (by omega)]
      have : (1024 : Int) * n ≤ 1024 * 1024 := by omega
      omega
    omega
  · unfold PySem.Builtin.Str.tooLong
    rw [decide_eq_false (by rw [show sizeLine = 16777216 from by decide +kernel]; omega)]
  · unfold strRep at q
    by_cases c1 : n < 1
    · rw [if_pos c1] at q ⊢
      exact ⟨by decide, ⟨.str Str.empty, H, I.tok _, ⟨_, rfl⟩, q⟩⟩
    · rw [if_neg c1] at q ⊢
      by_cases c2 : (n == 1 || i.length == 0) = true
      · rw [if_pos c2] at q ⊢
        exact ⟨.str i, H, I, ⟨_, rfl⟩, q⟩
      · rw [if_neg c2] at q ⊢
        refine ⟨?_, ⟨.str ⟨(List.replicate n.toNat i.cps).foldl (· ++ ·) #[]⟩, H, I.tok _, ⟨_, rfl⟩, q⟩⟩
        show ((List.replicate n.toNat i.cps).foldl (· ++ ·) #[]).size ≤ _
        rw [rep_size]
        have : i.cps.size = i.length := rfl
        rw [this, Nat.mul_comm]
        simp
        rw [show sizeLine = 16777216 from by decide +kernel]
        omega
def opOf : BOp → Operator
  | .add => .Add | .sub => .Sub | .mul => .Mult | .fdiv => .FloorDiv | .mod => .Mod | .pow => .Pow | .shl => .LShift | .shr => .RShift | .band => .BitAnd | .bor => .BitOr | .bxor => .BitXor
def rOp (K : PySem.W.Frag) : BOp → R2
  | .add => fun x y H Q => (rI0 (fun i j => .int (i + j)) x y H Q ∨ (∃ i j, x = .str i ∧ y = .str j ∧ i.length + j.length ≤ sizeLine ∧ Q (.str (i ++ j)) H)) ∨ rCatA K x y H Q
  | .sub => rI0 fun i j => .int (i - j)
  | .mul => fun x y H Q => (rI CMul (fun i j => .int (i * j)) x y H Q ∨ rI CMulW (fun i j => .int (i * j)) x y H Q) ∨ (∃ i n, x = .str i ∧ y = .int n ∧ i.length ≤ 1024 ∧ n ≤ 1024 ∧ -1024 ≤ n ∧ Q (.str (strRep i n)) H)
  | .fdiv => rI CDivW fun i j => .int (i / j)
  | .mod => rI (fun _ j => 0 < j) fun i j => .int (i % j)
  | .pow => rI CPow fun i j => .int (i ^ j.toNat)
  | .shl => rI CPow fun i j => .int (i * 2 ^ j.toNat)
  | .shr => rI (fun _ j => 0 ≤ j) fun i j => .int (i / 2 ^ j.toNat)
  | .band => rI0 fun i j => .int (Builtin.bitAnd i j)
  | .bor => rI0 fun i j => .int (Builtin.bitOr i j)
  | .bxor => rI0 fun i j => .int (Builtin.bitXor i j)
theorem opR : ∀ o : BOp, OpR X (binaryOp (opOf o)) (rOp X.K o)
  | .add => (op_add.or op_add_str).or op_catA
  | .sub => op_sub
  | .mul => (op_mul.or op_mulW).or op_mulS
  | .fdiv => op_fdivW
  | .mod => op_mod
  | .pow => op_pow
  | .shl => op_shl
  | .shr => op_shr
  | .band => op_and
  | .bor => op_or
  | .bxor => op_xor
end
section
variable {K : PySem.W.Frag} {N : Nms} {π : List Addr} {H : Hp} {S : Store} {v w z : Val} {x y : V} {Q : VK}
theorem RVs.ne {xs : List Val} {ys : List V} (r : RVs K N π H xs ys) (h : ys = []) : xs = [] := by
  subst h
  cases r
  rfl
theorem op_ok {o : BOp} (hS : RS K N π S H) (r1 : RV K N π H v x) (r2 : RV K N π H w y) (e : binop o v w = some z)
    (q : ∀ π' H' r, Ext π H π' H' → RS K N π' S H' → RV K N π' H' z r → Q r H') : rOp K o x y H Q := by
  have q0 : ∀ r, RV K N π H z r → Q r H := fun r h => q π H r Ext.refl hS h
  have two : ∀ {g : Int → Int → Int}, (∃ i j, v = .int i ∧ w = .int j ∧ z = .int (g i j)) → rI0 (fun i j => .int (g i j)) x y H Q := fun {g} ⟨i, j, e1, e2, e3⟩ => by
    subst e1; subst e2; subst e3
    cases r1; cases r2
    exact ⟨i, j, rfl, rfl, q0 _ (.int _)⟩
  have twoC : ∀ {C : Int → Int → Prop} {g : Int → Int → Int}, (∃ i j, v = .int i ∧ w = .int j ∧ C i j ∧ z = .int (g i j)) → rI C (fun i j => .int (g i j)) x y H Q := fun {C g} ⟨i, j, e1, e2, c, e3⟩ => by
    subst e1; subst e2; subst e3
    cases r1; cases r2
    exact ⟨i, j, rfl, rfl, c, q0 _ (.int _)⟩
  cases o with
  | add =>
    cases v with
    | int i =>
      cases w <;> simp [binop] at e
      exact .inl (.inl (two ⟨_, _, rfl, rfl, e.symm⟩))
    | str a =>
      cases w <;> simp [binop] at e
      obtain ⟨hl, e⟩ := e
      subst e
      cases r1; cases r2
      exact .inl (.inr ⟨_, _, rfl, rfl, LIM_line hl, q0 _ (.str _)⟩)
    | tup a =>
      cases w with
      | tup b =>
        simp [binop] at e
        obtain ⟨hl, e⟩ := e
        subst e
        cases r1 with
        | tup t1 s1 =>
          cases r2 with
          | tup t2 s2 =>
            rename_i ys1 a1 ys2 a2
            have l1 := s1.length
            have l2 := s2.length
            refine .inr ⟨a1, a2, ys1, ys2, rfl, rfl, t1.sq, t2.sq, LIM_line ?_, fun e => ?_, fun _ e => ?_, fun _ _ p hp => ?_⟩
            · omega
            · have e2 := s1.ne e
              subst e2
              refine q0 _ (.tup t2 ?_)
              simpa using s2
            · have e2 := s2.ne e
              subst e2
              refine q0 _ (.tup t1 ?_)
              simpa using s1
            · obtain ⟨x1, x2⟩ := hS.aside (u := .tup (ys1 ++ ys2)) hp
              exact q _ _ _ x1 x2 (.tup (.inl upd_same) ((s1.append s2).ext x1))
      | _ => simp [binop] at e
    | _ => cases w <;> simp [binop] at e
  | sub =>
    cases v <;> cases w <;> simp [binop] at e
    exact two ⟨_, _, rfl, rfl, e.symm⟩
  | mul =>
    cases v <;> cases w <;> simp [binop] at e
    · obtain ⟨c, e⟩ := e
      rcases c with (c | c) | c
      · exact .inl (.inl (twoC (C := CMul) ⟨_, _, rfl, rfl, .inl (small_iff c), e.symm⟩))
      · exact .inl (.inl (twoC (C := CMul) ⟨_, _, rfl, rfl, .inr (small_iff c), e.symm⟩))
      · refine .inl (.inr (twoC (C := CMulW) ⟨_, _, rfl, rfl, ?_, e.symm⟩))
        have h1 := mid_log c.1
        have h2 := mid_log c.2
        unfold CMulW
        omega
    · obtain ⟨⟨a1, a2, a3⟩, e⟩ := e
      subst e
      cases r1; cases r2
      exact .inr ⟨_, _, rfl, rfl, a1, a2, a3, q0 _ (.str _)⟩
  | fdiv =>
    cases v <;> cases w <;> simp [binop] at e
    obtain ⟨⟨c1, c2⟩, e⟩ := e
    refine twoC (C := CDivW) ⟨_, _, rfl, rfl, ⟨c1, ?_⟩, e.symm⟩
    exact Nat.lt_of_lt_of_le (mid_log c2) (by decide)
  | mod =>
    cases v <;> cases w <;> simp [binop] at e
    exact twoC (C := fun _ j => 0 < j) ⟨_, _, rfl, rfl, e.1, e.2.symm⟩
  | pow =>
    cases v <;> cases w <;> simp [binop] at e
    obtain ⟨⟨c1, c2, c3⟩, e⟩ := e
    refine twoC (C := CPow) ⟨_, _, rfl, rfl, ⟨c1, by omega, ?_⟩, e.symm⟩
    have h := small_iff c3
    have e2 : (2 : Int) ^ 64 = ((2 ^ 64 : Nat) : Int) := by decide +kernel
    rw [e2] at h
    omega
  | shl =>
    cases v <;> cases w <;> simp [binop] at e
    obtain ⟨⟨c1, c2, c3⟩, e⟩ := e
    refine twoC (C := CPow) ⟨_, _, rfl, rfl, ⟨c1, by omega, ?_⟩, e.symm⟩
    have h := small_iff c3
    have e2 : (2 : Int) ^ 64 = ((2 ^ 64 : Nat) : Int) := by decide +kernel
    rw [e2] at h
    omega
  | shr =>
    cases v <;> cases w <;> simp [binop] at e
    exact twoC (C := fun _ j => 0 ≤ j) ⟨_, _, rfl, rfl, e.1, e.2.symm⟩
  | band =>
    cases v <;> cases w <;> simp [binop] at e
    exact two ⟨_, _, rfl, rfl, e.symm⟩
  | bor =>
    cases v <;> cases w <;> simp [binop] at e
    exact two ⟨_, _, rfl, rfl, e.symm⟩
  | bxor =>
    cases v <;> cases w <;> simp [binop] at e
    exact two ⟨_, _, rfl, rfl, e.symm⟩
end
section
variable {P : Prog} {cf : Nat → List Val → Store → R Val} {N : Nms} {n : Nat} {s : Sc} {X : Cx} {W : WX} {pos pos' : Pos} {e1 e2 e3 : Expr} {a b c : E}
/-- two one behind the other, then an operation by values -/
theorem s_two {ra : R2} {f : Val → Val → Store → R Val} (ha : PE X e1 (tEv P cf N X W a)) (hb : PE X e2 (tEv P cf N X W b))
    (h : ∀ {π S H v w x y Q A B}, RS X.K N π S H → RV X.K N π H v x → RV X.K N π H w y → G X.K N π H (f v w S) A B → (∀ z S' π' H', Ext π H π' H' → RS X.K N π' S' H' → A z S' π' H' → ∀ r, RV X.K N π' H' z r → Q r H') → ra x y H Q) :
    ∀ σ H Q, tE X.K N W (fun ρ S => (evalE P cf a ρ S).bind fun v S1 => (evalE P cf b ρ S1).bind fun w S2 => f v w S2) σ H Q → tOp ra (tEv P cf N X W a) (tEv P cf N X W b) σ H Q := by
  rintro σ H Q ⟨π, S, ρ, hS, hE, g⟩
  refine ⟨π, S, ρ, hS, hE, g.seq fun v S1 π1 H1 x1 q1 g1 x rx => ?_⟩
  refine ⟨π1, S1, ρ, q1, hE.ext x1, g1.seq fun w S2 π2 H2 x2 q2 g2 y ry => ?_⟩
  exact h q2 (rx.ext x2) ry g2 fun z S' π' H' _ _ k r hr => k r hr
def rOpS (K : PySem.W.Frag) : BOp → R2
  | .add => fun x y H Q => rOp K .add x y H Q ∨ rCat x y H Q
  | o => rOp K o
theorem opRS : ∀ o : BOp, OpR X (binaryOp (opOf o)) (rOpS X.K o)
  | .add => (opR .add).or op_cat
  | .sub => opR .sub
  | .mul => opR .mul
  | .fdiv => opR .fdiv
  | .mod => opR .mod
  | .pow => opR .pow
  | .shl => opR .shl
  | .shr => opR .shr
  | .band => opR .band
  | .bor => opR .bor
  | .bxor => opR .bxor
theorem rOpS_of {K : PySem.W.Frag} {o : BOp} {x y : V} {H : Hp} {Q : VK} (h : rOp K o x y H Q) : rOpS K o x y H Q := by
  cases o <;> first | exact h | exact .inl h
theorem binS_ok {K : PySem.W.Frag} {N : Nms} {π : List Addr} {H : Hp} {S : Store} {o : BOp} {v w : Val} {x y : V} {Q : VK} {B : Nat → List Val → Store → List Addr → Hp → Prop} (hS : RS K N π S H) (r1 : RV K N π H v x) (r2 : RV K N π H w y)
    (g : G K N π H (binopS o v w S) (fun z _ π' H' => ∀ r, RV K N π' H' z r → Q r H') B) : rOpS K o x y H Q := by
  have plain : G K N π H (ofO (binop o v w) S) (fun z _ π' H' => ∀ r, RV K N π' H' z r → Q r H') B → rOpS K o x y H Q := fun g => by
    cases e : binop o v w with
    | none => rw [e] at g; exact g.elim
    | some z =>
      rw [e] at g
      exact rOpS_of (op_ok hS r1 r2 e fun π' H' r x' q' rr => g π' H' x' q' r rr)
  unfold binopS at g
  split at g
  · rename_i l
    unfold catS at g
    split at g
    · rename_i l1 l2 e1
      cases e1
      split at g
      · rename_i xs ys h1 h2
        split at g
        · rename_i hl
          cases r1 with
          | @ref _ a1 ha1 =>
            cases r2 with
            | @ref _ a2 ha2 =>
              obtain ⟨us, u1, u2⟩ := hS.at_ _ _ _ ha1 h1
              obtain ⟨ws, w1, w2⟩ := hS.at_ _ _ _ ha2 h2
              refine .inr ⟨a1, a2, us, ws, rfl, rfl, u1, w1, LIM_line (by rw [← u2.length, ← w2.length]; exact hl), fun p hp => ?_⟩
              obtain ⟨y1, y2⟩ := hS.new (o := .lst (xs ++ ys)) (u := .lst (us ++ ws)) hp fun {π' H'} x e => ⟨_, e, (u2.append w2).ext x⟩
              refine g _ _ y1 y2 _ (.ref ?_)
              rw [← hS.len]
              simp
        · exact g.elim
      · exact g.elim
    · exact g.elim
  · exact plain g
theorem s_bin {o : BOp} (ha : PE X e1 (tEv P cf N X W a)) (hb : PE X e2 (tEv P cf N X W b)) : PE X (.BinOp e1 (opOf o) e2 pos) (tEv P cf N X W (.bin o a b)) := by
  refine PE.mono (pe_op (opRS o) ha hb) fun σ H Q ⟨π, S, ρ, hS, hE, g⟩ => ⟨π, S, ρ, hS, hE, ?_⟩
  simp only [evalE] at g
  refine g.seq fun v S1 π1 H1 x1 q1 g1 x rx => ⟨π1, S1, ρ, q1, hE.ext x1, ?_⟩
  exact g1.seq fun w S2 π2 H2 x2 q2 g2 y ry => binS_ok q2 (rx.ext x2) ry g2
end
end MP
/-! Comparisons, truths, tests, rows of expressions. -/
namespace MP
open PySem L2
section
variable {K : PySem.W.Frag} {N : Nms} {π : List Addr} {H : Hp} {S : Store}
theorem RS.lst (hS : RS K N π S H) {l : Nat} {a : Addr} {xs : List Val} (h : S.lstAt l = some xs) (ha : π[l]? = some a) : ∃ ys, SqL K H a ys ∧ RVs K N π H xs ys := by
  obtain ⟨o, ho, r⟩ := hS.addr ha
  unfold Store.lstAt at h
  rw [ho] at h
  cases o with
  | lst zs =>
    cases h
    obtain ⟨ys, h1, h2⟩ := r
    exact ⟨ys, SqL.of h1, h2⟩
  | fro zs =>
    cases h
    obtain ⟨ys, ⟨o, h1⟩, h2⟩ := r
    exact ⟨ys, .inl (.inr ⟨o, h1⟩), h2⟩
  | dic lk kvs => cases h
  | ins c fs => cases h
mutual
theorem toD_ok (hS : RS K N π S H) : ∀ {n : Nat} {v : Val} {d : PyData} {x : V}, toD n S v = some d → RV K N π H v x → Dp K H x d ∧ d.canLay0 = true ∧ d.depth ≤ n
  | n, .non, d, x, h, r => by
    cases n <;> simp only [toD] at h <;> cases h <;> cases r <;> exact ⟨.non, rfl, Nat.zero_le _⟩
  | n, .bl b, d, x, h, r => by
    cases n <;> simp only [toD] at h <;> cases h <;> cases r <;> exact ⟨.bl b, rfl, Nat.zero_le _⟩
  | n, .int i, d, x, h, r => by
    cases n <;> simp only [toD] at h <;> cases h <;> cases r <;> exact ⟨.int i, rfl, Nat.zero_le _⟩
  | n, .str z, d, x, h, r => by
    cases n <;> simp only [toD] at h <;> split at h <;> cases h <;> cases r <;> exact ⟨.str z, by assumption, Nat.zero_le _⟩
  | 0, .tup xs, d, x, h, r => by simp only [toD] at h <;> cases h
  | 0, .ref l, d, x, h, r => by simp only [toD] at h <;> cases h
  | n, .exc c ds, d, x, h, r => by cases n <;> simp only [toD] at h <;> cases h
  | n + 1, .tup xs, d, x, h, r => by
    simp only [toD, Option.map_eq_some_iff] at h
    obtain ⟨ds, h1, rfl⟩ := h
    cases r with
    | tup t q =>
      obtain ⟨k1, k2, k3⟩ := toDs_ok hS h1 q
      exact ⟨.tup t.sq k1, k2, Nat.succ_le_succ k3⟩
  | n + 1, .ref l, d, x, h, r => by
    simp only [toD] at h
    split at h
    · rename_i xs hx
      simp only [Option.map_eq_some_iff] at h
      obtain ⟨ds, h1, rfl⟩ := h
      cases r with
      | ref ha =>
        obtain ⟨ys, s1, q⟩ := hS.lst hx ha
        obtain ⟨k1, k2, k3⟩ := toDs_ok hS h1 q
        exact ⟨.lst s1 k1, k2, Nat.succ_le_succ k3⟩
    · cases h
theorem toDs_ok (hS : RS K N π S H) : ∀ {n : Nat} {vs : List Val} {ds : List PyData} {xs : List V}, toDs n S vs = some ds → RVs K N π H vs xs → DpAll K H xs ds ∧ PyData.canLayAll0 ds = true ∧ PyData.depthAll ds ≤ n
  | n, [], ds, xs, h, r => by
    simp only [toDs] at h
    cases h
    cases r
    exact ⟨.nil, rfl, Nat.zero_le _⟩
  | n, v :: vs, ds, xs, h, r => by
    simp only [toDs] at h
    split at h
    · rename_i d ds' h1 h2
      cases h
      cases r with
      | cons r1 r2 =>
        obtain ⟨a1, a2, a3⟩ := toD_ok hS h1 r1
        obtain ⟨b1, b2, b3⟩ := toDs_ok hS h2 r2
        exact ⟨.cons a1 b1, Bool.and_eq_true_iff.mpr ⟨a2, b2⟩, Nat.max_le.mpr ⟨a3, b3⟩⟩
    · cases h
end
def rEqs (K : PySem.W.Frag) (ng : Bool) : R2 := if ng = true then (fun x y H Q => rNe x y H Q ∨ rNeD K x y H Q) else (fun x y H Q => rEq x y H Q ∨ rEqD K x y H Q)
theorem vEq_ok (hS : RS K N π S H) {v w : Val} {x y : V} {b : Bool} {Q : VK} (r1 : RV K N π H v x) (r2 : RV K N π H w y) (e : vEq S v w = some b) :
    (Q (.bl b) H → (rEq x y H Q ∨ rEqD K x y H Q)) ∧ (Q (.bl (!b)) H → (rNe x y H Q ∨ rNeD K x y H Q)) := by
  have data : ∀ {d e' : PyData}, toD 40 S v = some d → toD 40 S w = some e' → PyData.eqv d e' = b → (Q (.bl b) H → (rEq x y H Q ∨ rEqD K x y H Q)) ∧ (Q (.bl (!b)) H → (rNe x y H Q ∨ rNeD K x y H Q)) := fun {d e'} h1 h2 h3 => by
    obtain ⟨k1, k2, k3⟩ := toD_ok hS h1 r1
    obtain ⟨l1, l2, l3⟩ := toD_ok hS h2 r2
    have s1 : SeqAt.shaped d = true := Bool.and_eq_true_iff.mpr ⟨k2, decide_eq_true (by omega)⟩
    have s2 : SeqAt.shaped e' = true := Bool.and_eq_true_iff.mpr ⟨l2, decide_eq_true (by omega)⟩
    subst h3
    exact ⟨fun q => .inr ⟨d, e', k1, l1, s1, s2, q⟩, fun q => .inr ⟨d, e', k1, l1, s1, s2, q⟩⟩
  unfold vEq at e
  split at e
  · cases e
    cases r1; cases r2
    refine ⟨fun q => .inl ⟨rfl, ?_⟩, fun q => .inl ⟨rfl, ?_⟩⟩ <;> simpa using q
  · cases e
    cases r1; cases r2
    refine ⟨fun q => .inl ⟨rfl, ?_⟩, fun q => .inl ⟨rfl, ?_⟩⟩ <;> simpa using q
  · cases e
    cases r1; cases r2
    refine ⟨fun q => .inl ⟨rfl, ?_⟩, fun q => .inl ⟨rfl, ?_⟩⟩ <;> simpa using q
  · cases e
    cases r1; cases r2
    exact ⟨fun q => .inl ⟨rfl, q⟩, fun q => .inl ⟨rfl, q⟩⟩
  · split at e
    · rename_i d e' h1 h2
      cases e
      exact data h1 h2 rfl
    · cases e
theorem flat_ok {v : Val} {x : V} (r : RV K N π H v x) (h : flat v = true) : flatV x = true := by
  cases r <;> first | rfl | cases h
theorem sEq_ok {v w : Val} {x y : V} (r1 : RV K N π H v x) (r2 : RV K N π H w y) (h1 : flat v = true) (h2 : flat w = true) : eqV x y = sEq v w := by
  cases r1 with
  | ref _ => exact absurd h1 (by simp [flat])
  | tup _ _ => exact absurd h1 (by simp [flat])
  | exc0 _ _ => exact absurd h1 (by simp [flat])
  | exc1 _ _ _ _ => exact absurd h1 (by simp [flat])
  | non => cases r2 <;> simp_all [eqV, sEq, flat]
  | bl b => cases r2 <;> first | (simp_all [eqV, sEq, flat]; done) | (rename_i j; show ((if b = true then 1 else 0) == j) = decide (j = if b = true then 1 else 0); rw [Bool.beq_eq_decide_eq]; exact decide_eq_decide.mpr eq_comm)
  | int i => cases r2 <;> first | (simp_all [eqV, sEq, flat]; done) | exact Bool.beq_eq_decide_eq ..
  | str i => cases r2 <;> first | (simp_all [eqV, sEq, flat]; done) | exact Bool.beq_eq_decide_eq ..
theorem inVs_ok {v : Val} {x : V} {b : Bool} (r : RV K N π H v x) : ∀ {vs : List Val} {xs : List V}, RVs K N π H vs xs → inVs v vs = some b → flatV x = true ∧ xs.all flatV = true ∧ inV x xs = b := by
  intro vs xs rs h
  unfold inVs at h
  split at h
  · rename_i hf
    simp only [Bool.and_eq_true] at hf
    cases h
    refine ⟨flat_ok r hf.1, ?_⟩
    have hv := hf.1
    have hf := hf.2
    induction vs generalizing xs with
    | nil =>
      cases rs
      exact ⟨rfl, rfl⟩
    | cons w ws ih =>
      cases rs with
      | cons q t =>
        simp only [List.all_cons, Bool.and_eq_true] at hf
        obtain ⟨i1, i2⟩ := ih t ⟨hv, hf.2⟩ hf.2
        refine ⟨by simp [flat_ok q hf.1, i1], ?_⟩
        unfold inV at i2 ⊢
        simp only [List.any_cons]
        rw [i2, sEq_ok q r hf.1 hv]
  · cases h
end
def cmpOf : COp → CmpOp
  | .lt => .Lt | .le => .LtE | .gt => .Gt | .ge => .GtE | .eq => .Eq | .ne => .NotEq | .isin => .In | .notin => .NotIn
def rSign (ng : Bool) : R2 := fun x y H Q => ∃ (c : Nat) (z : Str), x = .str ⟨#[c]⟩ ∧ y = .str z ∧ Q (.bl (if ng then !decide (c ∈ z.cps.toList) else decide (c ∈ z.cps.toList))) H
def rInD (ng : Bool) : R2 := fun x y H Q => ∃ a o, y = .ref a ∧ DGet H a x o ∧ Q (.bl (if ng then !o.isSome else o.isSome)) H
def rCmp (K : PySem.W.Frag) : COp → R2
  | .lt => rI0 fun i j => .bl (decide (i < j))
  | .le => rI0 fun i j => .bl (decide (i ≤ j))
  | .gt => rI0 fun i j => .bl (decide (j < i))
  | .ge => rI0 fun i j => .bl (decide (j ≤ i))
  | .eq => fun x y H Q => rEq x y H Q ∨ rEqD K x y H Q
  | .ne => fun x y H Q => rNe x y H Q ∨ rNeD K x y H Q
  | .isin => fun x y H Q => (rIn K false x y H Q ∨ rSign false x y H Q) ∨ rInD false x y H Q
  | .notin => fun x y H Q => (rIn K true x y H Q ∨ rSign true x y H Q) ∨ rInD true x y H Q
theorem cmpR {X : Cx} {n : Nat} (hr : Room n X.A) : ∀ o : COp, OpR X (compareOp (cmpOf o)) (rCmp X.K o)
  | .lt => op_lt
  | .le => op_le
  | .gt => op_gt
  | .ge => op_ge
  | .eq => op_eq.or (op_eqD hr.units)
  | .ne => op_ne.or (op_neD hr.units)
  | .isin => (op_in_seq.or op_in_sign).or (fun pins s σ H x y v u Q I rx ry ⟨a, o, e, g, q⟩ => by
    subst e
    cases ry
    exact d_in (hu_of hr) I g rx fun s' I' => ⟨.bl _, H, I', rfl, q⟩)
  | .notin => (op_notIn_seq.or op_notIn_sign).or (fun pins s σ H x y v u Q I rx ry ⟨a, o, e, g, q⟩ => by
    subst e
    cases ry
    exact d_notIn (hu_of hr) I g rx fun s' I' => ⟨.bl _, H, I', rfl, q⟩)
section
variable {K : PySem.W.Frag} {N : Nms} {π : List Addr} {H : Hp} {S : Store}
def kV' : Key → Val
  | .inl i => .int i
  | .inr x => .str x
theorem keyOf_ok {v : Val} {x : V} {k : Key} (r : RV K N π H v x) (h : keyOf v = some k) : x = kV k := by
  cases r <;> simp only [keyOf] at h <;> cases h <;> rfl
theorem dGet_ok : ∀ {kvs : List (Key × Val)} {ys : List (L2.Key × V)} (k : Key), RK K N π H kvs ys → ((dGet kvs k).isSome = (valV ys k).isSome) ∧ ∀ v, dGet kvs k = some v → ∃ y, valV ys k = some y ∧ RV K N π H v y
  | _, _, k, .nil => ⟨rfl, fun v h => by cases h⟩
  | p :: kvs, q :: ys, k, .cons r t => by
    obtain ⟨e, rv⟩ := r
    by_cases h : p.1 = k
    · have h' : q.1 = k := e.trans h
      rw [valV_pos h']
      have hd : dGet (p :: kvs) k = some p.2 := by simp [dGet, List.find?_cons, h]
      rw [hd]
      exact ⟨rfl, fun v hv => by cases hv; exact ⟨_, rfl, rv⟩⟩
    · have h' : ¬ q.1 = k := fun z => h (e.symm.trans z)
      rw [valV_neg h']
      have hd : dGet (p :: kvs) k = dGet kvs k := by simp [dGet, List.find?_cons, h]
      rw [hd]
      exact dGet_ok k t
/-- the tracked dict -/
theorem RS.dic (hS : RS K N π S H) {l : Nat} {a : Addr} {kvs : List (Key × Val)} (h : S[l]? = some (.dic false kvs)) (ha : π[l]? = some a) : ∃ ys, H a = some (.dK ys) ∧ RK K N π H kvs ys := hS.at_ l a _ ha h
theorem cmp_ok (hS : RS K N π S H) {o : COp} {v w : Val} {x y : V} {b : Bool} {Q : VK} (r1 : RV K N π H v x) (r2 : RV K N π H w y) (e : cmpop S o v w = some b) (q : Q (.bl b) H) : rCmp K o x y H Q := by
  have one : ∀ {x : Str} {c : Nat}, x.cps.toList = [c] → x = ⟨#[c]⟩ := fun {x c} h => by
    obtain ⟨a⟩ := x
    congr
    exact Array.toList_inj.mp h
  cases o with
  | lt =>
    cases v <;> cases w <;> simp only [cmpop] at e <;> cases e
    cases r1; cases r2
    exact ⟨_, _, rfl, rfl, q⟩
  | le =>
    cases v <;> cases w <;> simp only [cmpop] at e <;> cases e
    cases r1; cases r2
    exact ⟨_, _, rfl, rfl, q⟩
  | gt =>
    cases v <;> cases w <;> simp only [cmpop] at e <;> cases e
    cases r1; cases r2
    exact ⟨_, _, rfl, rfl, q⟩
  | ge =>
    cases v <;> cases w <;> simp only [cmpop] at e <;> cases e
    cases r1; cases r2
    exact ⟨_, _, rfl, rfl, q⟩
  | eq =>
    simp only [cmpop] at e
    exact (vEq_ok hS r1 r2 e).1 q
  | ne =>
    simp only [cmpop, Option.map_eq_some_iff] at e
    obtain ⟨b', e, rfl⟩ := e
    exact (vEq_ok hS r1 r2 e).2 q
  | isin =>
    cases w with
    | tup ws =>
      cases r2 with
      | tup t rs =>
        have e' : inVs v ws = some b := by cases v <;> simpa only [cmpop] using e
        obtain ⟨h1, h2, h3⟩ := inVs_ok r1 rs e'
        exact .inl (.inl ⟨_, _, rfl, .inr t.sq, h1, h2, by simpa [h3] using q⟩)
    | str z =>
      cases v <;> simp only [cmpop] at e <;> try cases e
      split at e
      · rename_i c hc
        cases e
        cases r1; cases r2
        exact .inl (.inr ⟨c, z, by rw [one hc], rfl, q⟩)
      · cases e
    | ref l =>
      cases r2 with
      | ref ha =>
        have e' : (match S[l]? with
          | some (.dic false kvs) => (keyOf v).map fun k => (dGet kvs k).isSome
          | some (.lst ys) => inVs v ys
          | _ => none) = some b := by cases v <;> exact e
        split at e'
        · rename_i kvs hk
          obtain ⟨ys, h1, h2⟩ := hS.dic hk ha
          simp only [Option.map_eq_some_iff] at e'
          obtain ⟨k, e1, rfl⟩ := e'
          have ex := keyOf_ok r1 e1
          subst ex
          exact .inr ⟨_, _, rfl, DGet.k h1, by rw [(dGet_ok k h2).1] at q; simpa using q⟩
        · rename_i zs hk
          obtain ⟨ys, h1, h2⟩ := hS.at_ l _ _ ha hk
          obtain ⟨k1, k2, k3⟩ := inVs_ok r1 h2 e'
          exact .inl (.inl ⟨_, _, rfl, .inl (SqL.of h1), k1, k2, by simpa [k3] using q⟩)
        · cases e'
    | _ => cases v <;> simp only [cmpop] at e <;> cases e
  | notin =>
    cases w with
    | tup ws =>
      cases r2 with
      | tup t rs =>
        have e' : (inVs v ws).map (!·) = some b := by cases v <;> simpa only [cmpop] using e
        simp only [Option.map_eq_some_iff] at e'
        obtain ⟨b', e', rfl⟩ := e'
        obtain ⟨h1, h2, h3⟩ := inVs_ok r1 rs e'
        exact .inl (.inl ⟨_, _, rfl, .inr t.sq, h1, h2, by simpa [h3] using q⟩)
    | str z =>
      cases v <;> simp only [cmpop] at e <;> try cases e
      split at e
      · rename_i c hc
        cases e
        cases r1; cases r2
        exact .inl (.inr ⟨c, z, by rw [one hc], rfl, q⟩)
      · cases e
    | ref l =>
      cases r2 with
      | ref ha =>
        have e' : (match S[l]? with
          | some (.dic false kvs) => (keyOf v).map fun k => !(dGet kvs k).isSome
          | some (.lst ys) => (inVs v ys).map (!·)
          | _ => none) = some b := by cases v <;> exact e
        split at e'
        · rename_i kvs hk
          obtain ⟨ys, h1, h2⟩ := hS.dic hk ha
          simp only [Option.map_eq_some_iff] at e'
          obtain ⟨k, e1, rfl⟩ := e'
          have ex := keyOf_ok r1 e1
          subst ex
          exact .inr ⟨_, _, rfl, DGet.k h1, by rw [(dGet_ok k h2).1] at q; simpa using q⟩
        · rename_i zs hk
          obtain ⟨ys, h1, h2⟩ := hS.at_ l _ _ ha hk
          simp only [Option.map_eq_some_iff] at e'
          obtain ⟨b', e', rfl⟩ := e'
          obtain ⟨k1, k2, k3⟩ := inVs_ok r1 h2 e'
          exact .inl (.inl ⟨_, _, rfl, .inl (SqL.of h1), k1, k2, by simpa [k3] using q⟩)
        · cases e'
    | _ => cases v <;> simp only [cmpop] at e <;> cases e
end
end MP
/-! More kinds of expressions. -/
namespace MP
open PySem L2
/-- a passing list was not there -/
def NewL (H : Hp) : LV → V → Prop
  | .tmp _, x => ∀ a, x = .ref a → H a = none
  | _, _ => True
/-- what holds a list's or a tuple's items stands so -/
def RL (K : PySem.W.Frag) (N : Nms) (π : List Addr) (H : Hp) : LV → V → Prop
  | .tmp xs, x => ∃ a ys, x = .ref a ∧ H a = some (.lst ys) ∧ a ∉ π ∧ RVs K N π H xs ys
  | .trk l, x => ∃ a, x = .ref a ∧ π[l]? = some a
  | .tup xs, x => ∃ a ys, x = .ref a ∧ TupAt K H a ys ∧ RVs K N π H xs ys
section
variable {K : PySem.W.Frag} {N : Nms} {π π' : List Addr} {H H' : Hp} {S : Store}
theorem Ext.out (x : Ext π H π' H') {a : Addr} {o : HO} (n : a ∉ π) (h : H a = some o) : a ∉ π' := fun m => by
  rcases x.new a m with z | z
  · exact n z
  · rw [h] at z; cases z
theorem Ext.back (x : Ext π H π' H') (q : RS K N π' S H') {p : Addr} (h : H' p = none) : H p = none := by
  by_cases hp : p ∈ π
  · obtain ⟨t, e⟩ := x.pre
    obtain ⟨u, hu, _⟩ := q.mem (a := p) (by rw [e]; exact List.mem_append_left _ hp)
    rw [h] at hu; cases hu
  · cases e : H p with
    | none => rfl
    | some o =>
      have := x.keep p o hp e
      rw [h] at this; cases this
/-! more is tracked -/
mutual
theorem RV.grow {p : Addr} : ∀ {v : Val} {y : V}, RV K N π H v y → RV K N (π ++ [p]) H v y
  | _, _, .non => .non
  | _, _, .bl b => .bl b
  | _, _, .int i => .int i
  | _, _, .str s => .str s
  | _, _, .ref h => .ref (by rw [List.getElem?_append_left (List.getElem?_eq_some_iff.mp h).1]; exact h)
  | _, _, .tup h r => .tup h (RVs.grow r)
  | _, _, .exc0 h0 h => .exc0 h0 h
  | _, _, .exc1 h0 h h2 r => .exc1 h0 h h2 (RV.grow r)
theorem RVs.grow {p : Addr} : ∀ {vs : List Val} {ys : List V}, RVs K N π H vs ys → RVs K N (π ++ [p]) H vs ys
  | _, _, .nil => .nil
  | _, _, .cons r t => .cons (RV.grow r) (RVs.grow t)
end
theorem RO.grow {p a : Addr} : ∀ {o : Ob}, RO K N π H a o → RO K N (π ++ [p]) H a o
  | .lst _, ⟨ys, h, r⟩ => ⟨ys, h, r.grow⟩
  | .fro _, ⟨ys, h, r⟩ => ⟨ys, h, r.grow⟩
  | .dic false _, ⟨ys, h, r⟩ => ⟨ys, h, Paired.mapP r fun _ _ z => ⟨z.1, z.2.grow⟩⟩
  | .dic true _, ⟨o, ys, h, r⟩ => ⟨o, ys, h, Paired.mapP r fun _ _ z => ⟨z.1, z.2.grow⟩⟩
  | .ins _ _, ⟨dx, gs, h, r, q⟩ => ⟨dx, gs, h, Paired.mapP r fun _ _ z => ⟨z.1, z.2.grow⟩, q⟩
theorem RS.grow (q : RS K N π S H) {p : Addr} {o : Ob} (hn : p ∉ π) (r : RO K N (π ++ [p]) H p o) : RS K N (π ++ [p]) (S ++ [o]) H := by
  refine ⟨by simp [q.len], ?_, fun l a o' h1 h2 => ?_⟩
  · refine List.nodup_append.mpr ⟨q.nd, by simp, fun a ha b hb => ?_⟩
    have e : b = p := by simpa using hb
    subst e
    rintro rfl
    exact hn ha
  · by_cases hl : l < π.length
    · rw [List.getElem?_append_left hl] at h1
      rw [List.getElem?_append_left (by rw [← q.len]; exact hl)] at h2
      exact (q.at_ l a o' h1 h2).grow
    · have hl' : l = π.length := by
        have := (List.getElem?_eq_some_iff.mp h1).1
        simp at this
        omega
      subst hl'
      rw [List.getElem?_append_right (Nat.le_refl _)] at h1
      rw [List.getElem?_append_right (by rw [q.len]; exact Nat.le_refl _)] at h2
      simp [q.len] at h1 h2
      subst h1; subst h2
      exact r
theorem RL.ext (x : Ext π H π' H') : ∀ {lv : LV} {y : V}, RL K N π H lv y → RL K N π' H' lv y
  | .tmp xs, y, ⟨a, ys, e, h, n, r⟩ => ⟨a, ys, e, x.keep a _ n h, x.out n h, r.ext x⟩
  | .trk l, y, ⟨a, e, h⟩ => ⟨a, e, x.ix h⟩
  | .tup xs, y, ⟨a, ys, e, h, r⟩ => ⟨a, ys, e, h.ext x, r.ext x⟩
/-- what it holds now -/
theorem RL.now (hS : RS K N π S H) : ∀ {lv : LV} {y : V} {xs : List Val}, RL K N π H lv y → lv.now S = some xs → ∃ a ys, y = .ref a ∧ RVs K N π H xs ys ∧ ((SqL K H a ys ∧ ∀ zs, lv ≠ .tup zs) ∨ (TupAt K H a ys ∧ lv = .tup xs))
  | .tmp xs, y, _, ⟨a, ys, e, h, n, r⟩, q => by
    cases q
    exact ⟨a, ys, e, r, .inl ⟨SqL.of h, fun _ z => nomatch z⟩⟩
  | .trk l, y, xs, ⟨a, e, h⟩, q => by
    obtain ⟨ys, s, r⟩ := hS.lst q h
    exact ⟨a, ys, e, r, .inl ⟨s, fun _ z => nomatch z⟩⟩
  | .tup xs, y, _, ⟨a, ys, e, h, r⟩, q => by
    cases q
    exact ⟨a, ys, e, r, .inr ⟨h, rfl⟩⟩
theorem RL.lst (hS : RS K N π S H) : ∀ {lv : LV} {y : V} {xs : List Val}, RL K N π H lv y → lv.lst S = some xs → ∃ a ys, y = .ref a ∧ RVs K N π H xs ys ∧ H a = some (.lst ys)
  | .tmp xs, y, _, ⟨a, ys, e, h, n, r⟩, q => by
    cases q
    exact ⟨a, ys, e, r, h⟩
  | .trk l, y, xs, ⟨a, e, h⟩, q => by
    unfold LV.lst at q
    simp only at q
    split at q
    · rename_i zs hz
      cases q
      obtain ⟨ys, h1, h2⟩ := hS.at_ l a _ h hz
      exact ⟨a, ys, e, h2, h1⟩
    · cases q
  | .tup xs, y, _, _, q => by cases q
/-- a passing list, just made -/
theorem RL.new (hS : RS K N π S H) {p : Addr} {xs : List Val} {ys : List V} (hp : H p = none) (r : RVs K N π H xs ys) : Ext π H π (upd H p (.lst ys)) ∧ RS K N π S (upd H p (.lst ys)) ∧ RL K N π (upd H p (.lst ys)) (.tmp xs) (.ref p) := by
  obtain ⟨x1, x2⟩ := hS.aside (u := .lst ys) hp
  refine ⟨x1, x2, p, ys, rfl, upd_same, fun m => ?_, r.ext x1⟩
  obtain ⟨u, hu, _⟩ := hS.mem m
  rw [hp] at hu; cases hu
theorem RVs.cut {xs : List Val} {ys : List V} (r : RVs K N π H xs ys) (lo hi : Option Int) : RVs K N π H (cut xs lo hi) (cutV ys lo hi) := by
  have e : ∀ (n d : Nat) (o : Option Int), HT.sIx n d o = cutIx n d o := fun n d o => by
    cases o with
    | none => rfl
    | some i => rfl
  unfold cutV MP.cut
  rw [e, e, ← r.length]
  exact (r.drop _).take _
end
section
variable {P : Prog} {cf : Nat → List Val → Store → R Val} {N : Nms} {n : Nat} {s : Sc} {X : Cx} {W : WX} {pos pos' : Pos} {e1 e2 e3 ex : Expr} {a b c e : E}
abbrev tCt (P : Prog) (cf : Nat → List Val → Store → R Val) (N : Nms) (X : Cx) (W : WX) (e : E) : TT := tCn X.K N W (evalE P cf e)
def tL (P : Prog) (cf : Nat → List Val → Store → R Val) (N : Nms) (X : Cx) (W : WX) (e : E) : TE := fun σ H Q => ∃ π S ρ, RS X.K N π S H ∧ RE X.K N π H ρ σ ∧ G X.K N π H (evalL P cf e ρ S) (fun v _ π' H' => ∀ x, RL X.K N π' H' v x → NewL H v x → Q x H') (BX X.K N W σ)
/-- a test as a value -/
theorem tCt_E {σ : St} {H : Hp} {Q : Bool → Hp → Prop} (h : tCt P cf N X W e σ H Q) : tEv P cf N X W e σ H fun x H' => ∃ k, x = .bl k ∧ Q k H' := by
  obtain ⟨π, S, ρ, hS, hE, g⟩ := h
  refine ⟨π, S, ρ, hS, hE, g.imp (fun v S' π' H' _ _ q x r => ?_) fun _ _ _ _ _ _ b => b⟩
  obtain ⟨k, rfl, q⟩ := q
  cases r
  exact ⟨k, rfl, q⟩
theorem s_test (h : PE X ex (tEv P cf N X W e)) (ht : noTest ex = true) : PT X ex (tCt P cf N X W e) :=
  PT.mono (pt_val h (noTest_is ht X.env)) fun _ _ _ h => tCt_E h
/-! ### comparisons -/
theorem r_cmp {o : COp} (ha : PE X e1 (tEv P cf N X W a)) (hb : PE X e2 (tEv P cf N X W b)) : ∀ σ H Q, tEv P cf N X W (.cmp o a b) σ H Q → tOp (rCmp X.K o) (tEv P cf N X W a) (tEv P cf N X W b) σ H Q := fun σ H Q h => by
  refine s_two (f := fun v w S => ofO ((cmpop S o v w).map .bl) S) ha hb (fun {π S H v w x y Q A B} hS r1 r2 g k => ?_) σ H Q (by simpa only [tEv, tE, evalE] using h)
  cases e : cmpop S o v w with
  | none => rw [e] at g; exact g.elim
  | some z =>
    rw [e] at g
    exact cmp_ok hS r1 r2 e (k _ S π H Ext.refl hS (g π H Ext.refl hS) _ (.bl z))
theorem s_cmp (cx : CE P N n s X W) {o : COp} (ha : PE X e1 (tEv P cf N X W a)) (hb : PE X e2 (tEv P cf N X W b)) (hp : pl e2 = true) : PE X (.Compare e1 [cmpOf o] [e2] pos) (tEv P cf N X W (.cmp o a b)) :=
  PE.mono (pe_cmpR (cmpR cx.room o) ha hb (pl_mark hp _)) (r_cmp ha hb)
theorem st_cmp (cx : CE P N n s X W) {o : COp} (ha : PE X e1 (tEv P cf N X W a)) (hb : PE X e2 (tEv P cf N X W b)) (hp : pl e2 = true) : PT X (.Compare e1 [cmpOf o] [e2] pos) (tCt P cf N X W (.cmp o a b)) :=
  PT.mono (pt_cmpR (cmpR cx.room o) ha hb (pl_mark hp _)) fun σ H Q h => r_cmp ha hb σ H _ (tCt_E h)
theorem r_chain {o p : COp} (ha : PE X e1 (tEv P cf N X W a)) (hb : PE X e2 (tEv P cf N X W b)) (hc : PE X e3 (tEv P cf N X W c)) : ∀ σ H Q, tEv P cf N X W (.chain o p a b c) σ H Q → tChain (rCmp X.K o) (rCmp X.K p) (tEv P cf N X W a) (tEv P cf N X W b) (tEv P cf N X W c) σ H Q := by
  rintro σ H Q ⟨π, S, ρ, hS, hE, g⟩
  simp only [evalE] at g
  refine ⟨π, S, ρ, hS, hE, g.seq fun v S1 π1 H1 x1 q1 g1 x rx => ?_⟩
  refine ⟨π1, S1, ρ, q1, hE.ext x1, g1.seq fun w S2 π2 H2 x2 q2 g2 y ry => ?_⟩
  cases e : cmpop S2 o v w with
  | none => rw [e] at g2; exact g2.elim
  | some k =>
    rw [e] at g2
    refine cmp_ok q2 (rx.ext x2) ry e ⟨k, rfl, ?_⟩
    cases k with
    | false =>
      rw [if_neg Bool.false_ne_true]
      exact G.ok g2 q2 _ (.bl false)
    | true =>
      rw [if_pos rfl]
      refine ⟨π2, S2, ρ, q2, (hE.ext x1).ext x2, G.seq g2 fun u S3 π3 H3 x3 q3 g3 z rz => ?_⟩
      cases e' : cmpop S3 p w u with
      | none => rw [e'] at g3; exact g3.elim
      | some k =>
        rw [e'] at g3
        exact cmp_ok q3 (ry.ext x3) rz e' (G.ok g3 q3 _ (.bl k))
theorem last_mark {o p : CmpOp} {e2 e3 : Expr} (h : pl e3 = true) : lastMarks [o, p] [e2, e3] = false := pl_mark h p
theorem s_chain (cx : CE P N n s X W) {o p : COp} (ha : PE X e1 (tEv P cf N X W a)) (hb : PE X e2 (tEv P cf N X W b)) (hc : PE X e3 (tEv P cf N X W c)) (hp : pl e3 = true) : PE X (.Compare e1 [cmpOf o, cmpOf p] [e2, e3] pos) (tEv P cf N X W (.chain o p a b c)) :=
  PE.mono (pe_chain (cmpR cx.room o) (cmpR cx.room p) ha hb hc (last_mark hp)) (r_chain ha hb hc)
theorem st_chain (cx : CE P N n s X W) {o p : COp} (ha : PE X e1 (tEv P cf N X W a)) (hb : PE X e2 (tEv P cf N X W b)) (hc : PE X e3 (tEv P cf N X W c)) (hp : pl e3 = true) : PT X (.Compare e1 [cmpOf o, cmpOf p] [e2, e3] pos) (tCt P cf N X W (.chain o p a b c)) :=
  PT.mono (pt_chain (cmpR cx.room o) (cmpR cx.room p) ha hb hc (last_mark hp)) fun σ H Q h => r_chain ha hb hc σ H _ (tCt_E h)
theorem isN_V {K : PySem.W.Frag} {π : List Addr} {H : Hp} {v : Val} {x : V} (r : RV K N π H v x) : v.isNon = decide (x = .non) := by
  cases r <;> rfl
theorem notN_V {K : PySem.W.Frag} {π : List Addr} {H : Hp} {v : Val} {x : V} (r : RV K N π H v x) : (!v.isNon) = !decide (x = .non) := by
  cases r <;> rfl
theorem r_isN (ha : PE X e1 (tEv P cf N X W a)) : ∀ σ H Q, tEv P cf N X W (.isN a) σ H Q → tIsN (tEv P cf N X W a) σ H Q := by
  rintro σ H Q ⟨π, S, ρ, hS, hE, g⟩
  simp only [evalE] at g
  refine ⟨π, S, ρ, hS, hE, g.seq fun v S1 π1 H1 x1 q1 g1 x rx => ?_⟩
  have z := G.ok g1 q1 _ (.bl _)
  rw [isN_V rx] at z
  exact z
theorem r_notN (ha : PE X e1 (tEv P cf N X W a)) : ∀ σ H Q, tEv P cf N X W (.notN a) σ H Q → tNotN (tEv P cf N X W a) σ H Q := by
  rintro σ H Q ⟨π, S, ρ, hS, hE, g⟩
  simp only [evalE] at g
  refine ⟨π, S, ρ, hS, hE, g.seq fun v S1 π1 H1 x1 q1 g1 x rx => ?_⟩
  have z := G.ok g1 q1 _ (.bl _)
  rw [notN_V rx] at z
  exact z
theorem s_isN {j p2} (ha : PE X e1 (tEv P cf N X W a)) : PE X (.Compare e1 [.Is] [.Constant .none j p2] pos) (tEv P cf N X W (.isN a)) := PE.mono (pe_cmp (pc_isN ha)) (r_isN ha)
theorem s_notN {j p2} (ha : PE X e1 (tEv P cf N X W a)) : PE X (.Compare e1 [.IsNot] [.Constant .none j p2] pos) (tEv P cf N X W (.notN a)) := PE.mono (pe_cmp (pc_notN ha)) (r_notN ha)
theorem st_isN {j p2} (ha : PE X e1 (tEv P cf N X W a)) : PT X (.Compare e1 [.Is] [.Constant .none j p2] pos) (tCt P cf N X W (.isN a)) := PT.mono (pt_cmp (pc_isN ha)) fun σ H Q h => r_isN ha σ H _ (tCt_E h)
theorem st_notN {j p2} (ha : PE X e1 (tEv P cf N X W a)) : PT X (.Compare e1 [.IsNot] [.Constant .none j p2] pos) (tCt P cf N X W (.notN a)) := PT.mono (pt_cmp (pc_notN ha)) fun σ H Q h => r_notN ha σ H _ (tCt_E h)
/-! ### and, or, not -/
abbrev tAn (P : Prog) (cf : Nat → List Val → Store → R Val) (N : Nms) (X : Cx) (W : WX) (e : E) : TE := tE X.K N W (evalAnd P cf e)
abbrev tOn (P : Prog) (cf : Nat → List Val → Store → R Val) (N : Nms) (X : Cx) (W : WX) (e : E) : TE := tE X.K N W (evalOr P cf e)
theorem s_and1 (ha : PE X e1 (tEv P cf N X W a)) : PE X (.BoolOp .And [e1] pos) (tAn P cf N X W (.cons a .nil)) := by
  refine PE.mono (pe_one ha) fun σ H Q ⟨π, S, ρ, hS, hE, g⟩ => ⟨π, S, ρ, hS, hE, ?_⟩
  simp only [evalAnd, E.isNil] at g
  exact g.seq fun v S1 π1 H1 x1 q1 g1 x rx => G.ok g1 q1 x rx
theorem s_or1 (ha : PE X e1 (tEv P cf N X W a)) : PE X (.BoolOp .Or [e1] pos) (tOn P cf N X W (.cons a .nil)) := by
  refine PE.mono (pe_one ha) fun σ H Q ⟨π, S, ρ, hS, hE, g⟩ => ⟨π, S, ρ, hS, hE, ?_⟩
  simp only [evalOr, E.isNil] at g
  exact g.seq fun v S1 π1 H1 x1 q1 g1 x rx => G.ok g1 q1 x rx
theorem s_and2 {r : List Expr} (ha : PE X e1 (tEv P cf N X W a)) (hr : PE X (.BoolOp .And (e2 :: r) pos) (tAn P cf N X W b)) (hb : b.isNil = false) : PE X (.BoolOp .And (e1 :: e2 :: r) pos) (tAn P cf N X W (.cons a b)) := by
  refine PE.mono (pe_and ha hr) fun σ H Q ⟨π, S, ρ, hS, hE, g⟩ => ⟨π, S, ρ, hS, hE, ?_⟩
  simp only [evalAnd, hb] at g
  refine g.seq fun v S1 π1 H1 x1 q1 g1 x rx => ?_
  cases rx with
  | bl k =>
    refine ⟨k, rfl, ?_⟩
    cases k with
    | true => exact ⟨π1, S1, ρ, q1, hE.ext x1, g1⟩
    | false => exact G.ok g1 q1 _ (.bl false)
  | _ => exact g1.elim
theorem s_or2 {r : List Expr} (ha : PE X e1 (tEv P cf N X W a)) (hr : PE X (.BoolOp .Or (e2 :: r) pos) (tOn P cf N X W b)) (hb : b.isNil = false) : PE X (.BoolOp .Or (e1 :: e2 :: r) pos) (tOn P cf N X W (.cons a b)) := by
  refine PE.mono (pe_or ha hr) fun σ H Q ⟨π, S, ρ, hS, hE, g⟩ => ⟨π, S, ρ, hS, hE, ?_⟩
  simp only [evalOr, hb] at g
  refine g.seq fun v S1 π1 H1 x1 q1 g1 x rx => ?_
  cases rx with
  | bl k =>
    refine ⟨k, rfl, ?_⟩
    cases k with
    | false => exact ⟨π1, S1, ρ, q1, hE.ext x1, g1⟩
    | true => exact G.ok g1 q1 _ (.bl true)
  | _ => exact g1.elim
theorem s_and (h : PE X ex (tAn P cf N X W e)) : PE X ex (tEv P cf N X W (.and e)) := PE.mono h fun σ H Q ⟨π, S, ρ, hS, hE, g⟩ => ⟨π, S, ρ, hS, hE, by simpa only [evalE] using g⟩
theorem s_or (h : PE X ex (tOn P cf N X W e)) : PE X ex (tEv P cf N X W (.or e)) := PE.mono h fun σ H Q ⟨π, S, ρ, hS, hE, g⟩ => ⟨π, S, ρ, hS, hE, by simpa only [evalE] using g⟩
abbrev tAt (P : Prog) (cf : Nat → List Val → Store → R Val) (N : Nms) (X : Cx) (W : WX) (e : E) : TT := tCn X.K N W (evalAnd P cf e)
abbrev tOt (P : Prog) (cf : Nat → List Val → Store → R Val) (N : Nms) (X : Cx) (W : WX) (e : E) : TT := tCn X.K N W (evalOr P cf e)
theorem st_and1 (ha : PT X e1 (tCt P cf N X W a)) : PW X (.BoolOp .And [e1] pos) (tAt P cf N X W (.cons a .nil)) := by
  refine PW.mono (pw_and1 ha) fun σ H Q ⟨π, S, ρ, hS, hE, g⟩ => ⟨π, S, ρ, hS, hE, ?_⟩
  simp only [evalAnd, E.isNil] at g
  exact g.seq fun v S1 π1 H1 x1 q1 g1 => G.ok g1 q1
theorem st_or1 (ha : PT X e1 (tCt P cf N X W a)) : PW X (.BoolOp .Or [e1] pos) (tOt P cf N X W (.cons a .nil)) := by
  refine PW.mono (pw_or1 ha) fun σ H Q ⟨π, S, ρ, hS, hE, g⟩ => ⟨π, S, ρ, hS, hE, ?_⟩
  simp only [evalOr, E.isNil] at g
  exact g.seq fun v S1 π1 H1 x1 q1 g1 => G.ok g1 q1
theorem st_and2 {r : List Expr} (ha : PT X e1 (tCt P cf N X W a)) (hr : PW X (.BoolOp .And (e2 :: r) pos) (tAt P cf N X W b)) (hb : b.isNil = false) : PW X (.BoolOp .And (e1 :: e2 :: r) pos) (tAt P cf N X W (.cons a b)) := by
  refine PW.mono (pw_and ha hr) fun σ H Q ⟨π, S, ρ, hS, hE, g⟩ => ⟨π, S, ρ, hS, hE, ?_⟩
  simp only [evalAnd, hb] at g
  refine g.seq fun v S1 π1 H1 x1 q1 g1 => ?_
  cases v with
  | bl k =>
    refine ⟨k, rfl, ?_⟩
    cases k with
    | true => exact ⟨π1, S1, ρ, q1, hE.ext x1, g1⟩
    | false =>
      obtain ⟨k, e, q⟩ := G.ok g1 q1
      cases e
      exact q
  | _ => exact g1.elim
theorem st_or2 {r : List Expr} (ha : PT X e1 (tCt P cf N X W a)) (hr : PW X (.BoolOp .Or (e2 :: r) pos) (tOt P cf N X W b)) (hb : b.isNil = false) : PW X (.BoolOp .Or (e1 :: e2 :: r) pos) (tOt P cf N X W (.cons a b)) := by
  refine PW.mono (pw_or ha hr) fun σ H Q ⟨π, S, ρ, hS, hE, g⟩ => ⟨π, S, ρ, hS, hE, ?_⟩
  simp only [evalOr, hb] at g
  refine g.seq fun v S1 π1 H1 x1 q1 g1 => ?_
  cases v with
  | bl k =>
    refine ⟨k, rfl, ?_⟩
    cases k with
    | false => exact ⟨π1, S1, ρ, q1, hE.ext x1, g1⟩
    | true =>
      obtain ⟨k, e, q⟩ := G.ok g1 q1
      cases e
      exact q
  | _ => exact g1.elim
theorem st_and (h : PW X ex (tAt P cf N X W e)) : PT X ex (tCt P cf N X W (.and e)) := PT.mono h.pt fun σ H Q ⟨π, S, ρ, hS, hE, g⟩ => ⟨π, S, ρ, hS, hE, by simpa only [evalE] using g⟩
theorem st_or (h : PW X ex (tOt P cf N X W e)) : PT X ex (tCt P cf N X W (.or e)) := PT.mono h.pt fun σ H Q ⟨π, S, ρ, hS, hE, g⟩ => ⟨π, S, ρ, hS, hE, by simpa only [evalE] using g⟩
theorem s_not (ha : PE X e1 (tEv P cf N X W a)) : PE X (.UnaryOp .Not e1 pos) (tEv P cf N X W (.not a)) := by
  refine PE.mono (pe_not ha) fun σ H Q ⟨π, S, ρ, hS, hE, g⟩ => ⟨π, S, ρ, hS, hE, ?_⟩
  simp only [evalE] at g
  refine g.seq fun v S1 π1 H1 x1 q1 g1 x rx => ?_
  cases rx with
  | bl k => exact ⟨k, rfl, G.ok g1 q1 _ (.bl _)⟩
  | _ => exact g1.elim
theorem st_not (ha : PT X e1 (tCt P cf N X W a)) : PT X (.UnaryOp .Not e1 pos) (tCt P cf N X W (.not a)) := by
  refine PT.mono (pt_not ha) fun σ H Q ⟨π, S, ρ, hS, hE, g⟩ => ⟨π, S, ρ, hS, hE, ?_⟩
  simp only [evalE] at g
  refine g.seq fun v S1 π1 H1 x1 q1 g1 => ?_
  cases v with
  | bl k =>
    refine ⟨k, rfl, ?_⟩
    obtain ⟨k', e, q⟩ := G.ok g1 q1
    cases e
    exact q
  | _ => exact g1.elim
theorem s_neg (ha : PE X e1 (tEv P cf N X W a)) : PE X (.UnaryOp .USub e1 pos) (tEv P cf N X W (.neg a)) := by
  refine PE.mono (pe_un un_neg ha) fun σ H Q ⟨π, S, ρ, hS, hE, g⟩ => ⟨π, S, ρ, hS, hE, ?_⟩
  simp only [evalE] at g
  refine g.seq fun v S1 π1 H1 x1 q1 g1 x rx => ?_
  cases rx with
  | int i => exact ⟨i, rfl, G.ok g1 q1 _ (.int _)⟩
  | _ => exact g1.elim
/-! ### rows -/
abbrev tRw (P : Prog) (cf : Nat → List Val → Store → R Val) (N : Nms) (X : Cx) (W : WX) (e : E) : TA := tEs X.K N W (evalEs P cf e)
theorem s_nil : PA X [] (tRw P cf N X W .nil) := by
  refine PA.mono pa_nil fun σ H Q ⟨π, S, ρ, hS, hE, g⟩ => ?_
  simp only [evalEs] at g
  exact G.ok g hS [] .nil
theorem s_cons {r : List Expr} (ha : PE X e1 (tEv P cf N X W a)) (hr : PA X r (tRw P cf N X W b)) (hp : pl e1 = true) : PA X (e1 :: r) (tRw P cf N X W (.cons a b)) := by
  refine PA.mono (pa_cons ha hr (pl_star hp r X.env)) fun σ H Q ⟨π, S, ρ, hS, hE, g⟩ => ⟨π, S, ρ, hS, hE, ?_⟩
  simp only [evalEs] at g
  refine g.seq fun v S1 π1 H1 x1 q1 g1 x rx => ⟨π1, S1, ρ, q1, hE.ext x1, ?_⟩
  exact g1.seq fun vs S2 π2 H2 x2 q2 g2 xs rs => G.ok g2 q2 _ (.cons (rx.ext x2) rs)
theorem s_tup {es : List Expr} {k : Nat} (h : PA X es (tRw P cf N X W e)) : PE X (.Tuple es k pos) (tEv P cf N X W (.tup e)) := by
  refine PE.mono (pe_tup h) fun σ H Q ⟨π, S, ρ, hS, hE, g⟩ => ⟨π, S, ρ, hS, hE, ?_⟩
  simp only [evalE] at g
  refine g.seq fun vs S1 π1 H1 x1 q1 g1 xs rs => ?_
  split at g1
  · rename_i hl
    refine ⟨LIM_line (by rw [← rs.length]; exact hl), fun p hp => ?_⟩
    obtain ⟨y1, y2⟩ := q1.aside (u := .tup xs) hp
    exact g1 _ _ y1 y2 _ (.tup (.inl upd_same) (rs.ext y1))
  · exact g1.elim
theorem s_llit {es : List Expr} (h : PA X es (tRw P cf N X W e)) : PE X (.List es pos) (tL P cf N X W (.llit e)) := by
  refine PE.mono (pe_lst h) fun σ H Q ⟨π, S, ρ, hS, hE, g⟩ => ⟨π, S, ρ, hS, hE, ?_⟩
  simp only [evalL] at g
  refine g.seq fun vs S1 π1 H1 x1 q1 g1 xs rs => ?_
  split at g1
  · rename_i hl
    refine ⟨LIM_line (by rw [← rs.length]; exact hl), fun p hp => ?_⟩
    obtain ⟨y1, y2, y3⟩ := RL.new q1 hp rs
    exact g1 _ _ y1 y2 _ y3 fun a e => by cases e; exact x1.back q1 hp
  · exact g1.elim
theorem s_lof (h : PE X ex (tEv P cf N X W e)) : PE X ex (tL P cf N X W (.lof e)) := by
  refine PE.mono h fun σ H Q ⟨π, S, ρ, hS, hE, g⟩ => ⟨π, S, ρ, hS, hE, ?_⟩
  simp only [evalL] at g
  refine g.seq fun v S1 π1 H1 x1 q1 g1 x rx => ?_
  obtain ⟨lv, e, q⟩ := g1.ofO q1
  cases rx with
  | ref ha =>
    simp only [lvOf, Option.map_eq_some_iff] at e
    obtain ⟨_, _, rfl⟩ := e
    exact q _ ⟨_, rfl, ha⟩ trivial
  | tup t r =>
    cases e
    exact q _ ⟨_, _, rfl, t, r⟩ trivial
  | _ => cases e
/-- a passing list gets a place in the store -/
theorem s_list (h : PE X ex (tL P cf N X W e)) : PE X ex (tEv P cf N X W (.list e)) := by
  refine PE.mono h fun σ H Q ⟨π, S, ρ, hS, hE, g⟩ => ⟨π, S, ρ, hS, hE, ?_⟩
  simp only [evalE] at g
  cases r : evalL P cf e ρ S with
  | bad => rw [r] at g; exact g
  | exc c ds S1 => rw [r] at g; exact g
  | ok v S1 =>
    rw [r] at g
    intro π1 H1 x1 q1 x rx nx
    cases v with
    | tmp xs =>
      obtain ⟨p, ys, rfl, hp, hn, r⟩ := rx
      have h0 := nx p rfl
      have hx : Ext π H (π1 ++ [p]) H1 := by
        refine ⟨?_, fun b hb => ?_, x1.keep, x1.tup⟩
        · obtain ⟨t, e⟩ := x1.pre
          exact ⟨t ++ [p], by rw [e, List.append_assoc]⟩
        · rcases List.mem_append.mp hb with hb | hb
          · exact x1.new b hb
          · have e : b = p := by simpa using hb
            subst e
            exact .inr h0
      have hy : ∀ {v : Val} {y : V}, RV X.K N π1 H1 v y → RV X.K N (π1 ++ [p]) H1 v y := fun r => r.grow
      refine g (π1 ++ [p]) H1 hx (q1.grow hn ⟨ys, hp, r.grow⟩) _ (.ref ?_)
      rw [← q1.len]
      simp
    | _ => exact g.elim
end
end MP
/-! Items, slices, built-in calls, lists, calls of defs. -/
namespace MP
open PySem L2
section
variable {K : PySem.W.Frag} {N : Nms} {π π' : List Addr} {H H' : Hp} {S : Store}
theorem RVs.at_ {xs : List Val} {ys : List V} {i : Int} {v : Val} (r : RVs K N π H xs ys) (h : atI xs i = some v) : ∃ y, L2.atI ys i = some y ∧ RV K N π H v y := by
  unfold atI at h
  obtain ⟨j, h1, h2⟩ := Option.bind_eq_some_iff.mp h
  obtain ⟨y, h3, h4⟩ := r.get h2
  refine ⟨y, ?_, h4⟩
  unfold L2.atI
  rw [← r.length]
  exact Option.bind_eq_some_iff.mpr ⟨j, h1, h3⟩
def rIxD : R2 := fun x y H Q => ∃ a v, x = .ref a ∧ DGet H a y (some v) ∧ Q v H
def rItem (K : PySem.W.Frag) : R2 := fun x y H Q => rIx K x y H Q ∨ rIxD x y H Q
theorem ix_dict0 {X : Cx} (hu : X.A.units + 1 < cLine) : IxR X rIxD := fun value slice pins s σ H x y v u Q I rx ry ⟨a, w, e, g, q⟩ hs => by
  subst e
  cases rx
  exact PyProof.Rows.tail_any (dict_typeIs I g) PySem.F.slot_dict_getitem.lookup (d_getItem hu I g ry fun w' s' I' r => ⟨w, H, I', r, q⟩) hs
theorem ix_dict {X : Cx} {n : Nat} (hr : Room n X.A) : IxR X rIxD := ix_dict0 (hu_of hr)
theorem getI_ok (hS : RS K N π S H) {v w z : Val} {x y : V} {Q : VK} (r1 : RV K N π H v x) (r2 : RV K N π H w y) (e : getI S v w = some z) (q : ∀ r, RV K N π H z r → Q r H) : rItem K x y H Q := by
  cases r1 with
  | tup t rs =>
    cases r2 <;> simp only [getI] at e <;> try cases e
    obtain ⟨y, h1, h2⟩ := rs.at_ e
    exact .inl (.inr (.inl ⟨_, _, _, y, rfl, rfl, t.sq, h1, q y h2⟩))
  | str x =>
    cases r2 <;> simp only [getI] at e <;> try cases e
    split at e
    · rename_i hl
      obtain ⟨c, h1, rfl⟩ := Option.map_eq_some_iff.mp e
      refine .inl (.inr (.inr ⟨x, _, c, rfl, rfl, LIM_line hl, h1, q _ (.str _)⟩))
    · cases e
  | @ref l a ha =>
    simp only [getI] at e
    split at e
    · rename_i xs i hx
      obtain ⟨ys, h1, h2⟩ := hS.at_ l a _ ha hx
      cases r2
      obtain ⟨y, h3, h4⟩ := h2.at_ e
      exact .inl (.inl ⟨_, _, _, y, rfl, rfl, SqL.of h1, h3, q y h4⟩)
    · rename_i xs i hx
      obtain ⟨ys, ⟨o, h1⟩, h2⟩ := hS.at_ l a _ ha hx
      cases r2
      obtain ⟨y, h3, h4⟩ := h2.at_ e
      exact .inl (.inl ⟨_, _, _, y, rfl, rfl, .inl (.inr ⟨o, h1⟩), h3, q y h4⟩)
    · rename_i kvs hx
      obtain ⟨ys, h1, h2⟩ := hS.dic hx ha
      obtain ⟨k, e1, e2⟩ := Option.bind_eq_some_iff.mp e
      have ek := keyOf_ok r2 e1
      subst ek
      obtain ⟨y, h3, h4⟩ := (dGet_ok k h2).2 _ e2
      refine .inr ⟨_, y, rfl, ?_, q y h4⟩
      rw [← h3]
      exact DGet.k h1
    · cases e
  | _ => cases e
end
section
variable {P : Prog} {cf : Nat → List Val → Store → R Val} {N : Nms} {n : Nat} {s : Sc} {X : Cx} {W : WX} {pos pos' p2 : Pos} {e1 e2 e3 ex : Expr} {a b c e : E}
theorem s_ix (cx : CE P N n s X W) (ha : PE X e1 (tEv P cf N X W a)) (hb : PE X e2 (tEv P cf N X W b)) (hp : pl e2 = true) : PE X (.Subscript e1 e2 pos) (tEv P cf N X W (.ix a b)) := by
  refine PE.mono (pe_ix (ix_seq.or (ix_dict cx.room)) ha hb (pl_sub hp)) fun σ H Q h => ?_
  refine s_two (ra := rItem X.K) (f := fun v w S => ofO (getI S v w) S) ha hb (fun {π S H v w x y Q A B} hS r1 r2 g k => ?_) σ H Q (by simpa only [tEv, tE, evalE] using h)
  obtain ⟨z, e, q⟩ := g.ofO hS
  exact getI_ok hS r1 r2 e fun r rr => k z S π H Ext.refl hS q r rr
/-- a list just made, at a place -/
theorem s_ixL (ha : PE X e1 (tL P cf N X W a)) (hb : PE X e2 (tEv P cf N X W b)) (hp : pl e2 = true) : PE X (.Subscript e1 e2 pos) (tEv P cf N X W (.ixL a b)) := by
  refine PE.mono (pe_ix ix_list ha hb (pl_sub hp)) fun σ H Q ⟨π, S, ρ, hS, hE, g⟩ => ⟨π, S, ρ, hS, hE, ?_⟩
  simp only [evalE] at g
  refine g.seq fun v S1 π1 H1 x1 q1 g1 x rx nx => ⟨π1, S1, ρ, q1, hE.ext x1, ?_⟩
  refine g1.seq fun w S2 π2 H2 x2 q2 g2 y ry => ?_
  have rx := rx.ext x2
  cases v with
  | tmp xs =>
    cases w with
    | int i =>
      obtain ⟨z, e, q⟩ := G.ofO g2 q2
      obtain ⟨a, ys, rfl, h1, _, h2⟩ := rx
      cases ry
      obtain ⟨y, h3, h4⟩ := h2.at_ e
      exact ⟨_, _, _, y, rfl, rfl, SqL.of h1, h3, q y h4⟩
    | _ => exact g2.elim
  | _ => cases w <;> exact g2.elim
/-! ### slices -/
abbrev partV (P : Prog) (cf : Nat → List Val → Store → R Val) (e : E) (ρ : Ev) (S : Store) : R (Option Int) := if e.isNo = true then R.ok none S else (evalE P cf e ρ S).bind fun v S => ofO ((optI v).map some) S
def tPt (P : Prog) (cf : Nat → List Val → Store → R Val) (N : Nms) (X : Cx) (W : WX) (e : E) : TO := fun σ H Q => ∃ π S ρ, RS X.K N π S H ∧ RE X.K N π H ρ σ ∧ G X.K N π H (partV P cf e ρ S) (fun o _ _ H' => Q o H') (BX X.K N W σ)
structure POm (X : Cx) (e : Option Expr) (t : TO) : Prop where
  po : ∃ t', PO X e t' ∧ ∀ σ H Q, t σ H Q → t' σ H Q
theorem s_noPart : POm X none (tPt P cf N X W .noPart) := ⟨_, po_none, fun σ H Q ⟨π, S, ρ, hS, hE, g⟩ => by
  simp only [partV, E.isNo, if_true] at g
  exact G.ok g hS⟩
theorem s_part (ha : PE X ex (tEv P cf N X W e)) (hn : e.isNo = false) : POm X (some ex) (tPt P cf N X W e) := ⟨_, po_some ha, fun σ H Q ⟨π, S, ρ, hS, hE, g⟩ => ⟨π, S, ρ, hS, hE, by
  simp only [partV, hn] at g
  refine g.seq fun v S1 π1 H1 x1 q1 g1 x rx => ?_
  obtain ⟨o, e, q⟩ := G.ofO g1 q1
  cases rx <;> simp only [optI] at e <;> cases e
  exact ⟨_, rfl, q⟩⟩⟩
theorem sl_eq (n d : Nat) (o : Option Int) : HT.sIx n d o = cutIx n d o := by cases o <;> rfl
theorem s_sl {lo hi : Option Expr} (ha : PE X e1 (tEv P cf N X W a)) (hl : POm X lo (tPt P cf N X W b)) (hh : POm X hi (tPt P cf N X W c)) : PE X (.Subscript e1 (.Slice lo hi none p2) pos) (tEv P cf N X W (.sl a b c)) := by
  obtain ⟨tl, hl, il⟩ := hl
  obtain ⟨th, hh, ih⟩ := hh
  refine PE.mono (pe_slice ((sl_str.or sl_tupA).or sl_list) ha hl hh) fun σ H Q ⟨π, S, ρ, hS, hE, g⟩ => ⟨π, S, ρ, hS, hE, ?_⟩
  simp only [evalE] at g
  refine g.seq fun v S1 π1 H1 x1 q1 g1 x rx => il _ _ _ ⟨π1, S1, ρ, q1, hE.ext x1, ?_⟩
  refine g1.seq fun l S2 π2 H2 x2 q2 g2 => ih _ _ _ ⟨π2, S2, ρ, q2, (hE.ext x1).ext x2, ?_⟩
  refine g2.seq fun u S3 π3 H3 x3 q3 g3 => ?_
  have rx := (rx.ext x2).ext x3
  cases rx with
  | str z =>
    simp only at g3
    split at g3
    · rename_i hz
      refine .inl (.inl ⟨z, rfl, LIM_line hz, ?_⟩)
      exact G.ok g3 q3 _ (.str _)
    · exact g3.elim
  | @tup xs ys a t r =>
    have rc := RVs.cut r l u
    have hw2 : MP.cut xs l u = xs ∨ ¬ (HT.sIx ys.length 0 l = 0 ∧ HT.sIx ys.length ys.length u = ys.length) := by
      by_cases h : HT.sIx ys.length 0 l = 0 ∧ HT.sIx ys.length ys.length u = ys.length
      · rw [sl_eq, sl_eq, ← r.length] at h
        refine .inl ?_
        unfold MP.cut
        rw [h.1, h.2]
        simp
      · exact .inr h
    refine .inl (.inr ⟨a, ys, rfl, t.sq, fun h => ?_, fun h p hp => ?_⟩)
    · rcases hw2 with hw2 | hw2
      · have := G.ok g3 q3
        rw [hw2] at this
        exact this _ (.tup t r)
      · exact absurd h hw2
    · obtain ⟨y1, y2⟩ := q3.aside (u := .tup (cutV ys l u)) hp
      exact g3 _ _ y1 y2 _ (.tup (.inl upd_same) (rc.ext y1))
  | @ref l0 a ha =>
    simp only at g3
    split at g3
    · rename_i xs hx
      obtain ⟨ys, s1, r⟩ := q3.lst hx ha
      have rc := RVs.cut r l u
      refine .inr ⟨a, ys, rfl, s1, fun p hp => ?_⟩
      obtain ⟨y1, y2⟩ := q3.new (o := .lst (MP.cut xs l u)) (u := .lst (cutV ys l u)) hp fun {π' H'} x e => ⟨_, e, rc.ext x⟩
      refine g3 _ _ y1 y2 _ (.ref ?_)
      rw [← q3.len]
      simp
    · exact g3.elim
  | _ => exact g3.elim
theorem s_lsl {lo hi : Option Expr} (ha : PE X e1 (tL P cf N X W a)) (hl : POm X lo (tPt P cf N X W b)) (hh : POm X hi (tPt P cf N X W c)) : PE X (.Subscript e1 (.Slice lo hi none p2) pos) (tL P cf N X W (.lsl a b c)) := by
  obtain ⟨tl, hl, il⟩ := hl
  obtain ⟨th, hh, ih⟩ := hh
  refine PE.mono (pe_slice sl_list ha hl hh) fun σ H Q ⟨π, S, ρ, hS, hE, g⟩ => ⟨π, S, ρ, hS, hE, ?_⟩
  simp only [evalL] at g
  refine g.seq fun v S1 π1 H1 x1 q1 g1 x rx nx => il _ _ _ ⟨π1, S1, ρ, q1, hE.ext x1, ?_⟩
  refine g1.seq fun l S2 π2 H2 x2 q2 g2 => ih _ _ _ ⟨π2, S2, ρ, q2, (hE.ext x1).ext x2, ?_⟩
  refine g2.seq fun u S3 π3 H3 x3 q3 g3 => ?_
  have rx := (rx.ext x2).ext x3
  have x13 := (x1.trans x2).trans x3
  have go : G X.K N π3 H3 (ofO ((v.now S3).map fun xs => LV.tmp (MP.cut xs l u)) S3) (fun v _ π' H' => ∀ x, RL X.K N π' H' v x → NewL H v x → Q x H') (BX X.K N W σ) → (∀ zs, v ≠ .tup zs) → rSlL X.K x l u H3 Q := fun g3 nt => by
    obtain ⟨lv, e, q⟩ := G.ofO g3 q3
    obtain ⟨xs, e', rfl⟩ := Option.map_eq_some_iff.mp e
    obtain ⟨a, ys, rfl, r, h⟩ := rx.now q3 e'
    have sq : SqL X.K H3 a ys := by
      rcases h with h | h
      · exact h.1
      · exact absurd h.2 (nt _)
    refine ⟨a, ys, rfl, sq, fun p hp => ?_⟩
    obtain ⟨y1, y2, y3⟩ := RL.new q3 hp (RVs.cut r l u)
    rw [e'] at g3
    exact g3 _ _ y1 y2 _ y3 fun a e => by cases e; exact x13.back q3 hp
  cases v with
  | tup _ => exact g3.elim
  | tmp _ => exact go g3 fun _ z => nomatch z
  | trk _ => exact go g3 fun _ z => nomatch z
theorem s_lcat (ha : PE X e1 (tL P cf N X W a)) (hb : PE X e2 (tL P cf N X W b)) : PE X (.BinOp e1 .Add e2 pos) (tL P cf N X W (.lcat a b)) := by
  refine PE.mono (pe_op op_cat ha hb) fun σ H Q ⟨π, S, ρ, hS, hE, g⟩ => ⟨π, S, ρ, hS, hE, ?_⟩
  simp only [evalL] at g
  refine g.seq fun v S1 π1 H1 x1 q1 g1 x rx nx => ⟨π1, S1, ρ, q1, hE.ext x1, ?_⟩
  refine g1.seq fun w S2 π2 H2 x2 q2 g2 y ry ny => ?_
  have rx := rx.ext x2
  split at g2
  · rename_i xs ys h1 h2
    split at g2
    · rename_i hl
      obtain ⟨a1, us, rfl, r1, e1⟩ := rx.lst q2 h1
      obtain ⟨a2, vs, rfl, r2, e2⟩ := ry.lst q2 h2
      refine ⟨a1, a2, us, vs, rfl, rfl, e1, e2, LIM_line (by rw [← r1.length, ← r2.length]; exact hl), fun p hp => ?_⟩
      obtain ⟨y1, y2, y3⟩ := RL.new q2 hp (r1.append r2)
      exact g2 _ _ y1 y2 _ y3 fun a e => by cases e; exact (x1.trans x2).back q2 hp
    · exact g2.elim
  · exact g2.elim
/-! ### built-in calls -/
def bl1N : Bl1 → Str
  | .len => "len" | .int => "int" | .str => "str"
theorem one_row (h : PE X e1 (tEv P cf N X W a)) (hp : pl e1 = true) : PA X [e1] (tCons (tEv P cf N X W a) tNil) := pa_cons h pa_nil (pl_star hp [] X.env)
def rLen1 (K : PySem.W.Frag) : List V → Hp → VK → Prop := fun xs H Q => ∃ x n, xs = [x] ∧ LenV K x H n ∧ Q (.int n) H
theorem s_len (cx : CE P N n s X W) (ha : PE X e1 (tEv P cf N X W a)) (hp : pl e1 = true) (hg : glB s.sc "len" = true) (hf : N.frees.contains "len" = true) : PE X (.Call (.Name "len" p2) [e1] [] pos) (tEv P cf N X W (.bl1 .len a)) := by
  refine PE.mono (pe_callB (call_len.or call_lenD) (gl_of cx.hsc hg) (cx.md.free _ hf) PySem.boot_len (one_row ha hp) (by decide +kernel) (by decide +kernel) (pl_star hp [] X.env) rfl) fun σ H Q ⟨π, S, ρ, hS, hE, g⟩ => ⟨π, S, ρ, hS, hE, ?_⟩
  simp only [evalE] at g
  refine g.seq fun v S1 π1 H1 x1 q1 g1 x rx => ?_
  obtain ⟨z, e, q⟩ := G.ofO g1 q1
  cases rx with
  | str y =>
    simp only [bl1op] at e
    split at e
    · rename_i hl
      cases e
      exact .inl ⟨_, _, rfl, ⟨LIM_line hl, rfl⟩, q _ (.int _)⟩
    · cases e
  | tup t r =>
    cases e
    exact .inl ⟨_, _, rfl, .inr ⟨_, t.sq, rfl⟩, q _ (by rw [← r.length]; exact .int _)⟩
  | @ref l a ha =>
    simp only [bl1op] at e
    split at e
    · rename_i xs hx
      cases e
      obtain ⟨ys, h1, h2⟩ := q1.at_ l a _ ha hx
      exact .inl ⟨_, _, rfl, .inl ⟨_, SqL.of h1, rfl⟩, q _ (by rw [← h2.length]; exact .int _)⟩
    · rename_i xs hx
      cases e
      obtain ⟨ys, ⟨o, h1⟩, h2⟩ := q1.at_ l a _ ha hx
      exact .inl ⟨_, _, rfl, .inl ⟨_, .inl (.inr ⟨o, h1⟩), rfl⟩, q _ (by rw [← h2.length]; exact .int _)⟩
    · rename_i kvs hx
      cases e
      obtain ⟨ys, h1, h2⟩ := q1.dic hx ha
      have hl : kvs.length = ys.length := Paired.length h2
      exact .inr ⟨_, _, rfl, h1, q _ (by rw [← hl]; exact .int _)⟩
    · cases e
  | _ => cases e
end
end MP
/-! Built-in calls; calls of defs. -/
namespace MP
open PySem L2
section
variable {P : Prog} {cf : Nat → List Val → Store → R Val} {N : Nms} {n : Nat} {s : Sc} {X : Cx} {W : WX} {pos pos' p2 p3 : Pos} {e1 e2 e3 ex : Expr} {a b c e : E}
theorem two_row (h1 : PE X e1 (tEv P cf N X W a)) (h2 : PE X e2 (tEv P cf N X W b)) (hp1 : pl e1 = true) (hp2 : pl e2 = true) : PA X [e1, e2] (tCons (tEv P cf N X W a) (tCons (tEv P cf N X W b) tNil)) := pa_cons h1 (pa_cons h2 pa_nil (pl_star hp2 [] X.env)) (pl_star hp1 [e2] X.env)
theorem no_star1 (hp : pl e1 = true) (p : Pos) (env : Env) : (backTo p (starEach [e1] env)).any (·.1) = false := backTo_nostar (es := [e1]) (by simp [pl_plA hp]) p env
/-- f(a), f a built-in one -/
theorem s_blt1 {r : List V → Hp → VK → Prop} {x : Str} {id : String} (cx : CE P N n s X W) (hc : CallR X (.builtin id) r) (hv : bootBuiltins x = some (.builtin id)) (hn : x ≠ "__name__") (hd : (x == ("__debug__" : Str)) = false)
    (ha : PE X e1 (tEv P cf N X W a)) (hp : pl e1 = true) (hg : glB s.sc x = true) (hf : N.frees.contains x = true) : PE X (.Call (.Name x p2) [e1] [] pos) (tCB r (tCons (tEv P cf N X W a) tNil)) :=
  pe_callB hc (gl_of cx.hsc hg) (cx.md.free _ hf) hv (one_row ha hp) hn hd (pl_star hp [] X.env) rfl
theorem s_ty1 {r : List V → Hp → VK → Prop} {x : Str} {id : String} (cx : CE P N n s X W) (hc : CallR X (.type id) r) (hv : bootBuiltins x = some (.type id)) (hn : x ≠ "__name__") (hd : (x == ("__debug__" : Str)) = false)
    {t : TE} (ha : PE X e1 t) (hp : pl e1 = true) (hg : glB s.sc x = true) (hf : N.frees.contains x = true) : PE X (.Call (.Name x p2) [e1] [] pos) (tCB r (tCons t tNil)) :=
  pe_callTy hc (gl_of cx.hsc hg) (cx.md.free _ hf) hv (pa_cons ha pa_nil (pl_star hp [] X.env)) hn hd (pl_star hp [] X.env) rfl
theorem s_blt2 {r : List V → Hp → VK → Prop} {x : Str} {id : String} (cx : CE P N n s X W) (hc : CallR X (.builtin id) r) (hv : bootBuiltins x = some (.builtin id)) (hn : x ≠ "__name__") (hd : (x == ("__debug__" : Str)) = false)
    (ha : PE X e1 (tEv P cf N X W a)) (hb : PE X e2 (tEv P cf N X W b)) (hp : pl e1 = true) (hp' : pl e2 = true) (hg : glB s.sc x = true) (hf : N.frees.contains x = true) : PE X (.Call (.Name x p2) [e1, e2] [] pos) (tCB r (tCons (tEv P cf N X W a) (tCons (tEv P cf N X W b) tNil))) :=
  pe_callB hc (gl_of cx.hsc hg) (cx.md.free _ hf) hv (two_row ha hb hp hp') hn hd (pl_star hp [e2] X.env) (no_star1 hp' pos X.env)
theorem mid_1920 {i : Int} (h : mid i = true) : i.natAbs.log2 < 1920 := Nat.lt_trans (mid_log h) (by decide)
theorem s_toInt (cx : CE P N n s X W) (ha : PE X e1 (tEv P cf N X W a)) (hp : pl e1 = true) (hg : glB s.sc "int" = true) (hf : N.frees.contains "int" = true) : PE X (.Call (.Name "int" p2) [e1] [] pos) (tEv P cf N X W (.bl1 .int a)) := by
  refine PE.mono (s_ty1 cx (call_int1.or call_int_str) PyProof.Rows.boot_int (by decide +kernel) (by decide +kernel) ha hp hg hf) fun σ H Q ⟨π, S, ρ, hS, hE, g⟩ => ⟨π, S, ρ, hS, hE, ?_⟩
  simp only [evalE] at g
  refine g.seq fun v S1 π1 H1 x1 q1 g1 x rx => ?_
  obtain ⟨z, e, q⟩ := G.ofO g1 q1
  cases rx <;> simp only [bl1op] at e
  · cases e
  · cases e
    exact .inl (.inr ⟨_, rfl, q _ (.int _)⟩)
  · cases e
    exact .inl (.inl ⟨_, rfl, q _ (.int _)⟩)
  · split at e
    · rename_i hl
      obtain ⟨i, h1, rfl⟩ := Option.map_eq_some_iff.mp e
      exact .inr ⟨_, i, rfl, h1, hl, q _ (.int _)⟩
    · cases e
  · cases e
  · cases e
  · cases e
  · cases e
theorem s_toStr (cx : CE P N n s X W) (ha : PE X e1 (tEv P cf N X W a)) (hp : pl e1 = true) (hg : glB s.sc "str" = true) (hf : N.frees.contains "str" = true) : PE X (.Call (.Name "str" p2) [e1] [] pos) (tEv P cf N X W (.bl1 .str a)) := by
  refine PE.mono (s_ty1 cx (call_str_int.or SkE.call_str_str) PyProof.Rows.boot_str (by decide +kernel) (by decide +kernel) ha hp hg hf) fun σ H Q ⟨π, S, ρ, hS, hE, g⟩ => ⟨π, S, ρ, hS, hE, ?_⟩
  simp only [evalE] at g
  refine g.seq fun v S1 π1 H1 x1 q1 g1 x rx => ?_
  obtain ⟨z, e, q⟩ := G.ofO g1 q1
  cases rx <;> simp only [bl1op] at e
  case int i =>
    split at e
    · rename_i hl
      cases e
      exact .inl ⟨_, rfl, mid_1920 hl, q _ (.str _)⟩
    · cases e
  case str x =>
    cases e
    exact .inr ⟨_, rfl, q _ (.str _)⟩
  all_goals cases e
def rMM (mx : Bool) : List V → Hp → VK → Prop := fun xs H Q => ∃ i j, xs = [.int i, .int j] ∧ Q (.int (if mx then (if j > i then j else i) else if j < i then j else i)) H
theorem s_bl2 {t : TE} {r : List V → Hp → VK → Prop} {o : Bl2} (h : PE X ex (tCB r (tCons (tEv P cf N X W a) (tCons (tEv P cf N X W b) tNil))))
    (hr : ∀ {π S H v w z x y Q}, RS X.K N π S H → RV X.K N π H v x → RV X.K N π H w y → bl2op o v w = some z → (∀ π' H' r, Ext π H π' H' → RS X.K N π' S H' → RV X.K N π' H' z r → Q r H') → r [x, y] H Q) : PE X ex (tEv P cf N X W (.bl2 o a b)) := by
  refine PE.mono h fun σ H Q ⟨π, S, ρ, hS, hE, g⟩ => ⟨π, S, ρ, hS, hE, ?_⟩
  simp only [evalE] at g
  refine g.seq fun v S1 π1 H1 x1 q1 g1 x rx => ⟨π1, S1, ρ, q1, hE.ext x1, ?_⟩
  refine g1.seq fun w S2 π2 H2 x2 q2 g2 y ry => ?_
  cases e : bl2op o v w with
  | none => rw [e] at g2; exact g2.elim
  | some z =>
    rw [e] at g2
    exact hr q2 (rx.ext x2) ry e fun π' H' r x' q' rr => g2 π' H' x' q' r rr
theorem s_max2 (cx : CE P N n s X W) (ha : PE X e1 (tEv P cf N X W a)) (hb : PE X e2 (tEv P cf N X W b)) (hp : pl e1 = true) (hp' : pl e2 = true) (hg : glB s.sc "max" = true) (hf : N.frees.contains "max" = true) : PE X (.Call (.Name "max" p2) [e1, e2] [] pos) (tEv P cf N X W (.bl2 .max a b)) := by
  refine s_bl2 (t := tC .non) (s_blt2 cx (call_max2 cx.calm) PyProof.Rows.boot_max (by decide +kernel) (by decide +kernel) ha hb hp hp' hg hf) fun {π S H v w z x y Q} hS r1 r2 e q => ?_
  cases v <;> cases w <;> simp only [bl2op] at e <;> cases e
  cases r1; cases r2
  exact ⟨_, _, rfl, q π H _ Ext.refl hS (.int _)⟩
theorem s_min2 (cx : CE P N n s X W) (ha : PE X e1 (tEv P cf N X W a)) (hb : PE X e2 (tEv P cf N X W b)) (hp : pl e1 = true) (hp' : pl e2 = true) (hg : glB s.sc "min" = true) (hf : N.frees.contains "min" = true) : PE X (.Call (.Name "min" p2) [e1, e2] [] pos) (tEv P cf N X W (.bl2 .min a b)) := by
  refine s_bl2 (t := tC .non) (s_blt2 cx (call_min2 cx.calm) PyProof.Rows.boot_min (by decide +kernel) (by decide +kernel) ha hb hp hp' hg hf) fun {π S H v w z x y Q} hS r1 r2 e q => ?_
  cases v <;> cases w <;> simp only [bl2op] at e <;> cases e
  cases r1; cases r2
  exact ⟨_, _, rfl, q π H _ Ext.refl hS (.int _)⟩
theorem s_divmod (cx : CE P N n s X W) (ha : PE X e1 (tEv P cf N X W a)) (hb : PE X e2 (tEv P cf N X W b)) (hp : pl e1 = true) (hp' : pl e2 = true) (hg : glB s.sc "divmod" = true) (hf : N.frees.contains "divmod" = true) : PE X (.Call (.Name "divmod" p2) [e1, e2] [] pos) (tEv P cf N X W (.bl2 .divmod a b)) := by
  refine s_bl2 (t := tC .non) (s_blt2 cx call_divmodW PyProof.Rows.boot_divmod (by decide +kernel) (by decide +kernel) ha hb hp hp' hg hf) fun {π S H v w z x y Q} hS r1 r2 e q => ?_
  cases v <;> cases w <;> simp only [bl2op] at e <;> try cases e
  split at e
  · rename_i i j hl
    cases e
    cases r1; cases r2
    refine ⟨_, _, rfl, ⟨hl.1, PyProof.noPylong_of_log2 ?_⟩, fun p hp => ?_⟩
    · exact Nat.lt_of_lt_of_le (mid_log hl.2) (by decide)
    · obtain ⟨y1, y2⟩ := hS.aside (u := .tup [.int (i / j), .int (i % j)]) hp
      exact q _ _ _ y1 y2 (.tup (.inl upd_same) (.cons (.int _) (.cons (.int _) .nil)))
  · cases e
/-! ### isinstance -/
def tyN : Ty → String
  | .int => "int" | .bool => "bool" | .str => "str" | .tup => "tuple" | .list => "list" | .verr => "ValueError" | .cls _ => ""
theorem tyx {K : PySem.W.Frag} {π : List Addr} {H : Hp} {S : Store} {v : Val} {x : V} {ty : Ty} {bb : Bool} (hS : RS K N π S H) (r : RV K N π H v x) (h : isTy P S ty v = some bb) (hn : ∀ c, ty ≠ .cls c) (hv : ty ≠ .verr) : ∃ t, TyX K H x t ∧ PySem.W.kitOne K t (.type (tyN ty)) = some bb := by
  cases r with
  | non => cases ty <;> simp only [isTy] at h <;> first | (cases h; exact ⟨_, .base .non, by rfl⟩) | cases h
  | bl k => cases ty <;> simp only [isTy] at h <;> first | (cases h; exact ⟨_, .base (.bl k), by rfl⟩) | cases h
  | int i => cases ty <;> simp only [isTy] at h <;> first | (cases h; exact ⟨_, .base (.int i), by rfl⟩) | cases h
  | str z => cases ty <;> simp only [isTy] at h <;> first | (cases h; exact ⟨_, .base (.str z), by rfl⟩) | cases h
  | @tup xs ys a t _ =>
    have hx : TyX K H (.ref a) (.type "tuple") := by
      rcases t with t | ⟨o, its, m, t1, t2, _⟩
      · exact .base (.tup t)
      · exact .kTuple t1 t2
    cases ty <;> simp only [isTy] at h <;> first | (cases h; exact ⟨_, hx, by rfl⟩) | cases h
  | exc0 _ _ => cases ty <;> simp only [isTy] at h <;> first | exact absurd rfl hv | exact absurd rfl (hn _) | cases h
  | exc1 _ _ _ _ => cases ty <;> simp only [isTy] at h <;> first | exact absurd rfl hv | exact absurd rfl (hn _) | cases h
  | @ref l a ha =>
    cases ty <;> simp only [isTy] at h <;> try cases h
    case cls c => exact absurd rfl (hn c)
    all_goals
      split at h
      · rename_i xs hx
        cases h
        obtain ⟨ys, h1, h2⟩ := hS.at_ l a _ ha hx
        exact ⟨_, .base (.lst h1), by rfl⟩
      · rename_i xs hx
        cases h
        obtain ⟨ys, ⟨o, h1⟩, h2⟩ := hS.at_ l a _ ha hx
        exact ⟨_, .base (.frz h1), by rfl⟩
      · first
        | (cases h; done)
        | (rename_i lk kvs hx
           cases h
           cases lk with
           | false =>
             obtain ⟨ys, h1, h2⟩ := hS.at_ l a _ ha hx
             exact ⟨_, .base (.dK h1), by rfl⟩
           | true =>
             obtain ⟨o, ys, h1, h2⟩ := hS.at_ l a _ ha hx
             exact ⟨_, .fDict h1, by rfl⟩)
      try cases h
theorem s_isB (cx : CE P N n s X W) {ty : Ty} {j : Str} (ha : PE X e1 (tEv P cf N X W a)) (hp : pl e1 = true) (hg : glB s.sc "isinstance" = true) (hf : N.frees.contains "isinstance" = true) (hg' : glB s.sc j = true) (hf' : N.frees.contains j = true)
    (hb : bootBuiltins j = some (.type (tyN ty))) (hj : okName j = true) (hn : ∀ c, ty ≠ .cls c) (hv : ty ≠ .verr) : PE X (.Call (.Name "isinstance" p2) [e1, .Name j p3] [] pos) (tEv P cf N X W (.isinst a ty)) := by
  have h2 : PE X (.Name j p3) (tC (.ty (tyN ty))) := pe_bltn (gl_of cx.hsc hg') (cx.md.free _ hf') hb rfl (okName_of hj).2.2 (okName_of hj).1
  refine PE.mono (pe_callB call_isi (gl_of cx.hsc hg) (cx.md.free _ hf) PyProof.Rows.boot_isinstance (pa_cons ha (pa_cons h2 pa_nil rfl) (pl_star hp _ X.env)) (by decide +kernel) (by decide +kernel) (pl_star hp _ X.env) (no_star1 (e1 := .Name j p3) rfl pos X.env)) fun σ H Q ⟨π, S, ρ, hS, hE, g⟩ => ⟨π, S, ρ, hS, hE, ?_⟩
  simp only [evalE] at g
  refine g.seq fun v S1 π1 H1 x1 q1 g1 x rx => ?_
  obtain ⟨z, e, q⟩ := G.ofO g1 q1
  obtain ⟨bb, e', rfl⟩ := Option.map_eq_some_iff.mp e
  obtain ⟨t, h1, h2⟩ := tyx q1 rx e' hn hv
  exact ⟨x, _, t, _, bb, rfl, .ty _, h1, h2, q _ (.bl _)⟩
end
end MP
/-! Calls of defs, methods, classes. -/
namespace MP
open PySem L2
theorem nostar_all {es : List Expr} (h : es.all plA = true) (pos : Pos) (env : Env) : (backTo pos (starEach es env)).all (!·.1) = true := by
  have e := backTo_nostar h pos env
  rw [List.all_eq_true]
  intro x hx
  rw [List.any_eq_false] at e
  simpa using e x hx
theorem meth_eq {o : Expr} {m : Str} {apos pos : Pos} {es : List Expr} {env : Env} (hp : pl o = true) (hs : es.all plA = true) (hl : es.length < 30) (hln : (apos.endLine == pos.line) = true) :
    eval (.Call (.Attribute o m apos) es [] pos) env = (do
      let ov ← eval o env
      standAt apos.atName
      let (f, first) ← holding [ov] (getMethod ov m (do return (← importBound o env).getD true))
      callWith pos f first (backTo pos (starEach es env)) (backToKw pos (keywordEach [] env))) := by
  have e1 : methodCallForm (es.length + ([] : List Keyword).length) (backTo pos (starEach es env)) (backToKw pos (keywordEach [] env)) = true := by
    unfold methodCallForm
    rw [nostar_all hs]
    have : (es.length + ([] : List Keyword).length) < 30 := by simpa using hl
    simp only [Bool.true_and]
    rw [show (backToKw pos (keywordEach [] env)).isEmpty = true from rfl, show (backToKw pos (keywordEach [] env)).all (·.1.isSome) = true from rfl]
    simpa using this
  show (do
    let ov ← attributeBase o m env (eval o env)
    standAt apos.atName
    methodCall o m apos pos env ov (es.length + ([] : List Keyword).length) (backTo pos (starEach es env)) (backToKw pos (keywordEach [] env))) = _
  rw [pl_attr hp]
  unfold methodCall calleeOf methodCallPos
  rw [e1]
  simp only [hln, if_true, Bool.not_true, Bool.false_or, pure_bind]
section
variable {P : Prog} {N : Nms} {n : Nat} {s : Sc} {X : Cx} {W : WX} {pos pos' p2 p3 : Pos} {e1 e2 e3 ex o : Expr} {a b c e eo : E} {es : List Expr} {f k c' : Nat}
theorem RVs.vals_len {K : PySem.W.Frag} {π : List Addr} {H : Hp} {vs : List Val} {ys : List V} {us : List Value} (r : RVs K N π H vs ys) (q : Vals ys us) : vs.length = us.length := r.length.trans q.length
/-- the arguments, then the call -/
theorem args_run {pins : List (Addr × Obj)} {σ : St} {H : Hp} {s' : Shared} {Q : VK} {t : TA} {fv : Value} {first : List Value} (I : Inv X pins σ H s') (hk : PySem.W.keepIn X.K fv = true) (hs : PA X es t) (hp : es.all plA = true)
    (hq : es = [] → t σ H (fun vs H1 => ∀ us s1, Inv X pins σ H1 s1 → Vals vs us → wpAny (model X.prog X.w) X.A (call fv (first ++ us)) (EP X pins σ Q) X.xe s1) → ∀ s1, Inv X pins σ H s1 → wpAny (model X.prog X.w) X.A (call fv (first ++ [])) (EP X pins σ Q) X.xe s1)
    (h : t σ H fun vs H1 => ∀ us s1, Inv X pins σ H1 s1 → Vals vs us → wpAny (model X.prog X.w) X.A (call fv (first ++ us)) (EP X pins σ Q) X.xe s1) :
    wpAny (model X.prog X.w) X.A (callWith pos fv first (backTo pos (starEach es X.env)) (backToKw pos (keywordEach [] X.env))) (EP X pins σ Q) X.xe s' := by
  cases es with
  | nil => exact PySem.W.callWith_K0 I.kIn hk (hq rfl h s' I)
  | cons e0 r =>
    simp only [List.all_cons, Bool.and_eq_true] at hp
    exact PySem.W.callWith_K (h₀ := X.base) I.ok.mod.kin hk (thn (hs.run pos pins s' σ H _ I h) fun us s1 ⟨vs, H1, I1, r, q⟩ => ⟨I1.kIn, q us s1 I1 r⟩) (plA_star hp.1 r X.env) (backTo_nostar hp.2 pos X.env)
/-- a row of terms for a row of expressions -/
def rowsOk (es : List Expr) (e : E) : Prop := es = [] → e = .nil
theorem args0 {cf : Nat → List Val → Store → R Val} {σ : St} {H : Hp} {Q : List V → Hp → Prop} (h : tRw P cf N X W .nil σ H Q) : Q [] H := by
  obtain ⟨π, S, ρ, hS, hE, g⟩ := h
  simp only [evalEs] at g
  exact G.ok g hS [] .nil
theorem s_call (cx : CE P N n s X W) (hs : PA X es (tRw P (callN P n) N X W e)) (hp : es.all plA = true) (hn : rowsOk es e) (hf : N.isF f = true) (hg : glB s.sc (N.fn f) = true) (ho : okName (N.fn f) = true) :
    PE X (.Call (.Name (N.fn f) p2) es [] pos) (tEv P (callN P n) N X W (.call f e k)) := by
  obtain ⟨a, h1, h2, fd, ps, F, hk⟩ := cx.md.call f hf
  obtain ⟨dvs, dss, hb, hd, hr⟩ := hk k
  refine ⟨fun pins s' σ H Q I h => ?_⟩
  refine wpAny_Call_Name_kw (ld_glob I (gl_of cx.hsc hg) h1 ?_ (okName_of ho).1)
  refine args_run (t := tRw P (callN P n) N X W e) I h2 hs hp (fun e0 q s1 I1 => ?_) ?_
  · have := hn e0
    subst this
    exact args0 q [] s1 I1 .nil
  · obtain ⟨π, S, ρ, hS, hE, g⟩ := h
    simp only [evalE] at g
    refine ⟨π, S, ρ, hS, hE, g.seq fun vs S1 π1 H1 x1 q1 g1 xs rs us s1 I1 r => ?_⟩
    exact run_fnSD F (cx.room.mono (by omega)) hb hd (L2N.passAt cx.tk σ) I1 r ⟨π1, S1, _, q1, rs.append (hr π1 H1), g1⟩
theorem s_meth (cx : CE P N n s X W) {m : Nat} {apos : Pos} (h1 : PE X o (tEv P (callN P n) N X W eo)) (hs : PA X es (tRw P (callN P n) N X W e)) (hpo : pl o = true) (hp : es.all plA = true) (hl : es.length < 30) (hln : (apos.endLine == pos.line) = true) (hn : rowsOk es e) :
    PE X (.Call (.Attribute o (N.mth m) apos) es [] pos) (tEv P (callN P n) N X W (.meth eo m e k)) := by
  refine ⟨fun pins s' σ H Q I h => ?_⟩
  obtain ⟨π, S, ρ, hS, hE, g⟩ := h
  simp only [evalE] at g
  refine PySem.W.methodCall_KW (thn (h1.run pins s' σ H (fun x H1 => ∃ (a : Addr) (l : Nat) (S1 : Store) (π1 : List Addr), x = .ref a ∧ Ext π H π1 H1 ∧ RS X.K N π1 S1 H1 ∧ π1[l]? = some a ∧ G X.K N π1 H1 (match S1[l]? with
      | some (.ins c _) => match P.meth c m with
        | some f => (evalEs P (callN P n) e ρ S1).bind fun vs S2 => callN P n f (.ref l :: (vs ++ (P.dfl f).drop k)) S2
        | none => .bad
      | _ => .bad) (fun v _ π' H' => ∀ x, RV X.K N π' H' v x → Q x H') (BX X.K N W σ)) I ⟨π, S, ρ, hS, hE, g.seq fun v S1 π1 H1 x1 q1 g1 x rx => ?_⟩) fun u s1 ⟨x, H1, I1, rx, a, l, S1, π1, ex, x1, q1, hl', g1⟩ => ?_) (meth_eq hpo hp hl hln)
  · cases rx with
    | ref ha => exact ⟨_, _, S1, π1, rfl, x1, q1, ha, g1⟩
    | _ => exact g1.elim
  · subst ex
    obtain rfl : u = Value.ref a := rx
    split at g1
    · rename_i c fs hc
      split at g1
      · rename_i f hm
        obtain ⟨dx, gs, ha, hF, hC, hA⟩ := q1.at_ l a _ hl' hc
        obtain ⟨fa, hM, ⟨fd, ps, F, hk⟩, hne⟩ := cx.md.meth c m f hm
        obtain ⟨dvs, dss, hb, hd, hr⟩ := hk k
        have nol : gs.lookup (N.mth m) = none := by
          clear ha hc
          induction hF with
          | nil => rfl
          | @cons p q ps qs r t ih =>
            have ih := ih fun z hz => hA z (List.mem_cons_of_mem _ hz)
            obtain ⟨k1, v1⟩ := q
            have e : k1 = N.fld p.1 := r.1
            subst e
            rw [List.lookup_cons]
            have := hne p.1 (hA p List.mem_cons_self)
            have hb : (N.mth m == N.fld p.1) = false := by simpa using this
            rw [hb]
            exact ih
        refine getmeth_ok I1 ha (cx.md.cls c hC).1 hM nol ?_
        refine args_run (t := tRw P (callN P n) N X W e) (first := [.ref a]) I1 hM.kp hs hp (fun e0 q s1 I1 => ?_) ⟨π1, S1, ρ, q1, hE.ext x1, g1.seq fun vs S2 π2 H2 x2 q2 g2 xs rs us s2 I2 r => ?_⟩
        · have := hn e0
          subst this
          exact args0 q [] s1 I1 .nil
        · exact run_fnSD (us := .ref a :: us) (vs := .ref a :: xs) F (cx.room.mono (by omega)) hb hd (L2N.passAt cx.tk σ) I2 (.cons rfl r) ⟨π2, S2, _, q2, .cons (.ref (x2.ix hl')) (rs.append (hr π2 H2)), g2⟩
      · exact g1.elim
    · exact g1.elim
/-- C(..), what is raised wished for at the slots -/
theorem mk_run {pins : List (Addr × Obj)} {σ : St} {H : Hp} {s0 : Shared} {Q : VK} {us : List Value} {vs dvs : List V} {ds : List Value} {C g : Addr} {fd : FuncData} {ps : List Str} {sp : Sp} {j : Nat} (M : Mk X.K C g) (F : FnOk X.prog X.w X.K X.mg X.base (L2N.CX X.prog X.w) j g fd ps sp)
    (hr : Room (j + 1) X.A) (hb : Binds X.K fd ps ds) (hd : Vals dvs ds) (tk : L2N.Takes X W) (I : Inv X pins σ H s0) (r : Vals vs us)
    (h : ∀ x dx, H x = none → H dx = none → dx ≠ x → sp (.ref x :: (vs ++ dvs)) (upd (upd H dx (.own x)) x (.ins C dx [])) (fun v H2 => v = .non ∧ Q (.ref x) H2) (WE W σ)) :
    wpAny (model X.prog X.w) X.A (call (.ref C) us) (EP X pins σ Q) X.xe s0 := by
  have hq := h (s0.heap.objs.size + 1) s0.heap.objs.size (I.hok.fresh (Nat.le_succ _)) (I.hok.fresh (Nat.le_refl _)) (Nat.ne_of_lt (Nat.lt_succ_self _))
  have J := Inv.made (C := C) I
  have rr : Vals (V.ref (s0.heap.objs.size + 1) :: (vs ++ dvs)) (Value.ref (s0.heap.objs.size + 1) :: (us ++ ds)) := .cons rfl (r.append hd)
  have hl : (Value.ref (s0.heap.objs.size + 1) :: us ++ ds).length = ps.length := (F.len _ _ _ _ hq ▸ rr.length).symm
  refine wpAny_call (make_map (f := g) I.kIn M.makes M.init (beq_iff_eq.mp M.fn) (codeAny_mono (F.run _ X.stack _ _ ⟨Value.ref (s0.heap.objs.size + 1) :: us, []⟩ (Value.ref (s0.heap.objs.size + 1) :: (us ++ ds)) _ _ (WE W σ) (hr.make C us [])
    (J.env0.make C us []) (hb _ (Value.ref (s0.heap.objs.size + 1) :: us) J.kIn hl) rr hq) fun z s' hz => ?_))
  cases z with
  | error e => exact L2N.passAt tk σ pins _ _ e s' J hz
  | ok fl =>
    cases fl with
    | ret u =>
      obtain ⟨v, H', J3, rv, ev, q3⟩ := J.after hz
      subst ev
      exact ⟨rv, ⟨V.ref (s0.heap.objs.size + 1), H', J3, rfl, q3⟩⟩
    | next => exact hz.elim
    | brk => exact hz.elim
    | cont => exact hz.elim
theorem s_new (cx : CE P N n s X W) (hs : PA X es (tRw P (callN P n) N X W e)) (hp : es.all plA = true) (hn : rowsOk es e) (hf : P.init c' = some f) (hg : glB s.sc (N.cls c') = true) (ho : okName (N.cls c') = true) :
    PE X (.Call (.Name (N.cls c') p2) es [] pos) (tEv P (callN P n) N X W (.new c' e k)) := by
  obtain ⟨hC, a, h1, hM, ⟨fd, ps, F, hk⟩, _⟩ := cx.md.init c' f hf
  obtain ⟨dvs, dss, hb, hd, hr⟩ := hk k
  refine ⟨fun pins s' σ H Q I h => ?_⟩
  refine wpAny_Call_Name_kw (ld_glob I (gl_of cx.hsc hg) h1 ?_ (okName_of ho).1)
  refine args_run (t := tRw P (callN P n) N X W e) I hM.kp hs hp (fun e0 q s1 I1 => ?_) ?_
  · have := hn e0
    subst this
    exact args0 q [] s1 I1 .nil
  · obtain ⟨π, S, ρ, hS, hE, g⟩ := h
    simp only [evalE] at g
    refine ⟨π, S, ρ, hS, hE, g.seq fun vs S1 π1 H1 x1 q1 g1 xs rs us s1 I1 r => ?_⟩
    rw [hf] at g1
    simp only at g1
    refine mk_run hM F (cx.room.mono (by omega)) hb hd cx.tk I1 r fun x dx hx hdx hne => ?_
    obtain ⟨y1, y2⟩ := q1.aside (u := .own x) hdx
    have hx' : upd H1 dx (.own x) x = none := by rw [upd_ne (Ne.symm hne)]; exact hx
    obtain ⟨z1, z2⟩ := y2.new (o := .ins c' []) (u := .ins (He.ga X.K (N.cls c')) dx []) hx' fun {π' H'} _ e => ⟨dx, [], e, .nil, hC, fun p hp => absurd hp (by simp)⟩
    refine ⟨π1 ++ [x], _, _, z2, .cons (.ref (l := S1.length) ?_) (((rs.ext y1).ext z1).append (hr _ _)), ?_⟩
    · rw [← q1.len]
      simp
    · have g2 := G.ext (y1.trans z1) g1
      refine G.seq g2 fun v S2 π2 H2 x2 q2 g3 y ry => ?_
      cases ry with
      | non =>
        refine ⟨rfl, G.ok g3 q2 _ (.ref (x2.ix ?_))⟩
        rw [← q1.len]
        simp
      | _ => exact g3.elim
/-- C.__init__(..) -/
theorem s_initC (cx : CE P N n s X W) {apos : Pos} {c' f : Nat} (hs : PA X es (tRw P (callN P n) N X W e)) (hp : es.all plA = true) (hn : rowsOk es e) (hf : P.init c' = some f) (hg : glB s.sc (N.cls c') = true) (ho : okName (N.cls c') = true) (hl : es.length < 30) (hln : (apos.endLine == pos.line) = true) :
    PE X (.Call (.Attribute (.Name (N.cls c') p2) "__init__" apos) es [] pos) (tEv P (callN P n) N X W (.call f e k)) := by
  obtain ⟨hC, a, h1, hM, ⟨fd, ps, F, hk⟩, hB⟩ := cx.md.init c' f hf
  obtain ⟨dvs, dss, hb, hd, hr⟩ := hk k
  refine ⟨fun pins s' σ H Q I h => ?_⟩
  refine PySem.W.methodCall_KW (ld_glob I (gl_of cx.hsc hg) h1 ?_ (okName_of ho).1) (meth_eq rfl hp hl hln)
  refine PySem.W.method_cls I.kIn hB.sp (PySem.W.cls_value I.kIn hB.rd hB.fi hB.hi ?_)
  refine args_run (t := tRw P (callN P n) N X W e) (first := []) (I.tok _) (hB.kp.resolve_right (fun ⟨_, e⟩ => nomatch e)) hs hp (fun e0 q s1 I1 => ?_) ?_
  · have := hn e0
    subst this
    exact args0 q [] s1 I1 .nil
  · obtain ⟨π, S, ρ, hS, hE, g⟩ := h
    simp only [evalE] at g
    refine ⟨π, S, ρ, hS, hE, g.seq fun vs S1 π1 H1 x1 q1 g1 xs rs us s1 I1 r => ?_⟩
    exact run_fnSD F (cx.room.mono (by omega)) hb hd (L2N.passAt cx.tk σ) I1 r ⟨π1, S1, _, q1, rs.append (hr π1 H1), g1⟩
end
end MP
/-! Statements. -/
namespace MP
open PySem L2
section
variable {P : Prog} {cf : Nat → List Val → Store → R Val} {N : Nms} {n : Nat} {s : Sc} {X : Cx} {W : WX} {pos pos' p2 p3 : Pos} {e1 e2 e3 ex o : Expr} {a b c e eo : E} {es : List Expr} {f k : Nat} {st : Stmt} {sts sts2 : List Stmt} {u v : S}
abbrev tSs (P : Prog) (cf : Nat → List Val → Store → R Val) (N : Nms) (X : Cx) (W : WX) (e : S) : TS := tS X.K N W (evalS P cf e)
theorem ss_nil : PSs X [] (tSs P cf N X W .nil) := PSs.mono pss_nil fun D σ H ⟨π, S, ρ, hS, hE, g⟩ => by
  simp only [evalS] at g
  exact g π H σ Ext.refl hS hE
theorem ss_cons (h1 : PS X st (tSs P cf N X W u)) (h2 : PSs X sts (tSs P cf N X W v)) : PSs X (st :: sts) (tSs P cf N X W (.cons u v)) := PSs.mono (pss_cons h1 h2) fun D σ H ⟨π, S, ρ, hS, hE, g⟩ => by
  simp only [evalS] at g
  exact ⟨π, S, ρ, hS, hE, g.bind⟩
theorem ss_pass : PS X (.Pass pos) (tSs P cf N X W .pass) := PS.mono ps_pass fun D σ H ⟨π, S, ρ, hS, hE, g⟩ => by
  simp only [evalS] at g
  exact g π H σ Ext.refl hS hE
theorem ss_brk : PS X (.Break pos) (tSs P cf N X W .brk) := PS.mono ps_break fun D σ H ⟨π, S, ρ, hS, hE, g⟩ => by
  simp only [evalS] at g
  exact g π H σ Ext.refl hS hE
theorem ss_cnt : PS X (.Continue pos) (tSs P cf N X W .cnt) := PS.mono ps_continue fun D σ H ⟨π, S, ρ, hS, hE, g⟩ => by
  simp only [evalS] at g
  exact g π H σ Ext.refl hS hE
theorem ss_doc {x j} : PS X (.Expr (.Constant (.str x) j pos) pos') (tSs P cf N X W .pass) := PS.mono ps_doc fun D σ H ⟨π, S, ρ, hS, hE, g⟩ => by
  simp only [evalS] at g
  exact g π H σ Ext.refl hS hE
theorem ss_ret (h : PE X ex (tEv P cf N X W e)) : PS X (.Return (some ex) pos) (tSs P cf N X W (.ret e)) := PS.mono (ps_ret h) fun D σ H ⟨π, S, ρ, hS, hE, g⟩ => by
  simp only [evalS] at g
  exact ⟨π, S, ρ, hS, hE, g.toF hE fun v S1 π1 H1 x1 q1 g1 x r => g1 π1 H1 x Ext.refl q1 r⟩
theorem ss_retN : PS X (.Return none pos) (tSs P cf N X W .retN) := PS.mono ps_retN fun D σ H ⟨π, S, ρ, hS, hE, g⟩ => by
  simp only [evalS] at g
  exact g π H .non Ext.refl hS .non
theorem ss_ex (h : PE X ex (tEv P cf N X W e)) (hc : noComp ex = true) : PS X (.Expr ex pos) (tSs P cf N X W (.ex e)) := PS.mono (ps_expr h (noComp_sw hc _ _ _)) fun D σ H ⟨π, S, ρ, hS, hE, g⟩ => by
  simp only [evalS] at g
  exact ⟨π, S, ρ, hS, hE, g.toF hE fun v S1 π1 H1 x1 q1 g1 x r => g1 π1 H1 σ Ext.refl q1 (hE.ext x1)⟩
theorem ss_if (h : PT X ex (tCt P cf N X W e)) (h1 : PSs X sts (tSs P cf N X W u)) (h2 : PSs X sts2 (tSs P cf N X W v)) : PS X (.If ex sts sts2 pos) (tSs P cf N X W (.ite e u v)) := PS.mono (ps_if h h1 h2) fun D σ H ⟨π, S, ρ, hS, hE, g⟩ => by
  simp only [evalS] at g
  refine ⟨π, S, ρ, hS, hE, g.toF hE fun z S1 π1 H1 x1 q1 g1 => ?_⟩
  cases z with
  | bl k =>
    refine ⟨k, rfl, ?_⟩
    cases k with
    | true => exact ⟨π1, S1, ρ, q1, hE.ext x1, g1⟩
    | false => exact ⟨π1, S1, ρ, q1, hE.ext x1, g1⟩
  | _ => exact g1.elim
/-! ### stores -/
theorem loc_of {x : Str} (cx : CE P N n s X W) (h : tgB s x = true) : Loc X.env.scope x ∧ (X.fn x = true ∨ X.env.scope.names.lookup x = some .local) := by
  unfold tgB at h
  rw [cx.hsc]
  split at h
  · rename_i hl
    exact ⟨.inl hl, .inr hl⟩
  · rename_i hl
    exact ⟨.inr hl, .inl (cx.fn (by simpa using h) x)⟩
  · cases h
theorem Ev.put_ok {K : PySem.W.Frag} {π : List Addr} {H : Hp} {ρ ρ1 : Ev} {σ : St} {i : Nat} {v : Val} {x : V} (h : ρ.put i v = some ρ1) (r : RE K N π H ρ σ) (q : RV K N π H v x) : RE K N π H ρ1 (σ.set i (some x)) := by
  unfold Ev.put at h
  split at h
  · cases h
    exact r.set q
  · cases h
theorem ss_set (cx : CE P N n s X W) {i : Nat} {x : Str} (h : PE X ex (tEv P cf N X W e)) (hc : noComp ex = true) (hi : s.N[i]? = some x) (hx : tgB s x = true) : PS X (.Assign [.Name x p2] ex pos) (tSs P cf N X W (.asg (.name i) e)) := by
  obtain ⟨l1, l2⟩ := loc_of cx hx
  refine PS.mono (ps_set (by rw [cx.hN]; exact cx.nd) (by rw [cx.hN]; exact hi) l1 h (noComp_sw hc _ _ _) l2) fun D σ H ⟨π, S, ρ, hS, hE, g⟩ => ?_
  simp only [evalS] at g
  refine ⟨π, S, ρ, hS, hE, g.toF hE fun v S1 π1 H1 x1 q1 g1 x r => ?_⟩
  simp only [evalT] at g1
  split at g1
  · rename_i ρ1 hp
    exact g1 π1 H1 _ Ext.refl q1 (Ev.put_ok hp (hE.ext x1) r)
  · exact g1.elim
/-- a row of names as targets -/
def gNames : List Nat → TGs
  | [] => gNil
  | i :: is => gCons (gName i) (gNames is)
def tgNames (s : Sc) : List Nat → List Expr → Bool
  | [], [] => true
  | i :: is, .Name x _ :: r => decide (s.N[i]? = some x) && tgB s x && tgNames s is r
  | _, _ => false
theorem pgs_names (cx : CE P N n s X W) : ∀ {is : List Nat} {es : List Expr}, tgNames s is es = true → PGs X es (gNames is) ∧ (assignEach es X.env).length = es.length ∧ (assignEach es X.env).findIdx? (·.1) = none ∧ es.length = is.length
  | [], [], _ => ⟨pgs_nil, rfl, rfl, rfl⟩
  | i :: is, .Name x p :: r, h => by
    simp only [tgNames, Bool.and_eq_true, decide_eq_true_eq] at h
    obtain ⟨⟨h1, h2⟩, h3⟩ := h
    obtain ⟨k1, k2, k3, k4⟩ := pgs_names cx h3
    obtain ⟨l1, l2⟩ := loc_of cx h2
    refine ⟨pgs_cons (pg_name (by rw [cx.hN]; exact cx.nd) (by rw [cx.hN]; exact h1) l1 l2) k1 rfl, ?_, ?_, ?_⟩
    · show (assignEach r X.env).length + 1 = _
      rw [k2]; rfl
    · show (((false, _) :: assignEach r X.env).findIdx? (·.1)) = none
      rw [List.findIdx?_cons]
      simp [k3]
    · simp [k4]
  | [], _ :: _, h => by simp [tgNames] at h
  | _ :: _, [], h => by simp [tgNames] at h
  | i :: is, e :: r, h => by
    cases e <;> first | (simp [tgNames] at h; done) | skip
    rename_i x p
    simp only [tgNames, Bool.and_eq_true, decide_eq_true_eq] at h
    obtain ⟨⟨h1, h2⟩, h3⟩ := h
    obtain ⟨k1, k2, k3, k4⟩ := pgs_names cx h3
    obtain ⟨l1, l2⟩ := loc_of cx h2
    refine ⟨pgs_cons (pg_name (by rw [cx.hN]; exact cx.nd) (by rw [cx.hN]; exact h1) l1 l2) k1 rfl, ?_, ?_, ?_⟩
    · show (assignEach r X.env).length + 1 = _
      rw [k2]; rfl
    · show (((false, _) :: assignEach r X.env).findIdx? (·.1)) = none
      rw [List.findIdx?_cons]
      simp [k3]
    · simp [k4]
/-- but at these slots the same -/
def Same (is : List Nat) (σ σ2 : St) : Prop := ∀ ws : List Nat, (∀ i ∈ is, i ∈ ws) → wipe σ2 ws = wipe σ ws
theorem wipe_set {i : Nat} {x : Option V} : ∀ {ws : List Nat} {σ : St}, i ∈ ws → wipe (σ.set i x) ws = wipe σ ws
  | [], _, h => nomatch h
  | j :: ws, σ, h => by
    show (wipe (σ.set i x) ws).set j none = (wipe σ ws).set j none
    by_cases e : i ∈ ws
    · rw [wipe_set e]
    · have ej : i = j := by
        rcases List.mem_cons.mp h with h | h
        · exact h
        · exact absurd h e
      subst ej
      have key : ∀ {ws : List Nat} {σ : St}, i ∉ ws → wipe (σ.set i x) ws = (wipe σ ws).set i x := fun {ws} => by
        induction ws with
        | nil => intro σ _; rfl
        | cons k ws ih =>
          intro σ hk
          simp only [List.mem_cons, not_or] at hk
          show (wipe (σ.set i x) ws).set k none = ((wipe σ ws).set k none).set i x
          rw [ih hk.2, List.set_comm _ _ hk.1]
      rw [key e, List.set_set]
theorem Same.refl {is : List Nat} {σ : St} : Same is σ σ := fun _ _ => rfl
theorem Same.set {is : List Nat} {σ σ2 : St} {i : Nat} {x : Option V} (h : Same is (σ.set i x) σ2) : Same (i :: is) σ σ2 := fun ws hw => by
  rw [h ws fun j hj => hw j (List.mem_cons_of_mem _ hj)]
  exact wipe_set (hw i List.mem_cons_self)
theorem puts_ok' {K : PySem.W.Frag} {π : List Addr} {H : Hp} {Q : St → Hp → Prop} : ∀ {is : List Nat} {vs : List Val} {xs : List V} {ρ ρ1 : Ev} {σ : St}, ρ.puts is vs = some ρ1 → RE K N π H ρ σ → RVs K N π H vs xs → (∀ σ2, RE K N π H ρ1 σ2 → Same is σ σ2 → Q σ2 H) → gNames is xs σ H Q
  | [], [], _, ρ, ρ1, σ, h, r, .nil, q => by
    cases h
    exact ⟨rfl, q _ r Same.refl⟩
  | i :: is, v :: vs, _, ρ, ρ1, σ, h, r, .cons r1 rs, q => by
    simp only [Ev.puts, Option.bind_eq_some_iff] at h
    obtain ⟨ρ2, h1, h2⟩ := h
    exact ⟨_, _, rfl, puts_ok' h2 (Ev.put_ok h1 r r1) rs fun σ2 k1 k2 => q σ2 k1 k2.set⟩
  | [], _ :: _, _, _, _, _, h, _, _, _ => by simp [Ev.puts] at h
  | _ :: _, [], _, _, _, _, h, _, _, _ => by simp [Ev.puts] at h
theorem puts_ok {K : PySem.W.Frag} {π : List Addr} {H : Hp} {Q : St → Hp → Prop} : ∀ {is : List Nat} {vs : List Val} {xs : List V} {ρ ρ1 : Ev} {σ : St}, ρ.puts is vs = some ρ1 → RE K N π H ρ σ → RVs K N π H vs xs → (∀ σ2, RE K N π H ρ1 σ2 → Q σ2 H) → gNames is xs σ H Q
  | [], [], _, ρ, ρ1, σ, h, r, .nil, q => by
    cases h
    exact ⟨rfl, q _ r⟩
  | i :: is, v :: vs, _, ρ, ρ1, σ, h, r, .cons r1 rs, q => by
    simp only [Ev.puts, Option.bind_eq_some_iff] at h
    obtain ⟨ρ2, h1, h2⟩ := h
    exact ⟨_, _, rfl, puts_ok h2 (Ev.put_ok h1 r r1) rs q⟩
  | [], _ :: _, _, _, _, _, h, _, _, _ => by simp [Ev.puts] at h
  | _ :: _, [], _, _, _, _, h, _, _, _ => by simp [Ev.puts] at h
theorem puts_len : ∀ {is : List Nat} {vs : List Val} {ρ ρ1 : Ev}, ρ.puts is vs = some ρ1 → vs.length = is.length
  | [], [], _, _, _ => rfl
  | i :: is, v :: vs, ρ, ρ1, h => by
    simp only [Ev.puts, Option.bind_eq_some_iff] at h
    obtain ⟨ρ2, h1, h2⟩ := h
    simp [puts_len h2]
  | [], _ :: _, _, _, h => by simp [Ev.puts] at h
  | _ :: _, [], _, _, h => by simp [Ev.puts] at h
theorem PG.or2 {te : Expr} {g1 g2 : TG} (h1 : PG X te g1) (h2 : PG X te g2) : PG X te (fun v σ H Q => g1 v σ H Q ∨ g2 v σ H Q) := ⟨fun pins s σ H v u Q I r h => h.elim (h1.run pins s σ H v u Q I r) (h2.run pins s σ H v u Q I r)⟩
theorem pg_both (cx : CE P N n s X W) {is : List Nat} {es : List Expr} {kk : Nat} (h : tgNames s is es = true) : PG X (.Tuple es kk pos) (fun v σ H Q => gTup X.K is.length (gNames is) v σ H Q ∨ gLst X.K is.length (gNames is) v σ H Q) := by
  obtain ⟨k1, k2, k3, k4⟩ := pgs_names cx h
  exact PG.or2 (pg_tup cx.calm k1 (k2.trans k4) k3) (pg_lst cx.calm k1 (k2.trans k4) k3)
/-- a loop's target -/
def tgE (s : Sc) : List Nat → Bool → Expr → Bool
  | [i], true, .Name x _ => decide (s.N[i]? = some x) && tgB s x
  | is, false, .Tuple es _ _ => tgNames s is es
  | _, _, _ => false
theorem pg_tg (cx : CE P N n s X W) {tg : List Nat} {one : Bool} {te : Expr} (h : tgE s tg one te = true) : ∃ g, PG X te g ∧ ∀ {v : Val} {x : V} {ρ ρ1 : Ev} {σ : St} {π : List Addr} {H : Hp} {Q : St → Hp → Prop}, Ev.tg tg one v ρ = some ρ1 → RV X.K N π H v x → RE X.K N π H ρ σ → (∀ σ2, RE X.K N π H ρ1 σ2 → Same tg σ σ2 → Q σ2 H) → g x σ H Q := by
  unfold tgE at h
  split at h
  · rename_i i x p
    simp only [Bool.and_eq_true, decide_eq_true_eq] at h
    obtain ⟨l1, l2⟩ := loc_of cx h.2
    refine ⟨_, pg_name (by rw [cx.hN]; exact cx.nd) (by rw [cx.hN]; exact h.1) l1 l2, fun {v x ρ ρ1 σ π H Q} hp r hE q => ?_⟩
    exact q _ (Ev.put_ok hp hE r) Same.refl.set
  · rename_i is es kk p
    refine ⟨_, pg_both cx h, fun {v x ρ ρ1 σ π H Q} hp r hE q => ?_⟩
    unfold Ev.tg at hp
    split at hp
    · cases ‹false = true›
    · rename_i vs _ _ 
      cases r with
      | tup t rs => exact .inl ⟨_, _, rfl, t.sq, rs.length.symm.trans (puts_len hp), puts_ok' hp hE rs q⟩
    · cases hp
  · cases h
/-- a, b, .. = a tuple or a list -/
theorem ss_names (cx : CE P N n s X W) {is : List Nat} {es : List Expr} {kk : Nat} (h : PE X ex (tEv P cf N X W e)) (hc : noComp ex = true) (ht : tgNames s is es = true) (hw : swappedStores [.Tuple es kk p2] ex X.env = pure none) : PS X (.Assign [.Tuple es kk p2] ex pos) (tSs P cf N X W (.asg (.names is) e)) := by
  refine PS.mono (ps_asg h (pg_both cx ht) (show swapsWith ex (some (.Tuple es kk p2)) pos.line X.env = pure false from noComp_sw hc _ _ _) hw rfl) fun D σ H ⟨π, S, ρ, hS, hE, g⟩ => ?_
  simp only [evalS] at g
  refine ⟨π, S, ρ, hS, hE, g.toF hE fun v S1 π1 H1 x1 q1 g1 x r => ?_⟩
  simp only [evalT] at g1
  split at g1
  · rename_i xs hx
    obtain ⟨lv, h1, h2⟩ := Option.bind_eq_some_iff.mp hx
    split at g1
    · rename_i ρ1 hp
      have fin : ∀ σ2, RE X.K N π1 H1 ρ1 σ2 → D.nx σ2 H1 := fun σ2 k => g1 π1 H1 σ2 Ext.refl q1 k
      cases r with
      | ref ha =>
        simp only [lvOf, Option.map_eq_some_iff] at h1
        obtain ⟨_, _, rfl⟩ := h1
        obtain ⟨ys, k1, k2⟩ := q1.lst h2 ha
        exact .inr ⟨_, ys, rfl, k1, k2.length.symm.trans (puts_len hp), puts_ok hp (hE.ext x1) k2 fin⟩
      | tup t rs =>
        cases h1
        cases h2
        exact .inl ⟨_, _, rfl, t.sq, rs.length.symm.trans (puts_len hp), puts_ok hp (hE.ext x1) rs fin⟩
      | _ => cases h1
    · exact g1.elim
  · exact g1.elim
/-! ### loops -/
def E.lkE : E → Bool
  | .ivals _ => true
  | .iitems _ => true
  | .ikeys _ => true
  | _ => false
theorem R.bind_ok {α β : Type} {r : R α} {k : α → Store → R β} {b : β} {S : Store} (h : r.bind k = .ok b S) : ∃ a S1, r = .ok a S1 ∧ k a S1 = .ok b S := by
  cases r with
  | ok a S1 => exact ⟨a, S1, rfl, h⟩
  | _ => cases h
theorem ofO_ok {α : Type} {o : Option α} {S S1 : Store} {a : α} (h : ofO o S = .ok a S1) : o = some a := by
  cases o <;> cases h
  rfl
theorem lk_none {iv : IV} {S S1 : Store} {ρ : Ev} (hl : e.lkE = false) (h : evalI P cf e ρ S = .ok iv S1) : iv.lk = none := by
  cases e <;> simp only [evalI] at h <;> try (cases h; done)
  case iof l =>
    obtain ⟨v, S2, _, h⟩ := R.bind_ok h
    obtain ⟨xs, _, rfl⟩ := Option.map_eq_some_iff.mp (ofO_ok h)
    rfl
  case ienum l =>
    obtain ⟨v, S2, _, h⟩ := R.bind_ok h
    split at h <;> try (cases h; done)
    obtain ⟨xs, _, rfl⟩ := Option.map_eq_some_iff.mp (ofO_ok h)
    rfl
  case izip a b =>
    obtain ⟨v, S2, _, h⟩ := R.bind_ok h
    obtain ⟨w, S3, _, h⟩ := R.bind_ok h
    split at h <;> cases h
    rfl
  case irng1 a =>
    obtain ⟨v, S2, _, h⟩ := R.bind_ok h
    split at h <;> try (cases h; done)
    split at h <;> cases h
    rfl
  case irng2 a b =>
    obtain ⟨v, S2, _, h⟩ := R.bind_ok h
    obtain ⟨w, S3, _, h⟩ := R.bind_ok h
    split at h <;> try (cases h; done)
    split at h <;> cases h
    rfl
  case irev l =>
    obtain ⟨v, S2, _, h⟩ := R.bind_ok h
    split at h <;> try (cases h; done)
    all_goals
      obtain ⟨xs, _, rfl⟩ := Option.map_eq_some_iff.mp (ofO_ok h)
      rfl
  case ichars a =>
    obtain ⟨v, S2, _, h⟩ := R.bind_ok h
    split at h <;> cases h
    rfl
  case ilk k a =>
    obtain ⟨v, S2, _, h⟩ := R.bind_ok h
    split at h <;> try (cases h; done)
    split at h <;> cases h
    rfl
  all_goals cases hl
/-- what a loop walks stands so -/
structure ItOk (K : PySem.W.Frag) (N : Nms) (π0 : List Addr) (H0 : Hp) (iv : IV) (J : It) : Prop where
  go : ∀ {i : Nat} {π : List Addr} {S : Store} {H : Hp} {v : Val}, Ext π0 H0 π H → RS K N π S H → i < iv.n → iv.get i S = some v → J.go i H ∧ ∀ x H', J.yld i H x H' → Ext π H π H' ∧ RS K N π S H' ∧ RV K N π H' v x
  stop : ∀ {π : List Addr} {S : Store} {H : Hp}, Ext π0 H0 π H → RS K N π S H → iv.fin S = true → J.stop iv.n H
def tI (P : Prog) (cf : Nat → List Val → Store → R Val) (N : Nms) (X : Cx) (W : WX) (e : E) : TI := fun σ H R => ∃ π S ρ, RS X.K N π S H ∧ RE X.K N π H ρ σ ∧ G X.K N π H (evalI P cf e ρ S) (fun iv _ π' H' => ∀ J, ItOk X.K N π' H' iv J → R J H') (BX X.K N W σ)
theorem PI.mono {tg iter : Expr} {w w' : TI} (h : PI X tg iter w) (i : ∀ σ H R, w' σ H R → w σ H R) : PI X tg iter w' := ⟨fun pins s σ H R I q => h.run pins s σ H R I (i σ H R q)⟩
/-- a for loop that locks nothing -/
def tFor0 (P : Prog) (cf : Nat → List Val → Store → R Val) (N : Nms) (X : Cx) (W : WX) (tg : List Nat) (one : Bool) (e : E) (u : MP.S) : TS := fun D σ H => ∃ π S ρ, RS X.K N π S H ∧ RE X.K N π H ρ σ ∧ (∀ iv S1, evalI P cf e ρ S = .ok iv S1 → iv.lk = none) ∧ GF X.K N π H (evalS P cf (.for_ tg one e u) ρ S) W D
theorem ss_for0 (cx : CE P N n s X W) (ho : PassesOwn (model X.prog X.w) X.A X.env X.xe) {te ie : Expr} {tg : List Nat} {one : Bool} (hi : PI X te ie (tI P cf N X W e)) (hg : tgE s tg one te = true) (hb : PSs X sts (tSs P cf N X W u)) (hp : pl ie = true) : PS X (.For te ie sts [] pos) (tFor0 P cf N X W tg one e u) := by
  obtain ⟨g0, hg1, hg2⟩ := pg_tg cx hg
  refine PS.mono (ps_for ho cx.calm hi hg1 hb (fun x => pl_fold hp X.env x)) fun D σ H ⟨π, S, ρ, hS, hE, hn, g⟩ => ?_
  simp only [evalS] at g
  have g' : GF X.K N π H ((evalI P cf e ρ S).toF ρ fun iv S1 => forN iv (Ev.tg tg one) (fun ρ S => evalS P cf u ρ S) iv.n 0 ρ S1) W D := by
    cases hI : evalI P cf e ρ S with
    | ok iv S1 =>
      rw [hI] at g
      have := hn iv S1 hI
      simp only [R.toF, this, F.unlk] at g
      exact g
    | _ => rw [hI] at g; exact g
  refine ⟨π, S, ρ, hS, hE, g'.toF hE fun iv S1 π1 H1 x1 q1 g1 J hJ => ?_⟩
  refine ⟨fun i m σ H => ∃ π S ρ, Ext π1 H1 π H ∧ RS X.K N π S H ∧ RE X.K N π H ρ σ ∧ m = iv.n - i ∧ i ≤ iv.n ∧ GF X.K N π H (forN iv (Ev.tg tg one) (fun ρ S => evalS P cf u ρ S) (iv.n - i) i ρ S) W D, ⟨iv.n - 0, π1, S1, ρ, Ext.refl, q1, hE.ext x1, rfl, Nat.zero_le _, g1⟩, ?_⟩
  rintro i m σ2 H2 ⟨π2, S2, ρ2, x2, q2, hE2, rfl, hi2, g2⟩
  cases hk : iv.n - i with
  | zero =>
    rw [hk] at g2
    simp only [forN] at g2
    split at g2
    · rename_i hf
      have e : i = iv.n := by omega
      subst e
      exact .inl ⟨hJ.stop x2 q2 hf, g2 π2 H2 σ2 Ext.refl q2 hE2⟩
    · exact g2.elim
  | succ k =>
    rw [hk] at g2
    simp only [forN] at g2
    split at g2
    · exact g2.elim
    · rename_i v hv
      obtain ⟨j1, j2⟩ := hJ.go x2 q2 (by omega) hv
      split at g2
      · exact g2.elim
      · rename_i ρ3 ht
        refine .inr ⟨j1, fun σ' H' => ∃ π S ρ, Ext π1 H1 π H' ∧ RS X.K N π S H' ∧ RE X.K N π H' ρ σ' ∧ GF X.K N π H' (forN iv (Ev.tg tg one) (fun ρ S => evalS P cf u ρ S) k (i + 1) ρ S) W D, ?_, ?_⟩
        · rintro σ' H' ⟨π, S, ρ, a1, a2, a3, a4⟩
          have e : iv.n - (i + 1) = k := by omega
          exact ⟨k, by omega, π, S, ρ, a1, a2, a3, e.symm, by omega, by rw [e]; exact a4⟩
        · intro x H' hy
          obtain ⟨y1, y2, y3⟩ := j2 x H' hy
          refine hg2 ht y3 (hE2.ext y1) fun σ3 hE3 _ => ⟨π2, S2, ρ3, y2, hE3, ?_⟩
          have x3 := x2.trans y1
          cases hbd : evalS P cf u ρ3 S2 with
          | nx ρ4 S4 =>
            rw [hbd] at g2
            exact fun π4 H4 σ4 z1 z2 z3 => ⟨π4, S4, ρ4, x3.trans z1, z2, z3, GF.ext (y1.trans z1) g2⟩
          | ct ρ4 S4 =>
            rw [hbd] at g2
            exact fun π4 H4 σ4 z1 z2 z3 => ⟨π4, S4, ρ4, x3.trans z1, z2, z3, GF.ext (y1.trans z1) g2⟩
          | bk ρ4 S4 =>
            rw [hbd] at g2
            exact fun π4 H4 σ4 z1 z2 z3 => g2 π4 H4 σ4 (y1.trans z1) z2 z3
          | rt v4 S4 =>
            rw [hbd] at g2
            exact fun π4 H4 x4 z1 z2 z3 => g2 π4 H4 x4 (y1.trans z1) z2 z3
          | exc c4 d4 ρ4 S4 =>
            rw [hbd] at g2
            exact fun π4 H4 σ4 z1 z2 z3 => g2 π4 H4 σ4 (y1.trans z1) z2 z3
          | bad =>
            rw [hbd] at g2
            exact g2
theorem ss_for (cx : CE P N n s X W) (ho : PassesOwn (model X.prog X.w) X.A X.env X.xe) {te ie : Expr} {tg : List Nat} {one : Bool} (hi : PI X te ie (tI P cf N X W e)) (hg : tgE s tg one te = true) (hb : PSs X sts (tSs P cf N X W u)) (hp : pl ie = true) (hl : e.lkE = false) : PS X (.For te ie sts [] pos) (tSs P cf N X W (.for_ tg one e u)) :=
  PS.mono (ss_for0 cx ho hi hg hb hp) fun D σ H ⟨π, S, ρ, hS, hE, g⟩ => ⟨π, S, ρ, hS, hE, fun _ _ h => lk_none hl h, g⟩
theorem ss_whl (cx : CE P N n s X W) (ho : PassesOwn (model X.prog X.w) X.A X.env X.xe) (h : PT X ex (tCt P cf N X W e)) (hb : PSs X sts (tSs P cf N X W u)) : PS X (.While ex sts [] pos) (tSs P cf N X W (.whl e u)) := by
  refine PS.mono (ps_while ho h hb) fun D σ H ⟨π, S, ρ, hS, hE, g⟩ => ?_
  simp only [evalS] at g
  refine ⟨fun m σ H => ∃ π S ρ, RS X.K N π S H ∧ RE X.K N π H ρ σ ∧ GF X.K N π H (whlN (fun ρ S => (evalE P cf e ρ S).bind fun v S1 => ofO (truth v) S1) (fun ρ S => evalS P cf u ρ S) m ρ S) W D, ⟨P.fuel, π, S, ρ, hS, hE, g⟩, ?_⟩
  rintro m σ2 H2 ⟨π2, S2, ρ2, q2, hE2, g2⟩
  cases m with
  | zero => exact g2.elim
  | succ m =>
    simp only [whlN] at g2
    have g3 : G X.K N π2 H2 ((evalE P cf e ρ2 S2).bind fun v S1 => ofO (truth v) S1) (fun b S1 π1 H1 => ∀ σ1, RE X.K N π1 H1 ρ2 σ1 → GF X.K N π1 H1 (if b = true then match evalS P cf u ρ2 S1 with
      | .nx ρ2 S2 => whlN (fun ρ S => (evalE P cf e ρ S).bind fun v S1 => ofO (truth v) S1) (fun ρ S => evalS P cf u ρ S) m ρ2 S2
      | .ct ρ2 S2 => whlN (fun ρ S => (evalE P cf e ρ S).bind fun v S1 => ofO (truth v) S1) (fun ρ S => evalS P cf u ρ S) m ρ2 S2
      | .bk ρ2 S2 => .nx ρ2 S2
      | r => r
    else .nx ρ2 S1) W D) (BX X.K N W σ2) := g2.toF hE2 fun b S1 π1 H1 x1 q1 g1 σ1 h1 => g1
    refine ⟨π2, S2, ρ2, q2, hE2, g3.seq fun v S1 π1 H1 x1 q1 g4 => ?_⟩
    obtain ⟨b, hb', g5⟩ := G.ofO g4 q1
    have g5 := g5 σ2 (hE2.ext x1)
    cases v with
    | bl b' =>
      cases hb'
      refine ⟨b, rfl, ?_⟩
      cases b with
      | false =>
        rw [if_neg Bool.false_ne_true] at g5 ⊢
        exact g5 π1 H1 σ2 Ext.refl q1 (hE2.ext x1)
      | true =>
        rw [if_pos rfl] at g5 ⊢
        refine ⟨fun σ' H' => ∃ π S ρ, RS X.K N π S H' ∧ RE X.K N π H' ρ σ' ∧ GF X.K N π H' (whlN (fun ρ S => (evalE P cf e ρ S).bind fun v S1 => ofO (truth v) S1) (fun ρ S => evalS P cf u ρ S) m ρ S) W D, fun σ' H' z => ⟨m, Nat.lt_succ_self _, z⟩, π1, S1, ρ2, q1, hE2.ext x1, ?_⟩
        cases hbd : evalS P cf u ρ2 S1 with
        | nx ρ4 S4 =>
          rw [hbd] at g5
          exact fun π4 H4 σ4 z1 z2 z3 => ⟨π4, S4, ρ4, z2, z3, GF.ext z1 g5⟩
        | ct ρ4 S4 =>
          rw [hbd] at g5
          exact fun π4 H4 σ4 z1 z2 z3 => ⟨π4, S4, ρ4, z2, z3, GF.ext z1 g5⟩
        | bk ρ4 S4 =>
          rw [hbd] at g5
          exact fun π4 H4 σ4 z1 z2 z3 => g5 π4 H4 σ4 z1 z2 z3
        | rt v4 S4 =>
          rw [hbd] at g5
          exact fun π4 H4 x4 z1 z2 z3 => g5 π4 H4 x4 z1 z2 z3
        | exc c4 d4 ρ4 S4 =>
          rw [hbd] at g5
          exact fun π4 H4 σ4 z1 z2 z3 => g5 π4 H4 σ4 z1 z2 z3
        | bad =>
          rw [hbd] at g5
          exact g5
    | _ => cases hb'
end
end MP
/-! What loops walk. -/
namespace MP
open PySem L2
section
variable {K : PySem.W.Frag} {N : Nms} {π π0 : List Addr} {H H0 : Hp} {S S0 : Store} {lv lw : LV} {a b : Addr} {xs ys : List Val}
theorem LV.fin_now (h : lv.now S0 = some xs) (f : lv.fin xs.length S = true) : ∃ zs, lv.now S = some zs ∧ zs.length ≤ xs.length := by
  cases lv with
  | tmp zs => cases h; exact ⟨_, rfl, Nat.le_refl _⟩
  | tup zs => cases h; exact ⟨_, rfl, Nat.le_refl _⟩
  | trk l =>
    simp only [LV.fin] at f
    split at f
    · rename_i zs hz
      exact ⟨zs, hz, by simpa using f⟩
    · cases f
theorem LV.get_now {i : Nat} {v : Val} (h : lv.get i S = some v) : ∃ zs, lv.now S = some zs ∧ zs[i]? = some v := Option.bind_eq_some_iff.mp h
/-- the list's or the tuple's items stand so at a later time -/
theorem RL.later (x : Ext π0 H0 π H) (hS : RS K N π S H) (r : RL K N π0 H0 lv (.ref a)) (h : lv.now S = some xs) : ∃ zs, RVs K N π H xs zs ∧ (lv.isT = false → SqL K H a zs) ∧ (lv.isT = true → SqT K H a zs) := by
  obtain ⟨a', zs, e, k1, k2⟩ := (r.ext x).now hS h
  cases e
  refine ⟨zs, k1, fun e => ?_, fun e => ?_⟩
  · rcases k2 with k2 | k2
    · exact k2.1
    · rw [k2.2] at e; cases e
  · rcases k2 with k2 | k2
    · cases lv with
      | tup ws => exact absurd rfl (k2.2 ws)
      | _ => cases e
    · exact k2.1.sq
theorem ok_l (r : RL K N π0 H0 lv (.ref a)) (h : lv.now S0 = some xs) (hn : lv.isT = false) : ItOk K N π0 H0 ⟨xs.length, lv.get, lv.fin xs.length, none⟩ (Itl K a) where
  go := fun {i π S H v} x hS _ hv => by
    obtain ⟨zs, z1, z2⟩ := LV.get_now hv
    obtain ⟨ws, k1, k2, _⟩ := r.later x hS z1
    obtain ⟨y, y1, y2⟩ := k1.get z2
    refine ⟨⟨ws, y, k2 hn, y1⟩, fun x' H' hy => ?_⟩
    obtain ⟨rfl, hy⟩ := hy
    have := hy ws (k2 hn)
    rw [y1] at this
    cases this
    exact ⟨Ext.refl, hS, y2⟩
  stop := fun {π S H} x hS hf => by
    obtain ⟨zs, z1, z2⟩ := LV.fin_now h hf
    obtain ⟨ws, k1, k2, _⟩ := r.later x hS z1
    exact ⟨ws, k2 hn, by rw [← k1.length]; exact z2⟩
theorem ok_t (r : RL K N π0 H0 lv (.ref a)) (h : lv.now S0 = some xs) (hn : lv.isT = true) : ItOk K N π0 H0 ⟨xs.length, lv.get, lv.fin xs.length, none⟩ (Itt K a) where
  go := fun {i π S H v} x hS _ hv => by
    obtain ⟨zs, z1, z2⟩ := LV.get_now hv
    obtain ⟨ws, k1, _, k2⟩ := r.later x hS z1
    obtain ⟨y, y1, y2⟩ := k1.get z2
    refine ⟨⟨ws, y, k2 hn, y1⟩, fun x' H' hy => ?_⟩
    obtain ⟨rfl, hy⟩ := hy
    have := hy ws (k2 hn)
    rw [y1] at this
    cases this
    exact ⟨Ext.refl, hS, y2⟩
  stop := fun {π S H} x hS hf => by
    obtain ⟨zs, z1, z2⟩ := LV.fin_now h hf
    obtain ⟨ws, k1, _, k2⟩ := r.later x hS z1
    exact ⟨ws, k2 hn, by rw [← k1.length]; exact z2⟩
theorem ok_e (r : RL K N π0 H0 lv (.ref a)) (h : lv.now S0 = some xs) (hn : lv.isT = false) : ItOk K N π0 H0 ⟨xs.length, fun i S => (lv.get i S).map fun x => .tup [.int i, x], lv.fin xs.length, none⟩ (Ite K a) where
  go := fun {i π S H v} x hS _ hv => by
    obtain ⟨v', hv', rfl⟩ := Option.map_eq_some_iff.mp hv
    obtain ⟨zs, z1, z2⟩ := LV.get_now hv'
    obtain ⟨ws, k1, k2, _⟩ := r.later x hS z1
    obtain ⟨y, y1, y2⟩ := k1.get z2
    refine ⟨⟨ws, y, k2 hn, y1⟩, fun x' H' hy => ?_⟩
    obtain ⟨T, y', rfl, hT, rfl, hy⟩ := hy
    have := hy ws (k2 hn)
    rw [y1] at this
    cases this
    obtain ⟨u1, u2⟩ := hS.aside (u := .tup [.int i, y]) hT
    exact ⟨u1, u2, .tup (.inl upd_same) (.cons (.int _) (.cons (y2.ext u1) .nil))⟩
  stop := fun {π S H} x hS hf => by
    obtain ⟨zs, z1, z2⟩ := LV.fin_now h hf
    obtain ⟨ws, k1, k2, _⟩ := r.later x hS z1
    exact ⟨ws, k2 hn, by rw [← k1.length]; exact z2⟩
theorem ok_z0 (r : RL K N π0 H0 lv (.ref a)) (r' : RL K N π0 H0 lw (.ref b)) (h : lv.now S0 = some xs) (h' : lw.now S0 = some ys) {J : It} {Sq Sq' : Hp → Addr → List V → Prop}
    (k : ∀ {π S H zs}, Ext π0 H0 π H → RS K N π S H → lv.now S = some zs → ∃ us, RVs K N π H zs us ∧ Sq H a us) (k' : ∀ {π S H zs}, Ext π0 H0 π H → RS K N π S H → lw.now S = some zs → ∃ us, RVs K N π H zs us ∧ Sq' H b us)
    (hg : ∀ i H, (∃ (xs ys : List V) (x y : V), Sq H a xs ∧ Sq' H b ys ∧ xs[i]? = some x ∧ ys[i]? = some y) → J.go i H)
    (hy : ∀ i H v H', J.yld i H v H' → ∃ T x y, v = .ref T ∧ H T = none ∧ H' = upd H T (.tup [x, y]) ∧ (∀ xs, Sq H a xs → xs[i]? = some x) ∧ ∀ ys, Sq' H b ys → ys[i]? = some y)
    (hs : ∀ i H, (∃ xs ys : List V, Sq H a xs ∧ Sq' H b ys ∧ (xs.length ≤ i ∨ ys.length ≤ i)) → J.stop i H) :
    ItOk K N π0 H0 ⟨min xs.length ys.length, fun i S => (lv.get i S).bind fun x => (lw.get i S).map fun y => .tup [x, y], fun S => (if xs.length ≤ ys.length then lv.fin xs.length S else lw.fin ys.length S) && (lv.now S).isSome && (lw.now S).isSome, none⟩ J where
  go := fun {i π S H v} x hS _ hv => by
    obtain ⟨v1, hv1, hv⟩ := Option.bind_eq_some_iff.mp hv
    obtain ⟨v2, hv2, rfl⟩ := Option.map_eq_some_iff.mp hv
    obtain ⟨zs, z1, z2⟩ := LV.get_now hv1
    obtain ⟨zs', z1', z2'⟩ := LV.get_now hv2
    obtain ⟨us, k1, k2⟩ := k x hS z1
    obtain ⟨us', k1', k2'⟩ := k' x hS z1'
    obtain ⟨y, y1, y2⟩ := k1.get z2
    obtain ⟨y', y1', y2'⟩ := k1'.get z2'
    refine ⟨hg i H ⟨us, us', y, y', k2, k2', y1, y1'⟩, fun x' H' hh => ?_⟩
    obtain ⟨T, w, w', rfl, hT, rfl, h1, h2⟩ := hy i H x' H' hh
    have e1 := h1 us k2
    have e2 := h2 us' k2'
    rw [y1] at e1; cases e1
    rw [y1'] at e2; cases e2
    obtain ⟨u1, u2⟩ := hS.aside (u := .tup [y, y']) hT
    exact ⟨u1, u2, .tup (.inl upd_same) (.cons (y2.ext u1) (.cons (y2'.ext u1) .nil))⟩
  stop := fun {π S H} x hS hf => by
    simp only [Bool.and_eq_true] at hf
    obtain ⟨⟨hf, n1⟩, n2⟩ := hf
    obtain ⟨zs, e1⟩ := Option.isSome_iff_exists.mp n1
    obtain ⟨zs', e2⟩ := Option.isSome_iff_exists.mp n2
    obtain ⟨us, k1, k2⟩ := k x hS e1
    obtain ⟨us', k1', k2'⟩ := k' x hS e2
    refine hs _ _ ⟨us, us', k2, k2', ?_⟩
    show us.length ≤ min xs.length ys.length ∨ us'.length ≤ min xs.length ys.length
    split at hf
    · rename_i hle
      obtain ⟨ws, w1, w2⟩ := LV.fin_now h hf
      rw [e1] at w1; cases w1
      exact .inl (by rw [← k1.length]; omega)
    · rename_i hle
      obtain ⟨ws, w1, w2⟩ := LV.fin_now h' hf
      rw [e2] at w1; cases w1
      exact .inr (by rw [← k1'.length]; omega)
theorem ok_r (i : Int) (m : Nat) : ItOk K N π0 H0 ⟨m, fun k _ => some (.int (i + k)), fun _ => true, none⟩ (Itr i m) where
  go := fun {i' π S H v} x hS hi hv => by
    cases hv
    refine ⟨hi, fun x' H' hy => ?_⟩
    obtain ⟨rfl, rfl⟩ := hy
    exact ⟨Ext.refl, hS, .int _⟩
  stop := fun {π S H} x hS hf => Nat.le_refl _
theorem ok_v (r : RL K N π0 H0 lv (.ref a)) (hn : lv.isT = false) (m : Nat) : ItOk K N π0 H0 ⟨m, fun i S => lv.get (m - 1 - i) S, fun _ => true, none⟩ (Itv K a m) where
  go := fun {i π S H v} x hS hi hv => by
    obtain ⟨zs, z1, z2⟩ := LV.get_now hv
    obtain ⟨ws, k1, k2, _⟩ := r.later x hS z1
    obtain ⟨y, y1, y2⟩ := k1.get z2
    refine ⟨⟨hi, ws, y, k2 hn, y1⟩, fun x' H' hy => ?_⟩
    obtain ⟨rfl, hy⟩ := hy
    have := hy ws (k2 hn)
    rw [y1] at this
    cases this
    exact ⟨Ext.refl, hS, y2⟩
  stop := fun {π S H} x hS hf => Nat.le_refl _
theorem ok_c (x : Str) : ItOk K N π0 H0 ⟨x.cps.size, fun i _ => (x.cps[i]?).map fun c => .str ⟨#[c]⟩, fun _ => true, none⟩ (Its x) where
  go := fun {i π S H v} x' hS hi hv => by
    obtain ⟨c, h1, rfl⟩ := Option.map_eq_some_iff.mp hv
    refine ⟨hi, fun y H' hy => ?_⟩
    obtain ⟨rfl, c', h2, rfl⟩ := hy
    rw [h1] at h2
    cases h2
    exact ⟨Ext.refl, hS, .str _⟩
  stop := fun {π S H} x hS hf => Nat.le_refl _
end
section
variable {P : Prog} {cf : Nat → List Val → Store → R Val} {N : Nms} {n : Nat} {s : Sc} {X : Cx} {W : WX} {pos pos' p2 p3 : Pos} {e1 e2 e3 ex o te : Expr} {a b c e eo : E} {es elts : List Expr} {f k kk : Nat}
/-- a list or a tuple, walked -/
theorem pi_seq2 {tl : TE} (hl : PE X ex tl) : PI X te ex (fun σ H R => tl σ H fun x H1 => (∃ a, x = .ref a ∧ (∃ xs, SqL X.K H1 a xs) ∧ R (Itl X.K a) H1) ∨ ∃ a, x = .ref a ∧ (∃ xs, SqT X.K H1 a xs) ∧ R (Itt X.K a) H1) := by
  refine ⟨fun pins s σ H R I h => thn (hl.run pins s σ H _ I h) fun v s1 ⟨x, H1, I1, r1, q1⟩ => ?_⟩
  have fin : ∀ {c : Addr}, s1.heap.objs.size = c → FpOk X pins H1 c := fun {c} e => e ▸ I1.fpOk (Nat.le_refl _) (I1.hok.fresh (Nat.le_refl _))
  rcases q1 with ⟨a, rfl, ⟨xs, hq⟩, q⟩ | ⟨a, rfl, ⟨xs, hq⟩, q⟩
  · cases r1
    obtain ⟨its, rv, p, hz⟩ := I1.list hq
    exact wpAny_pyIter_list p.isList ⟨_, [s1.heap.objs.size], _, _, H1, rfl, I1.kept (t' := s1.toks) fun b o e => Heap.get?_push_of_some _ e, turn_list a _, ⟨_, Heap.get?_push_size _ rfl, rfl, rfl⟩, fun b hb => fin (by simpa using hb : b = _).symm, q⟩
  · cases r1
    obtain ⟨its, rv, p, hz⟩ := I1.tuple hq
    exact wpAny_pyIter_tuple (show s1.heap.IsTuple a its.toArray from p) ⟨_, [s1.heap.objs.size], _, _, H1, rfl, I1.kept (t' := s1.toks) fun b o e => Heap.get?_push_of_some _ e, turn_tuple a _, ⟨_, Heap.get?_push_size _ rfl, rfl, rfl⟩, fun b hb => fin (by simpa using hb : b = _).symm, q⟩
theorem RL.ref {K : PySem.W.Frag} {π : List Addr} {H : Hp} {x : V} : ∀ {lv : LV}, RL K N π H lv x → ∃ a, x = .ref a
  | .tmp _, ⟨a, _, e, _⟩ => ⟨a, e⟩
  | .trk _, ⟨a, e, _⟩ => ⟨a, e⟩
  | .tup _, ⟨a, _, e, _⟩ => ⟨a, e⟩
theorem i_of (h : PE X ex (tL P cf N X W e)) : PI X te ex (tI P cf N X W (.iof e)) := by
  refine PI.mono (pi_seq2 h) fun σ H R ⟨π, S, ρ, hS, hE, g⟩ => ⟨π, S, ρ, hS, hE, ?_⟩
  simp only [evalI] at g
  refine g.seq fun v S1 π1 H1 x1 q1 g1 x rx nx => ?_
  obtain ⟨iv, e, q⟩ := G.ofO g1 q1
  obtain ⟨xs, hx, rfl⟩ := Option.map_eq_some_iff.mp e
  obtain ⟨a, rfl⟩ := rx.ref
  obtain ⟨ws, k1, k2, k3⟩ := rx.later Ext.refl q1 hx
  cases ht : v.isT with
  | false => exact .inl ⟨a, rfl, ⟨ws, k2 ht⟩, q _ (ok_l rx hx ht)⟩
  | true => exact .inr ⟨a, rfl, ⟨ws, k3 ht⟩, q _ (ok_t rx hx ht)⟩
theorem one_star (hp : pl e1 = true) (env : Env) : starEach [e1] env = [(false, eval e1 env)] := pl_star hp [] env
theorem row1 {t : TE} (h : PE X e1 t) (hp : pl e1 = true) : PA X [e1] (tCons t tNil) := pa_cons h pa_nil (pl_star hp [] X.env)
theorem i_enum {tpos : Pos} (cx : CE P N n s X W) (h : PE X ex (tL P cf N X W e)) (hp : pl ex = true) (hg : glB s.sc "enumerate" = true) (hf : N.frees.contains "enumerate" = true) : PI X (.Tuple elts kk tpos) (.Call (.Name "enumerate" p2) [ex] [] pos) (tI P cf N X W (.ienum e)) := by
  refine PI.mono (pi_enum (gl_of cx.hsc hg) (cx.md.free _ hf) (row1 h hp) (one_star hp X.env)) fun σ H R ⟨π, S, ρ, hS, hE, g⟩ => ⟨π, S, ρ, hS, hE, ?_⟩
  simp only [evalI] at g
  refine g.seq fun v S1 π1 H1 x1 q1 g1 x rx nx => ?_
  split at g1
  · exact g1.elim
  · rename_i ht
    obtain ⟨iv, e, q⟩ := G.ofO g1 q1
    obtain ⟨xs, hx, rfl⟩ := Option.map_eq_some_iff.mp e
    obtain ⟨a, rfl⟩ := rx.ref
    obtain ⟨ws, k1, k2, k3⟩ := rx.later Ext.refl q1 hx
    have ht : v.isT = false := by simpa using ht
    exact ⟨a, ws, rfl, k2 ht, q _ (ok_e rx hx ht)⟩
theorem p62 {i : Int} (h : -4611686018427387904 ≤ i ∧ i < 4611686018427387904) : -(2 ^ 62) ≤ i ∧ i < 2 ^ 62 := by
  have e2 : (2 : Int) ^ 62 = 4611686018427387904 := by decide +kernel
  rw [e2]
  exact h
theorem i_rng1 (cx : CE P N n s X W) (h : PE X e1 (tEv P cf N X W a)) (hp : pl e1 = true) (hg : glB s.sc "range" = true) (hf : N.frees.contains "range" = true) : PI X te (.Call (.Name "range" p2) [e1] [] pos) (tI P cf N X W (.irng1 a)) := by
  refine PI.mono (pi_range1 (gl_of cx.hsc hg) (cx.md.free _ hf) (row1 h hp) (one_star hp X.env)) fun σ H R ⟨π, S, ρ, hS, hE, g⟩ => ⟨π, S, ρ, hS, hE, ?_⟩
  simp only [evalI] at g
  refine g.seq fun v S1 π1 H1 x1 q1 g1 x rx => ?_
  cases rx with
  | int j =>
    simp only at g1
    split at g1
    · rename_i hl
      have hl := p62 hl
      have q := G.ok g1 q1
      refine ⟨j, rfl, hl.1, hl.2, q _ ?_⟩
      have := ok_r (K := X.K) (N := N) (π0 := π1) (H0 := H1) 0 j.toNat
      simpa using this
    · exact g1.elim
  | _ => exact g1.elim
theorem i_rng2 (cx : CE P N n s X W) (h : PE X e1 (tEv P cf N X W a)) (h' : PE X e2 (tEv P cf N X W b)) (hp : pl e1 = true) (hp' : pl e2 = true) (hg : glB s.sc "range" = true) (hf : N.frees.contains "range" = true) : PI X te (.Call (.Name "range" p2) [e1, e2] [] pos) (tI P cf N X W (.irng2 a b)) := by
  refine PI.mono (pi_range2 (gl_of cx.hsc hg) (cx.md.free _ hf) (two_row h h' hp hp') (by rw [pl_star hp, one_star hp']) (one_star hp' X.env)) fun σ H R ⟨π, S, ρ, hS, hE, g⟩ => ⟨π, S, ρ, hS, hE, ?_⟩
  simp only [evalI] at g
  refine g.seq fun v S1 π1 H1 x1 q1 g1 x rx => ⟨π1, S1, ρ, q1, hE.ext x1, ?_⟩
  refine g1.seq fun w S2 π2 H2 x2 q2 g2 y ry => ?_
  cases rx with
  | int i =>
    cases ry with
    | int j =>
      simp only at g2
      split at g2
      · rename_i hl
        have q := G.ok g2 q2
        exact ⟨i, j, rfl, ⟨(p62 hl.1).1, (p62 hl.1).2, (p62 hl.2).1, (p62 hl.2).2⟩, q _ (ok_r i _)⟩
      · exact g2.elim
    | _ => exact g2.elim
  | _ => cases w <;> exact g2.elim
theorem i_rev (cx : CE P N n s X W) (h : PE X ex (tL P cf N X W e)) (hp : pl ex = true) (hg : glB s.sc "reversed" = true) (hf : N.frees.contains "reversed" = true) : PI X te (.Call (.Name "reversed" p2) [ex] [] pos) (tI P cf N X W (.irev e)) := by
  refine PI.mono (pi_reversed (gl_of cx.hsc hg) (cx.md.free _ hf) (row1 h hp) (one_star hp X.env)) fun σ H R ⟨π, S, ρ, hS, hE, g⟩ => ⟨π, S, ρ, hS, hE, ?_⟩
  simp only [evalI] at g
  refine g.seq fun v S1 π1 H1 x1 q1 g1 x rx nx => ?_
  have go : v.isT = false → G X.K N π1 H1 (ofO ((v.now S1).map fun xs => (⟨xs.length, fun i S => v.get (xs.length - 1 - i) S, fun _ => true, none⟩ : IV)) S1) (fun iv _ π' H' => ∀ J, ItOk X.K N π' H' iv J → R J H') (BX X.K N W σ) → ∃ (a : Addr) (xs : List V), [x] = [.ref a] ∧ SqL X.K H1 a xs ∧ R (Itv X.K a xs.length) H1 := fun ht g1 => by
    obtain ⟨iv, e, q⟩ := G.ofO g1 q1
    obtain ⟨xs, hx, rfl⟩ := Option.map_eq_some_iff.mp e
    obtain ⟨a, rfl⟩ := rx.ref
    obtain ⟨ws, k1, k2, k3⟩ := rx.later Ext.refl q1 hx
    refine ⟨a, ws, rfl, k2 ht, q _ ?_⟩
    rw [← k1.length]
    exact ok_v rx ht _
  cases v with
  | tup _ => exact g1.elim
  | tmp _ => exact go rfl g1
  | trk _ => exact go rfl g1
theorem i_chars (h : PE X ex (tEv P cf N X W e)) : PI X te ex (tI P cf N X W (.ichars e)) := by
  refine PI.mono (pi_str h) fun σ H R ⟨π, S, ρ, hS, hE, g⟩ => ⟨π, S, ρ, hS, hE, ?_⟩
  simp only [evalI] at g
  refine g.seq fun v S1 π1 H1 x1 q1 g1 x rx => ?_
  cases rx with
  | str z => exact ⟨z, rfl, G.ok g1 q1 _ (ok_c z)⟩
  | _ => exact g1.elim
end
end MP
/-! a, b = x, y; attributes; more stores. -/
namespace MP
open PySem L2 PySem.Spec PyProof.Rows
/-- which names a, b, .. = x, y, .. stores from the right -/
def swN (s : Sc) (ts vs : List Expr) : Option (List Str) :=
  if (!(ts.length == 2 || ts.length == 3) || vs.length != ts.length || s.sc.kind != .function) = true then none else
  if (vs.any fun | .Starred .. => true | _ => false) = true then none else
  let line := (ts.head?.map (·.pos.line)).getD 0
  let names := ts.filterMap fun
    | .Name id pos => if s.sc.names.lookup id == some .local && pos.line == line then some id else none
    | _ => none
  if (names.length != ts.length || names.eraseDups.length != names.length) = true then none else
  if vs.all (foldedForSure 8) = true then none else
  if vs.all (constantsAlone 8) = true then none else some names
theorem sw_ok {s : Sc} {ts vs : List Expr} {ns : List Str} {env : Env} {kt k2 : Nat} {pt p2 : Pos} (h : swN s ts vs = some ns) (hs : env.scope = s.sc) : swappedStores [.Tuple ts kt pt] (.Tuple vs k2 p2) env = pure (some ns) := by
  unfold swN at h
  split at h
  · cases h
  · rename_i h1
    split at h
    · cases h
    · rename_i h2
      simp only at h
      split at h
      · cases h
      · rename_i h3
        split at h
        · cases h
        · rename_i h4
          split at h
          · cases h
          · rename_i h5
            have hk : s.sc.kind = .function := by
              simp only [Bool.or_eq_true, not_or] at h1
              have := h1.2
              simpa using this
            have hb : env.blockKind = s.sc.kind := by
              unfold Env.blockKind
              rw [hs, hk]
              rfl
            unfold swappedStores
            simp only [hb, Env.kindOf, hs]
            rw [if_neg h1]
            refine (if_neg h2).trans ((if_neg h3).trans ((if_neg h4).trans ((if_neg h5).trans ?_)))
            exact congrArg (fun z => (pure z : Sem (Option (List Str)))) h
section
variable {P : Prog} {cf : Nat → List Val → Store → R Val} {N : Nms} {n : Nat} {s : Sc} {X : Cx} {W : WX} {pos pos' p2 p3 : Pos} {e1 e2 e3 ex o : Expr} {a b c e eo : E} {es ts : List Expr} {f k : Nat}
def sets : List Nat → List V → L2.St → L2.St
  | i :: is, x :: xs, σ => sets is xs (σ.set i (some x))
  | _, _, σ => σ
/-- stores by names, one behind another -/
theorem store_all {pins : List (Addr × Obj)} {H : Hp} {Q : L2.St → Hp → Prop} : ∀ {ri : List Nat} {rn : List Str} {xs : List V} {us : List Value} {σ : L2.St} {s0 : Shared}, X.N.Nodup → Paired (fun i x => X.N[i]? = some x ∧ X.env.scope.names.lookup x = some .local) ri rn → rn.length = xs.length → Vals xs us → Inv X pins σ H s0 → Q (sets ri xs σ) H →
    wpAny (model X.prog X.w) X.A (assignInOrder (rn.map fun z v => bindName X.env z v) us) (fun _ s' => ∃ σ' H', Inv X pins σ' H' s' ∧ Q σ' H') X.xe s0
  := by
  intro ri rn xs us σ s0 nd p
  induction p generalizing xs us σ s0 with
  | nil =>
    intro hl r I q
    cases r with
    | nil => exact assignInOrder_nil ⟨σ, H, I, q⟩
    | cons _ _ => cases hl
  | @cons i x ri rn h p ih =>
    intro hl r I q
    cases r with
    | nil => cases hl
    | cons rv rr =>
      refine assignInOrder_cons (wpAny_bindName (store_ok I nd h.1 (.inl h.2) rv (fun s2 I2 => ?_) (.inr h.2)))
      exact ih (by simpa using hl) rr I2 q
/-- the display, then the stores from the right -/
def tSwap (ri : List Nat) (ta : TA) : TS := fun D σ H => ta σ H fun vs H1 => vs.length = ri.length ∧ vs.length ≤ 3 ∧ D.nx (sets ri vs.reverse σ) H1
theorem ps_swap {ns : List Str} {ri : List Nat} {ta : TA} {kt k2 : Nat} {pt pt2 : Pos} (hc : X.calm = true) (nd : X.N.Nodup) (hp : Paired (fun i x => X.N[i]? = some x ∧ X.env.scope.names.lookup x = some .local) ri ns.reverse) (ha : PA X es ta)
    (hw : swappedStores [.Tuple ts kt pt] (.Tuple es k2 pt2) X.env = pure (some ns)) : PS X (.Assign [.Tuple ts kt pt] (.Tuple es k2 pt2) pos) (tSwap ri ta) := by
  refine ⟨fun pins s0 σ H D I h => ?_⟩
  rw [exec_Assign_arm]
  refine wpAny_bind (wpAny_standAt ?_)
  rw [show swapsWithSole [.Tuple ts kt pt] (.Tuple es k2 pt2) pos.line X.env = pure false from rfl]
  refine wpAny_bind (wpAny_pure ?_)
  rw [if_neg (by decide)]
  refine wpAny_bind (Tuple_ (thn (ha.run _ pins s0 σ H _ I h) fun us s1 ⟨vs, H1, I1, r1, hl, h3, q1⟩ => ?_))
  have hus : us.length = vs.length := r1.length.symm
  have hrn : ri.length = ns.length := by
    have := Paired.length hp
    simpa using this
  refine wpAny_newObj_type ?_ (by show us.toArray.size ≤ sizeLine; rw [sizeLine_eq]; simp; omega)
  have I2 : Inv X pins σ H1 { s1 with heap := s1.heap.push { cls := .type "tuple", data := .seq us.toArray } } := I1.kept (t' := s1.toks) fun b o e => Heap.get?_push_of_some _ e
  rw [hw]
  refine wpAny_bind (wpAny_pure ?_)
  show wpAny (model X.prog X.w) X.A (do rule "assign.swapped-stores"; let items ← unpackItems (.ref s1.heap.objs.size) ns.length none; assignInOrder (ns.reverse.map fun z => bindName X.env z) items.reverse; pure Flow.next) _ _ _
  have hn : ns.length = us.toArray.size := by simp; omega
  rw [hn]
  refine wpAny_bind (wpAny_rule (wpAny_bind (unpackItems_tuple (items := us.toArray) (I.ok.hd hc) (IsTup.new s1.heap _) fun h' hx' => ?_)))
  have I3 := I2.kept (h' := h') (t' := s1.toks) fun b o e => hx' b o (Nat.ne_of_lt (Heap.lt_size e)) e
  refine wpAny_bind (thn (store_all (Q := fun σ' H' => D.nx σ' H') (xs := vs.reverse) nd hp (by simp; omega) (by simpa using Vals.reverse r1) I3 q1) fun _ s2 ⟨σ', H', I4, q4⟩ => wpAny_pure ⟨σ', H', I4, q4⟩)
/-- the slots and the names of such targets -/
def swP (s : Sc) : List Nat → List Str → Bool
  | [], [] => true
  | i :: is, x :: xs => decide (s.N[i]? = some x) && decide (s.sc.names.lookup x = some .local) && swP s is xs
  | _, _ => false
theorem swP_ok (cx : CE P N n s X W) : ∀ {is : List Nat} {xs : List Str}, swP s is xs = true → Paired (fun i x => X.N[i]? = some x ∧ X.env.scope.names.lookup x = some .local) is xs
  | [], [], _ => .nil
  | i :: is, x :: xs, h => by
    simp only [swP, Bool.and_eq_true, decide_eq_true_eq] at h
    exact .cons ⟨by rw [cx.hN]; exact h.1.1, by rw [cx.hsc]; exact h.1.2⟩ (swP_ok cx h.2)
  | [], _ :: _, h => by simp [swP] at h
  | _ :: _, [], h => by simp [swP] at h
theorem rvs2 {K : PySem.W.Frag} {π : List Addr} {H : Hp} {vs : List Val} {xs : List V} {i j : Nat} {ρ ρ1 : Ev} {σ : L2.St} (hij : i ≠ j) (h : ρ.puts [i, j] vs = some ρ1) (hE : RE K N π H ρ σ) (r : RVs K N π H vs xs) : RE K N π H ρ1 (sets [j, i] xs.reverse σ) := by
  have hl := puts_len h
  match vs, xs, r, h, hl with
  | [v, w], [x, y], .cons r1 (.cons r2 .nil), h, _ =>
    simp only [Ev.puts, Option.bind_eq_some_iff] at h
    obtain ⟨ρ2, h1, ρ3, h2, h3⟩ := h
    cases h3
    have k1 := Ev.put_ok h1 hE r1
    have k2 := Ev.put_ok h2 k1 r2
    show RE K N π H ρ1 ((σ.set j (some y)).set i (some x))
    rw [List.set_comm _ _ (Ne.symm hij)]
    exact k2
theorem rvs3 {K : PySem.W.Frag} {π : List Addr} {H : Hp} {vs : List Val} {xs : List V} {i j k : Nat} {ρ ρ1 : Ev} {σ : L2.St} (hij : i ≠ j) (hik : i ≠ k) (hjk : j ≠ k) (h : ρ.puts [i, j, k] vs = some ρ1) (hE : RE K N π H ρ σ) (r : RVs K N π H vs xs) : RE K N π H ρ1 (sets [k, j, i] xs.reverse σ) := by
  have hl := puts_len h
  match vs, xs, r, h, hl with
  | [v, w, u], [x, y, z], .cons r1 (.cons r2 (.cons r3 .nil)), h, _ =>
    simp only [Ev.puts, Option.bind_eq_some_iff] at h
    obtain ⟨ρ2, h1, ρ3, h2, ρ4, h3, h4⟩ := h
    cases h4
    have k1 := Ev.put_ok h1 hE r1
    have k2 := Ev.put_ok h2 k1 r2
    have k3 := Ev.put_ok h3 k2 r3
    show RE K N π H ρ1 (((σ.set k (some z)).set j (some y)).set i (some x))
    rw [List.set_comm (some y) (some x) (Ne.symm hij), List.set_comm (some z) (some x) (Ne.symm hik), List.set_comm (some z) (some y) (Ne.symm hjk)]
    exact k3
def swOk (s : Sc) (is : List Nat) (ts vs : List Expr) : Bool := decide is.Nodup && match swN s ts vs with
  | some ns => swP s is.reverse ns.reverse
  | none => false
theorem ss_swap (cx : CE P N n s X W) {is : List Nat} {kt k2 : Nat} {pt pt2 : Pos} (ha : PA X es (tRw P cf N X W e)) (h : swOk s is ts es = true) : PS X (.Assign [.Tuple ts kt pt] (.Tuple es k2 pt2) pos) (tS X.K N W (evalS P cf (.swap is e))) := by
  unfold swOk at h
  simp only [Bool.and_eq_true, decide_eq_true_eq] at h
  obtain ⟨nd, h⟩ := h
  split at h
  · rename_i ns hw
    refine PS.mono (ps_swap cx.calm (by rw [cx.hN]; exact cx.nd) (swP_ok cx h) ha (sw_ok hw cx.hsc)) fun D σ H ⟨π, S, ρ, hS, hE, g⟩ => ⟨π, S, ρ, hS, hE, ?_⟩
    have hlen : is.length = 2 ∨ is.length = 3 := by
      have e1 : is.length = ns.length := by simpa using Paired.length (swP_ok cx h)
      unfold swN at hw
      split at hw
      · cases hw
      · rename_i c1
        split at hw
        · cases hw
        · simp only at hw
          split at hw
          · cases hw
          · rename_i c3
            split at hw
            · cases hw
            · split at hw
              · cases hw
              · simp only [Bool.or_eq_true, not_or, Bool.not_eq_true'] at c1
                have c11 := c1.1.1
                simp only [Bool.or_eq_true, not_or, bne_iff_ne, ne_eq, Classical.not_not] at c3
                have e2 := Option.some.inj hw
                have e3 := c3.1
                rw [e2] at e3
                simp only [Bool.not_eq_false, Bool.or_eq_true, beq_iff_eq] at c11
                omega
    simp only [evalS] at g
    refine g.toF hE fun vs S1 π1 H1 x1 q1 g1 xs rs => ?_
    split at g1
    · rename_i ρ1 hp
      have hl := puts_len hp
      have hl2 := rs.length
      refine ⟨by simp; omega, by omega, ?_⟩
      have fin : ∀ σ2, RE X.K N π1 H1 ρ1 σ2 → D.nx σ2 H1 := fun σ2 k => g1 π1 H1 σ2 Ext.refl q1 k
      refine fin _ ?_
      match is, hlen, nd, hp with
      | [i, j], _, nd, hp =>
        simp at nd
        exact rvs2 nd hp (hE.ext x1) rs
      | [i, j, k], _, nd, hp =>
        simp at nd
        exact rvs3 nd.1.1 nd.1.2 nd.2 hp (hE.ext x1) rs
    · exact g1.elim
  · cases h
end
end MP
/-! Methods of built-in types; lists told of lists; attributes. -/
namespace MP
open PySem L2
theorem few_ok {es : List Expr} {pos : Pos} {env : Env} (h : es.all pl = true) (hl : es.length < 30) : ((backTo pos (starEach es env)).all (fun x => !x.1) && (backToKw pos (keywordEach [] env)).all (fun x => x.1.isSome) && decide (es.length + ([] : List Keyword).length + (if ([] : List Keyword).isEmpty then 0 else 1) < 30)) = true := by
  rw [nostar_all (all_plA h) pos env]
  have e : (backToKw pos (keywordEach [] env)).all (fun x => x.1.isSome) = true := rfl
  rw [e]
  simpa using hl
section
variable {P : Prog} {cf : Nat → List Val → Store → R Val} {N : Nms} {n : Nat} {s : Sc} {X : Cx} {W : WX} {pos pos' p2 p3 apos : Pos} {e1 e2 e3 ex o : Expr} {a b c e eo : E} {es : List Expr} {f k : Nat}
/-- o.m(..), by what it does to values -/
theorem s_bm {m : BM} {nm : Str} {T id : String} {r : V → List V → Hp → VK → Prop} (pa : PlainAttrs T) (slot : Slot T nm id) (hty : typeOf (.builtin id) = pure (.type "method_descriptor")) (hm : MtR X id r)
    (ho : PE X o (tEv P cf N X W eo)) (ha : PA X es (tRw P cf N X W e)) (hn : rowsOk es e) (hp : pl o = true) (hs : es.all pl = true) (hl : es.length < 30) (hln : (apos.endLine == pos.line) = true)
    (ty : ∀ {π : List Addr} {S : Store} {H : Hp} {v : Val} {x : V}, RS X.K N π S H → RV X.K N π H v x → bmPre S m v = true → tyV X.K T x H)
    (run : ∀ {π : List Addr} {S : Store} {H : Hp} {v : Val} {x : V} {vs : List Val} {xs : List V} {Q : VK} {B : Nat → List Val → Store → List Addr → Hp → Prop}, RS X.K N π S H → RV X.K N π H v x → RVs X.K N π H vs xs → G X.K N π H (bmop S m v vs) (fun z _ π' H' => ∀ y, RV X.K N π' H' z y → Q y H') B → r x xs H Q) :
    PE X (.Call (.Attribute o nm apos) es [] pos) (tEv P cf N X W (.bm m eo e)) := by
  cases es with
  | nil =>
    have := hn rfl
    subst this
    refine PE.mono (pe_bm0 pa slot hty hm ho (pl_attr hp _ _ _) hln) fun σ H Q ⟨π, S, ρ, hS, hE, g⟩ => ⟨π, S, ρ, hS, hE, ?_⟩
    simp only [evalE] at g
    refine g.seq fun v S1 π1 H1 x1 q1 g1 x rx => ?_
    split at g1
    · rename_i hb
      simp only [evalEs] at g1
      exact ⟨ty q1 rx hb, run q1 rx .nil g1⟩
    · exact g1.elim
  | cons e0 rr =>
    have hs0 := hs
    simp only [List.all_cons, Bool.and_eq_true] at hs
    refine PE.mono (pe_bm pa slot hty hm ho ha (pl_attr hp _ _ _) (few_ok hs0 hl) hln (pl_star hs.1 rr X.env) (backTo_nostar (all_plA hs.2) pos X.env)) fun σ H Q ⟨π, S, ρ, hS, hE, g⟩ => ⟨π, S, ρ, hS, hE, ?_⟩
    simp only [evalE] at g
    refine g.seq fun v S1 π1 H1 x1 q1 g1 x rx => ?_
    split at g1
    · rename_i hb
      refine ⟨ty q1 rx hb, π1, S1, ρ, q1, hE.ext x1, ?_⟩
      exact G.seq g1 fun vs S2 π2 H2 x2 q2 g2 xs rs => run q2 (rx.ext x2) rs g2
    · exact g1.elim
theorem ty_lst {K : PySem.W.Frag} {π : List Addr} {S : Store} {H : Hp} {v : Val} {x : V} (hS : RS K N π S H) (r : RV K N π H v x) {l : Nat} {xs : List Val} (e : v = .ref l) (h : S[l]? = some (.lst xs)) : tyV K "list" x H := by
  subst e
  cases r with
  | ref ha =>
    obtain ⟨ys, h1, h2⟩ := hS.at_ _ _ _ ha h
    exact .inl ⟨rfl, ys, SqL.of h1⟩
theorem ty_dic {K : PySem.W.Frag} {π : List Addr} {S : Store} {H : Hp} {v : Val} {x : V} (hS : RS K N π S H) (r : RV K N π H v x) {l : Nat} {kvs : List (Key × Val)} (e : v = .ref l) (h : S[l]? = some (.dic false kvs)) : ∃ a ys, x = .ref a ∧ H a = some (.dK ys) ∧ RK K N π H kvs ys ∧ π[l]? = some a := by
  subst e
  cases r with
  | ref ha =>
    obtain ⟨ys, h1, h2⟩ := hS.dic h ha
    exact ⟨_, ys, rfl, h1, h2, ha⟩
theorem s_append (ho : PE X o (tEv P cf N X W eo)) (ha : PA X es (tRw P cf N X W e)) (hn : rowsOk es e) (hp : pl o = true) (hs : es.all pl = true) (hl : es.length < 30) (hln : (apos.endLine == pos.line) = true) : PE X (.Call (.Attribute o "append" apos) es [] pos) (tEv P cf N X W (.bm .append eo e)) := by
  refine s_bm F.plainAttrs_list F.slot_list_append F.type_list_append mt_append ho ha hn hp hs hl hln (fun {π S H v x} hS r hb => ?_) (fun {π S H v x vs xs Q B} hS r rs g => ?_)
  · cases v <;> simp only [bmPre] at hb <;> try cases hb
    split at hb
    · exact ty_lst hS r rfl ‹_›
    · cases hb
  · cases r with
    | @ref l p ha =>
      cases rs with
      | nil => exact g.elim
      | cons r1 rr =>
        cases rr with
        | cons _ _ => exact g.elim
        | nil =>
          simp only [bmop] at g
          split at g
          · rename_i zs hz
            split at g
            · rename_i hl
              obtain ⟨ys, h1, h2⟩ := hS.at_ _ _ _ ha hz
              obtain ⟨y1, y2⟩ := hS.put (o := .lst (zs ++ [_])) (u := .lst (ys ++ [_])) ha ⟨_, h1, fun e => e⟩ fun {H'} x e => ⟨_, e, (h2.append (.cons r1 .nil)).ext x⟩
              exact ⟨p, ys, _, rfl, rfl, h1, Nat.lt_of_lt_of_le (by rw [← h2.length]; exact hl) (LIM_line (Nat.le_refl _)), g _ _ y1 y2 _ .non⟩
            · exact g.elim
          · exact g.elim
    | _ => first | exact g.elim | (cases rs <;> first | exact g.elim | (rename_i rr; cases rr <;> exact g.elim))
theorem s_clear (ho : PE X o (tEv P cf N X W eo)) (ha : PA X es (tRw P cf N X W e)) (hn : rowsOk es e) (hp : pl o = true) (hs : es.all pl = true) (hl : es.length < 30) (hln : (apos.endLine == pos.line) = true) : PE X (.Call (.Attribute o "clear" apos) es [] pos) (tEv P cf N X W (.bm .clear eo e)) := by
  refine s_bm F.plainAttrs_list F.slot_list_clear F.type_list_clear mt_clear ho ha hn hp hs hl hln (fun {π S H v x} hS r hb => ?_) (fun {π S H v x vs xs Q B} hS r rs g => ?_)
  · cases v <;> simp only [bmPre] at hb <;> try cases hb
    split at hb
    · exact ty_lst hS r rfl ‹_›
    · cases hb
  · cases r with
    | @ref l p ha =>
      cases rs with
      | cons _ _ => exact g.elim
      | nil =>
        simp only [bmop] at g
        split at g
        · rename_i zs hz
          obtain ⟨ys, h1, h2⟩ := hS.at_ _ _ _ ha hz
          obtain ⟨y1, y2⟩ := hS.put (o := .lst []) (u := .lst []) ha ⟨_, h1, fun e => e⟩ fun {H'} x e => ⟨_, e, .nil⟩
          exact ⟨p, ys, rfl, rfl, h1, G.ext y1 g _ _ Ext.refl y2 _ .non⟩
        · exact g.elim
    | _ => cases rs <;> exact g.elim
/-! ### texts -/
theorem ty_str {K : PySem.W.Frag} {π : List Addr} {S : Store} {H : Hp} {v : Val} {x : V} {m : BM} (hm : m = .startswith ∨ m = .endswith ∨ m = .zfill ∨ m = .upper ∨ m = .lstrip ∨ m = .partition) (r : RV K N π H v x) (hb : bmPre S m v = true) : tyV K "str" x H := by
  rcases hm with rfl | rfl | rfl | rfl | rfl | rfl <;> cases r <;> simp only [bmPre] at hb <;> first | rfl | cases hb
theorem s_startswith (ho : PE X o (tEv P cf N X W eo)) (ha : PA X es (tRw P cf N X W e)) (hn : rowsOk es e) (hp : pl o = true) (hs : es.all pl = true) (hl : es.length < 30) (hln : (apos.endLine == pos.line) = true) : PE X (.Call (.Attribute o "startswith" apos) es [] pos) (tEv P cf N X W (.bm .startswith eo e)) := by
  refine s_bm F.plainAttrs_str F.slot_str_startswith F.type_str_startswith mt_startswith ho ha hn hp hs hl hln (fun hS r hb => ty_str (.inl rfl) r hb) (fun {π S H v x vs xs Q B} hS r rs g => ?_)
  cases r with
  | str z =>
    cases rs with
    | nil => exact g.elim
    | cons r1 rr =>
      cases rr with
      | cons _ _ => cases r1 <;> exact g.elim
      | nil =>
        cases r1 with
        | str y => exact ⟨_, _, rfl, rfl, G.ok g hS _ (.bl _)⟩
        | _ => exact g.elim
  | _ => first | exact g.elim | (cases rs <;> first | exact g.elim | (rename_i rr; cases rr <;> exact g.elim))
theorem s_endswith (ho : PE X o (tEv P cf N X W eo)) (ha : PA X es (tRw P cf N X W e)) (hn : rowsOk es e) (hp : pl o = true) (hs : es.all pl = true) (hl : es.length < 30) (hln : (apos.endLine == pos.line) = true) : PE X (.Call (.Attribute o "endswith" apos) es [] pos) (tEv P cf N X W (.bm .endswith eo e)) := by
  refine s_bm F.plainAttrs_str F.slot_str_endswith F.type_str_endswith mt_endswith ho ha hn hp hs hl hln (fun hS r hb => ty_str (.inr (.inl rfl)) r hb) (fun {π S H v x vs xs Q B} hS r rs g => ?_)
  cases r with
  | str z =>
    cases rs with
    | nil => exact g.elim
    | cons r1 rr =>
      cases rr with
      | cons _ _ => cases r1 <;> exact g.elim
      | nil =>
        cases r1 with
        | str y => exact ⟨_, _, rfl, rfl, G.ok g hS _ (.bl _)⟩
        | _ => exact g.elim
  | _ => first | exact g.elim | (cases rs <;> first | exact g.elim | (rename_i rr; cases rr <;> exact g.elim))
theorem s_zfill (ho : PE X o (tEv P cf N X W eo)) (ha : PA X es (tRw P cf N X W e)) (hn : rowsOk es e) (hp : pl o = true) (hs : es.all pl = true) (hl : es.length < 30) (hln : (apos.endLine == pos.line) = true) : PE X (.Call (.Attribute o "zfill" apos) es [] pos) (tEv P cf N X W (.bm .zfill eo e)) := by
  refine s_bm F.plainAttrs_str F.slot_str_zfill F.type_str_zfill mt_zfill ho ha hn hp hs hl hln (fun hS r hb => ty_str (.inr (.inr (.inl rfl))) r hb) (fun {π S H v x vs xs Q B} hS r rs g => ?_)
  cases r with
  | str z =>
    cases rs with
    | nil => exact g.elim
    | cons r1 rr =>
      cases rr with
      | cons _ _ => cases r1 <;> exact g.elim
      | nil =>
        cases r1 with
        | int y => 
          simp only [bmop] at g
          split at g
          · exact ⟨_, _, rfl, rfl, ‹_›, G.ok g hS _ (.str _)⟩
          · exact g.elim
        | _ => exact g.elim
  | _ => first | exact g.elim | (cases rs <;> first | exact g.elim | (rename_i rr; cases rr <;> exact g.elim))
end
end MP
/-! What is told of a list or a tuple; lists made of others. -/
namespace MP
open PySem L2
section
variable {K : PySem.W.Frag} {N : Nms} {π : List Addr} {H : Hp} {S : Store} {lv : LV} {x : V} {xs : List Val}
/-- it stands as a list or as a tuple -/
theorem RL.both (hS : RS K N π S H) (r : RL K N π H lv x) (h : lv.now S = some xs) : ∃ a ys, x = .ref a ∧ RVs K N π H xs ys ∧ (SqL K H a ys ∨ SqT K H a ys) := by
  obtain ⟨a, ys, e, r2, q⟩ := r.now hS h
  rcases q with q | q
  · exact ⟨a, ys, e, r2, .inl q.1⟩
  · exact ⟨a, ys, e, r2, .inr q.1.sq⟩
theorem strs_ok : ∀ {vs : List Val} {ys : List V} {zs : List Str}, RVs K N π H vs ys → strsOf vs = some zs → ys = zs.map V.str
  | [], _, zs, .nil, h => by
    cases h
    rfl
  | v :: vs, _, zs, .cons r rs, h => by
    cases v <;> simp only [strsOf] at h <;> try cases h
    rename_i z
    obtain ⟨ws, h1, rfl⟩ := Option.map_eq_some_iff.mp h
    cases r
    rw [strs_ok rs h1]
    rfl
theorem ints_ok : ∀ {vs : List Val} {ys : List V} {zs : List Int}, RVs K N π H vs ys → intsOf vs = some zs → ys = zs.map V.int
  | [], _, zs, .nil, h => by
    cases h
    rfl
  | v :: vs, _, zs, .cons r rs, h => by
    cases v <;> simp only [intsOf] at h <;> try cases h
    rename_i z
    obtain ⟨ws, h1, rfl⟩ := Option.map_eq_some_iff.mp h
    cases r
    rw [ints_ok rs h1]
    rfl
theorem RVs.strs : ∀ {zs : List Str}, RVs K N π H (zs.map Val.str) (zs.map V.str)
  | [] => .nil
  | z :: r => .cons (.str z) RVs.strs
end
theorem insI_perm (i : Int) : ∀ l, (insI i l).Perm (i :: l)
  | [] => .refl _
  | j :: r => by
    unfold insI
    split
    · exact .refl _
    · exact ((insI_perm i r).cons j).trans (.swap _ _ _)
theorem sortI_perm : ∀ l, (sortI l).Perm l
  | [] => .refl _
  | i :: r => (insI_perm i (sortI r)).trans ((sortI_perm r).cons i)
theorem insI_sorted (i : Int) : ∀ {l : List Int}, l.Pairwise (· ≤ ·) → (insI i l).Pairwise (· ≤ ·)
  | [], _ => by simp [insI]
  | j :: r, h => by
    unfold insI
    have h1 := List.pairwise_cons.mp h
    split
    · rename_i hij
      refine List.pairwise_cons.mpr ⟨fun x hx => ?_, h⟩
      rcases List.mem_cons.mp hx with e | e
      · subst e; exact hij
      · have := h1.1 x e
        omega
    · rename_i hij
      refine List.pairwise_cons.mpr ⟨fun x hx => ?_, insI_sorted i h1.2⟩
      have hx2 := (insI_perm i r).subset hx
      rcases List.mem_cons.mp hx2 with e | e
      · subst e; omega
      · exact h1.1 x e
theorem sortI_sorted : ∀ l, (sortI l).Pairwise (· ≤ ·)
  | [] => .nil
  | i :: r => insI_sorted i (sortI_sorted r)
section
variable {P : Prog} {cf : Nat → List Val → Store → R Val} {N : Nms} {n : Nat} {s : Sc} {X : Cx} {W : WX} {pos pos' p2 p3 apos : Pos} {e1 e2 e3 ex o : Expr} {a b c e eo : E} {es : List Expr} {f k : Nat}
theorem s_join (ho : PE X o (tEv P cf N X W a)) (h : PE X e1 (tL P cf N X W b)) (hp : pl o = true) (hp' : pl e1 = true) (hln : (apos.endLine == pos.line) = true) : PE X (.Call (.Attribute o "join" apos) [e1] [] pos) (tEv P cf N X W (.join a b)) := by
  refine PE.mono (pe_join ho h (one_star hp' X.env) (pl_attr hp _ _ _) hln) fun σ H Q ⟨π, S, ρ, hS, hE, g⟩ => ⟨π, S, ρ, hS, hE, ?_⟩
  simp only [evalE] at g
  refine g.seq fun v S1 π1 H1 x1 q1 g1 x rx => ?_
  cases rx with
  | str z =>
    refine ⟨⟨z, rfl⟩, π1, S1, ρ, q1, hE.ext x1, ?_⟩
    refine g1.seq fun w S2 π2 H2 x2 q2 g2 y ry ny => ?_
    split at g2
    · rename_i ys hys
      split at g2
      · rename_i hl
        obtain ⟨xs, h1, h2⟩ := Option.bind_eq_some_iff.mp hys
        obtain ⟨p, us, rfl, r2, sq⟩ := ry.both q2 h1
        have eu := strs_ok r2 h2
        subst eu
        exact ⟨z, p, ys, rfl, rfl, sq, Nat.le_trans hl (by decide), G.ok g2 q2 _ (.str _)⟩
      · exact g2.elim
    · exact g2.elim
  | _ => exact g1.elim
/-- f(l), f told of a list's items -/
theorem s_tupL (cx : CE P N n s X W) (h : PE X e1 (tL P cf N X W a)) (hp : pl e1 = true) (hg : glB s.sc "tuple" = true) (hf : N.frees.contains "tuple" = true) : PE X (.Call (.Name "tuple" p2) [e1] [] pos) (tEv P cf N X W (.tupL a)) := by
  refine PE.mono (s_ty1 cx call_tuple_of PyProof.Rows.boot_tuple (by decide +kernel) (by decide +kernel) h hp hg hf) fun σ H Q ⟨π, S, ρ, hS, hE, g⟩ => ⟨π, S, ρ, hS, hE, ?_⟩
  simp only [evalE] at g
  refine g.seq fun v S1 π1 H1 x1 q1 g1 x rx nx => ?_
  obtain ⟨z, e, q⟩ := G.ofO g1 q1
  obtain ⟨xs, hx, rfl⟩ := Option.map_eq_some_iff.mp e
  obtain ⟨p, ys, rfl, r2, sq⟩ := rx.now q1 hx
  rcases sq with sq | sq
  · refine ⟨p, ys, rfl, .inl ⟨sq.1, fun l hl => ?_⟩⟩
    obtain ⟨y1, y2⟩ := q1.aside (u := .tup ys) hl
    rw [hx] at g1
    exact g1 _ _ y1 y2 _ (.tup (.inl upd_same) (r2.ext y1))
  · exact ⟨p, ys, rfl, .inr ⟨sq.1.sq, q _ (.tup sq.1 r2)⟩⟩
theorem s_lenL (cx : CE P N n s X W) (h : PE X e1 (tL P cf N X W a)) (hp : pl e1 = true) (hg : glB s.sc "len" = true) (hf : N.frees.contains "len" = true) : PE X (.Call (.Name "len" p2) [e1] [] pos) (tEv P cf N X W (.lenL a)) := by
  refine PE.mono (pe_callB call_len (gl_of cx.hsc hg) (cx.md.free _ hf) PySem.boot_len (pa_cons h pa_nil (pl_star hp [] X.env)) (by decide +kernel) (by decide +kernel) (pl_star hp [] X.env) rfl) fun σ H Q ⟨π, S, ρ, hS, hE, g⟩ => ⟨π, S, ρ, hS, hE, ?_⟩
  simp only [evalE] at g
  refine g.seq fun v S1 π1 H1 x1 q1 g1 x rx nx => ?_
  obtain ⟨z, e, q⟩ := G.ofO g1 q1
  obtain ⟨xs, hx, rfl⟩ := Option.map_eq_some_iff.mp e
  obtain ⟨p, ys, rfl, r2, sq⟩ := rx.both q1 hx
  refine ⟨_, ys.length, rfl, ?_, q _ (by rw [r2.length]; exact .int _)⟩
  rcases sq with sq | sq
  · exact .inl ⟨ys, sq, rfl⟩
  · exact .inr ⟨ys, sq, rfl⟩
theorem maxI_mem : ∀ (r : List Int) (i : Int), (r.foldl (fun m x => if x > m then x else m) i) ∈ i :: r ∧ ∀ y ∈ i :: r, y ≤ r.foldl (fun m x => if x > m then x else m) i
  | [], i => ⟨List.mem_cons_self, fun y hy => by simp at hy; simp [hy]⟩
  | j :: r, i => by
    simp only [List.foldl_cons]
    obtain ⟨h1, h2⟩ := maxI_mem r (if j > i then j else i)
    constructor
    · rcases List.mem_cons.mp h1 with e | e
      · rw [e]
        split
        · simp
        · simp
      · exact List.mem_cons_of_mem _ (List.mem_cons_of_mem _ e)
    · intro y hy
      have h3 := h2 _ List.mem_cons_self
      have ki : i ≤ (if j > i then j else i) := by split <;> omega
      have kj : j ≤ (if j > i then j else i) := by split <;> omega
      rcases List.mem_cons.mp hy with e | e
      · subst e
        exact Int.le_trans ki h3
      · rcases List.mem_cons.mp e with e | e
        · subst e
          exact Int.le_trans kj h3
        · exact h2 y (List.mem_cons_of_mem _ e)
theorem s_maxL (cx : CE P N n s X W) (h : PE X e1 (tL P cf N X W a)) (hp : pl e1 = true) (hg : glB s.sc "max" = true) (hf : N.frees.contains "max" = true) : PE X (.Call (.Name "max" p2) [e1] [] pos) (tEv P cf N X W (.maxL a)) := by
  refine PE.mono (pe_callB (cr_max cx.calm) (gl_of cx.hsc hg) (cx.md.free _ hf) PyProof.Rows.boot_max (pa_cons h pa_nil (pl_star hp [] X.env)) (by decide +kernel) (by decide +kernel) (pl_star hp [] X.env) rfl) fun σ H Q ⟨π, S, ρ, hS, hE, g⟩ => ⟨π, S, ρ, hS, hE, ?_⟩
  simp only [evalE] at g
  refine g.seq fun v S1 π1 H1 x1 q1 g1 x rx nx => ?_
  split at g1
  · rename_i i r hi
    split at hi
    · cases hi
    · obtain ⟨xs, h1, h2⟩ := Option.bind_eq_some_iff.mp hi
      obtain ⟨p, ys, rfl, r2, sq⟩ := rx.now q1 h1
      have e := ints_ok r2 h2
      subst e
      rcases sq with sq | sq
      · obtain ⟨m1, m2⟩ := maxI_mem r i
        have q := G.ok g1 q1
        refine ⟨p, i :: r, rfl, sq.1, by simp, fun m hm hle => ?_⟩
        have e2 : m = maxI (i :: r) := by
          have a1 := hle _ m1
          have a2 := m2 _ hm
          show m = r.foldl (fun m x => if x > m then x else m) i
          omega
        rw [e2]
        exact q _ (.int _)
      · rename_i ht
        rw [sq.2] at ht
        exact absurd rfl ht
  · exact g1.elim
/-- a in [..] -/
theorem r_inL {ng : Bool} (ha : PE X e1 (tEv P cf N X W a)) (hb : PE X e2 (tL P cf N X W b)) : ∀ σ H Q, tEv P cf N X W (if ng then .notinL a b else .inL a b) σ H Q → tOp (rIn X.K ng) (tEv P cf N X W a) (tL P cf N X W b) σ H Q := by
  rintro σ H Q ⟨π, S, ρ, hS, hE, g⟩
  have g' : G X.K N π H ((evalE P cf a ρ S).bind fun v S1 => (evalL P cf b ρ S1).bind fun w S2 => ofO ((w.now S2).bind fun xs => (inVs v xs).map fun b => .bl (if ng then !b else b)) S2) (fun v _ π' H' => ∀ x, RV X.K N π' H' v x → Q x H') (BX X.K N W σ) := by
    cases ng
    · have g2 : G X.K N π H (evalE P cf (.inL a b) ρ S) (fun v _ π' H' => ∀ x, RV X.K N π' H' v x → Q x H') (BX X.K N W σ) := g
      simp only [evalE] at g2
      exact g2
    · have g2 : G X.K N π H (evalE P cf (.notinL a b) ρ S) (fun v _ π' H' => ∀ x, RV X.K N π' H' v x → Q x H') (BX X.K N W σ) := g
      simp only [evalE] at g2
      exact g2
  refine ⟨π, S, ρ, hS, hE, g'.seq fun v S1 π1 H1 x1 q1 g1 x rx => ⟨π1, S1, ρ, q1, hE.ext x1, ?_⟩⟩
  refine g1.seq fun w S2 π2 H2 x2 q2 g2 y ry ny => ?_
  obtain ⟨z, e, q⟩ := G.ofO g2 q2
  obtain ⟨xs, h1, h2⟩ := Option.bind_eq_some_iff.mp e
  obtain ⟨bb, h3, rfl⟩ := Option.map_eq_some_iff.mp h2
  obtain ⟨p, ys, rfl, r2, sq⟩ := ry.both q2 h1
  obtain ⟨k1, k2, k3⟩ := inVs_ok (rx.ext x2) r2 h3
  exact ⟨p, ys, rfl, sq, k1, k2, by rw [k3]; exact q _ (.bl _)⟩
theorem s_inL (ha : PE X e1 (tEv P cf N X W a)) (hb : PE X e2 (tL P cf N X W b)) (hp : pl e2 = true) : PE X (.Compare e1 [.In] [e2] pos) (tEv P cf N X W (.inL a b)) := PE.mono (pe_cmpR op_in_seq ha hb (pl_mark hp _)) (r_inL (ng := false) ha hb)
theorem s_notinL (ha : PE X e1 (tEv P cf N X W a)) (hb : PE X e2 (tL P cf N X W b)) (hp : pl e2 = true) : PE X (.Compare e1 [.NotIn] [e2] pos) (tEv P cf N X W (.notinL a b)) := PE.mono (pe_cmpR op_notIn_seq ha hb (pl_mark hp _)) (r_inL (ng := true) ha hb)
theorem st_inL (ha : PE X e1 (tEv P cf N X W a)) (hb : PE X e2 (tL P cf N X W b)) (hp : pl e2 = true) : PT X (.Compare e1 [.In] [e2] pos) (tCt P cf N X W (.inL a b)) := PT.mono (pt_cmpR op_in_seq ha hb (pl_mark hp _)) fun σ H Q h => r_inL (ng := false) ha hb σ H _ (tCt_E h)
theorem st_notinL (ha : PE X e1 (tEv P cf N X W a)) (hb : PE X e2 (tL P cf N X W b)) (hp : pl e2 = true) : PT X (.Compare e1 [.NotIn] [e2] pos) (tCt P cf N X W (.notinL a b)) := PT.mono (pt_cmpR op_notIn_seq ha hb (pl_mark hp _)) fun σ H Q h => r_inL (ng := true) ha hb σ H _ (tCt_E h)
/-- list(l), sorted(l), text.split(..): a new list -/
theorem s_lcopy (cx : CE P N n s X W) (h : PE X e1 (tL P cf N X W a)) (hp : pl e1 = true) (hg : glB s.sc "list" = true) (hf : N.frees.contains "list" = true) : PE X (.Call (.Name "list" p2) [e1] [] pos) (tL P cf N X W (.lcopy a)) := by
  refine PE.mono (s_ty1 cx call_list_of PyProof.Rows.boot_list (by decide +kernel) (by decide +kernel) h hp hg hf) fun σ H Q ⟨π, S, ρ, hS, hE, g⟩ => ⟨π, S, ρ, hS, hE, ?_⟩
  simp only [evalL] at g
  refine g.seq fun v S1 π1 H1 x1 q1 g1 x rx nx => ?_
  obtain ⟨z, e, q⟩ := G.ofO g1 q1
  obtain ⟨xs, hx, rfl⟩ := Option.map_eq_some_iff.mp e
  obtain ⟨p, ys, rfl, r2, sq⟩ := rx.both q1 hx
  refine ⟨p, ys, rfl, sq, fun l hl => ?_⟩
  obtain ⟨y1, y2, y3⟩ := RL.new q1 hl r2
  rw [hx] at g1
  exact g1 _ _ y1 y2 _ y3 fun a e => by cases e; exact x1.back q1 hl
theorem s_lsortI (cx : CE P N n s X W) (h : PE X e1 (tL P cf N X W a)) (hp : pl e1 = true) (hg : glB s.sc "sorted" = true) (hf : N.frees.contains "sorted" = true) : PE X (.Call (.Name "sorted" p2) [e1] [] pos) (tL P cf N X W (.lsortI a)) := by
  refine PE.mono (pe_callB cr_sorted (gl_of cx.hsc hg) (cx.md.free _ hf) PyProof.Rows.boot_sorted (pa_cons h pa_nil (pl_star hp [] X.env)) (by decide +kernel) (by decide +kernel) (pl_star hp [] X.env) rfl) fun σ H Q ⟨π, S, ρ, hS, hE, g⟩ => ⟨π, S, ρ, hS, hE, ?_⟩
  simp only [evalL] at g
  refine g.seq fun v S1 π1 H1 x1 q1 g1 x rx nx => ?_
  split at g1
  · rename_i is hi
    split at hi
    · cases hi
    · rename_i ht
      split at g1
      · rename_i hl
        obtain ⟨xs, h1, h2⟩ := Option.bind_eq_some_iff.mp hi
        obtain ⟨p, ys, rfl, r2, sq⟩ := rx.now q1 h1
        have e := ints_ok r2 h2
        subst e
        rcases sq with sq | sq
        · refine ⟨p, is, rfl, sq.1, hl, fun ns p' hperm hsort hnew => ?_⟩
          have e2 : ns = sortI is := List.Perm.eq_of_pairwise (fun a b _ _ h1 h2 => Int.le_antisymm h1 h2) hsort (sortI_sorted is) (hperm.trans (sortI_perm is).symm)
          subst e2
          obtain ⟨y1, y2, y3⟩ := RL.new (xs := (sortI is).map Val.int) (ys := (sortI is).map V.int) q1 hnew RVs.ints
          exact g1 _ _ y1 y2 _ y3 fun a e => by cases e; exact x1.back q1 hnew
        · rw [sq.2] at ht
          exact absurd rfl ht
      · exact g1.elim
  · exact g1.elim
theorem s_lsplit (ho : PE X o (tEv P cf N X W a)) (hp : pl o = true) (hln : (apos.endLine == pos.line) = true) : PE X (.Call (.Attribute o "split" apos) [] [] pos) (tL P cf N X W (.lsplit a)) := by
  refine PE.mono (pe_words ho (pl_attr hp _ _ _) hln) fun σ H Q ⟨π, S, ρ, hS, hE, g⟩ => ⟨π, S, ρ, hS, hE, ?_⟩
  simp only [evalL] at g
  refine g.seq fun v S1 π1 H1 x1 q1 g1 x rx => ?_
  cases rx with
  | str z =>
    simp only at g1
    split at g1
    · rename_i hl
      refine ⟨⟨z, rfl⟩, z, rfl, rfl, Nat.le_trans (Nat.add_le_add_right hl 2) (by decide +kernel), fun p hp => ?_⟩
      obtain ⟨y1, y2, y3⟩ := RL.new (xs := (Txt.words z).map Val.str) (ys := (Txt.words z).map V.str) q1 hp RVs.strs
      exact g1 _ _ y1 y2 _ y3 fun a e => by cases e; exact x1.back q1 hp
    · exact g1.elim
  | _ => exact g1.elim
theorem s_lsplitc {y : Str} {j : Nat} (ho : PE X o (tEv P cf N X W a)) (hp : pl o = true) (hln : (apos.endLine == pos.line) = true) : PE X (.Call (.Attribute o "split" apos) [.Constant (.str y) j p2] [] pos) (tL P cf N X W (.lsplitc a y)) := by
  refine PE.mono (pe_split ho pe_str rfl (pl_attr hp _ _ _) hln) fun σ H Q ⟨π, S, ρ, hS, hE, g⟩ => ⟨π, S, ρ, hS, hE, ?_⟩
  simp only [evalL] at g
  refine g.seq fun v S1 π1 H1 x1 q1 g1 x rx => ?_
  cases rx with
  | str z =>
    simp only at g1
    split at g1
    · rename_i hl
      refine ⟨⟨z, rfl⟩, z, y, rfl, rfl, by simpa using hl.2, Nat.le_trans (Nat.add_le_add_right hl.1 2) (by decide +kernel), fun p hp => ?_⟩
      obtain ⟨y1, y2, y3⟩ := RL.new (xs := (Txt.split z y).map Val.str) (ys := (Txt.split z y).map V.str) q1 hp RVs.strs
      exact g1 _ _ y1 y2 _ y3 fun a e => by cases e; exact x1.back q1 hp
    · exact g1.elim
  | _ => exact g1.elim
theorem s_extend (ho : PE X o (tEv P cf N X W a)) (h : PE X e1 (tL P cf N X W b)) (hp : pl o = true) (hp' : pl e1 = true) (hln : (apos.endLine == pos.line) = true) : PE X (.Call (.Attribute o "extend" apos) [e1] [] pos) (tEv P cf N X W (.extend a b)) := by
  refine PE.mono (pe_bm F.plainAttrs_list F.slot_list_extend F.type_list_extend mt_extend ho (row1 h hp') (pl_attr hp _ _ _) (few_ok (es := [e1]) (by simp [hp']) (by simp)) hln (pl_star hp' [] X.env) rfl) fun σ H Q ⟨π, S, ρ, hS, hE, g⟩ => ⟨π, S, ρ, hS, hE, ?_⟩
  simp only [evalE] at g
  refine g.seq fun v S1 π1 H1 x1 q1 g1 x rx => ?_
  split at g1
  · rename_i hb
    refine ⟨?_, π1, S1, ρ, q1, hE.ext x1, ?_⟩
    · cases v <;> simp only [bmPre] at hb <;> try cases hb
      split at hb
      · exact ty_lst q1 rx rfl ‹_›
      · cases hb
    · refine G.seq g1 fun w S2 π2 H2 x2 q2 g2 y ry ny => ?_
      have rx := rx.ext x2
      cases rx with
      | @ref l p ha =>
        simp only at g2
        split at g2
        · rename_i zs ws h1 h2
          split at g2
          · rename_i hl
            obtain ⟨us, u1, u2⟩ := q2.at_ _ _ _ ha h1
            obtain ⟨p', vs, rfl, v1, v2⟩ := ry.lst q2 h2
            obtain ⟨y1, y2⟩ := q2.put (o := .lst (zs ++ ws)) (u := .lst (us ++ vs)) ha ⟨_, u1, fun e => e⟩ fun {H'} x e => ⟨_, e, (u2.append v1).ext x⟩
            exact ⟨p, p', us, vs, rfl, rfl, u1, v2, LIM_line (by rw [← u2.length, ← v1.length]; exact hl), g2 _ _ y1 y2 _ .non⟩
          · exact g2.elim
        · exact g2.elim
      | _ => exact g2.elim
  · exact g1.elim
end
end MP
/-! [.. for .. in .. if ..]; attributes; stores to items. -/
namespace MP
open PySem L2
section
variable {K : PySem.W.Frag} {N : Nms} {π : List Addr} {H H' : Hp} {S : Store}
mutual
theorem RV.same (ht : ∀ b u, Fix u → H b = some u → H' b = some u) : ∀ {v : Val} {y : V}, RV K N π H v y → RV K N π H' v y
  | _, _, .non => .non
  | _, _, .bl b => .bl b
  | _, _, .int i => .int i
  | _, _, .str s => .str s
  | _, _, .ref h => .ref h
  | _, _, .tup h r => .tup (show TupAt _ _ _ _ from Or.elim h (fun q => Or.inl (ht _ _ trivial q)) Or.inr) (RVs.same ht r)
  | _, _, .exc0 h0 h => .exc0 h0 (ht _ _ trivial h)
  | _, _, .exc1 h0 h h2 r => .exc1 h0 (ht _ _ trivial h) (ht _ _ trivial h2) (RV.same ht r)
theorem RVs.same (ht : ∀ b u, Fix u → H b = some u → H' b = some u) : ∀ {vs : List Val} {ys : List V}, RVs K N π H vs ys → RVs K N π H' vs ys
  | _, _, .nil => .nil
  | _, _, .cons r t => .cons (RV.same ht r) (RVs.same ht t)
end
theorem ro_same (ht : ∀ b u, Fix u → H b = some u → H' b = some u) {a : Addr} (e : H' a = H a) : ∀ {o : Ob}, RO K N π H a o → RO K N π H' a o
  | .lst _, ⟨ys, h, r⟩ => ⟨ys, e.trans h, r.same ht⟩
  | .fro _, ⟨ys, ⟨o, h⟩, r⟩ => ⟨ys, ⟨o, e.trans h⟩, r.same ht⟩
  | .dic false _, ⟨ys, h, r⟩ => ⟨ys, e.trans h, Paired.mapP r fun _ _ z => ⟨z.1, z.2.same ht⟩⟩
  | .dic true _, ⟨o, ys, h, r⟩ => ⟨o, ys, e.trans h, Paired.mapP r fun _ _ z => ⟨z.1, z.2.same ht⟩⟩
  | .ins _ _, ⟨dx, gs, h, r, q⟩ => ⟨dx, gs, e.trans h, Paired.mapP r fun _ _ z => ⟨z.1, z.2.same ht⟩, q⟩
/-- a passing list is written -/
theorem RS.pass (r : RS K N π S H) {D : Addr} {xs ys : List V} (hd : H D = some (.lst xs)) (hn : D ∉ π) : RS K N π S (upd H D (.lst ys)) ∧ ∀ b zs, Fix zs → H b = some zs → upd H D (.lst ys) b = some zs := by
  have ht : ∀ b zs, Fix zs → H b = some zs → upd H D (.lst ys) b = some zs := fun b zs f h => by
    rw [upd_ne (fun e => by rw [e, hd] at h; cases h; exact f)]
    exact h
  refine ⟨⟨r.len, r.nd, fun l a o h1 h2 => ?_⟩, ht⟩
  have ne : a ≠ D := fun e => hn (e ▸ List.mem_iff_getElem?.mpr ⟨l, h1⟩)
  exact ro_same ht (upd_ne ne) (r.at_ l a o h1 h2)
end
section
variable {P : Prog} {cf : Nat → List Val → Store → R Val} {N : Nms} {n : Nat} {s : Sc} {X : Cx} {W : WX} {pos pos' p2 p3 apos : Pos} {e1 e2 e3 ex o elt ite te : Expr} {a b c e eo : E} {es ifs : List Expr} {f k : Nat}
theorem wipe_idem (σ : L2.St) : ∀ ws : List Nat, wipe (wipe σ ws) ws = wipe σ ws := fun ws => by
  have key : ∀ (vs us : List Nat) (τ : L2.St), (∀ i ∈ vs, i ∈ us) → wipe (wipe τ vs) us = wipe τ us := fun vs us => by
    induction vs with
    | nil => intro τ _; rfl
    | cons i vs ih =>
      intro τ h
      show wipe ((wipe τ vs).set i none) us = wipe τ us
      rw [wipe_set (h i List.mem_cons_self)]
      exact ih τ fun j hj => h j (List.mem_cons_of_mem _ hj)
  exact key ws ws σ fun i h => h
theorem RE.wipes {K : PySem.W.Frag} {π : List Addr} {H : Hp} {ρ : Ev} {σ : L2.St} (r : RE K N π H ρ σ) (is : List Nat) : RE K N π H (ρ.wipe is) (L2.wipe σ is) := r.wipe is
/-- a block's scope -/
def blkSc (s : Sc) (scope : Scope) : Sc := ⟨s.N, relS scope s.sc, true⟩
def W0 : WX := fun _ _ _ _ => False
theorem ce_blk (cx : CE P N n s X W) (s0 : Shared) (H : Hp) (scope : Scope) (C : Addr) (cl : List (Str × Addr)) (fp : List Addr) : CE P N n (blkSc s scope) (X.blk s0 H scope (compEnvC scope cl C X.env) fp) W0 := by
  refine ⟨cx.hN, cx.nd, ?_, fun h => absurd h (by simp [blkSc]), cx.calm, cx.room, ?_, cx.md⟩
  · show relabel scope X.env = relS scope s.sc
    rw [← cx.hsc]
    rfl
  · intro u s' h
    obtain ⟨_, _, _, _, _, _, _, _, _, _, _, _, _, _, _, _, w⟩ := h
    exact w
def compT (P : Prog) (cf : Nat → List Val → Store → R Val) (N : Nms) (X : Cx) (c : E) : TT := fun σ H Q => ∃ π S ρ, RS X.K N π S H ∧ RE X.K N π H ρ σ ∧ G X.K N π H (if c.isNo = true then R.ok true S else (evalE P cf c ρ S).bind fun v S => ofO (truth v) S) (fun b _ _ H' => Q b H') (BX X.K N W0 σ)
/-- the tests of a clause -/
def ifsB (ck : E → Expr → Bool) (c : E) : List Expr → Bool
  | [] => c.isNo
  | [x] => !c.isNo && ck c x
  | _ => false
theorem pts_ok {Y : Cx} {ck : E → Expr → Bool} (h : ifsB ck c ifs = true) (hc : ∀ x, ck c x = true → PT Y x (tCt P cf N Y W0 c)) : PTs Y ifs (compT P cf N Y c) := by
  unfold ifsB at h
  split at h
  · refine ⟨fun pins s σ H Q I ⟨π, S, ρ, hS, hE, g⟩ => pts_nil.run pins s σ H Q I ?_⟩
    rw [if_pos h] at g
    exact G.ok g hS
  · simp only [Bool.and_eq_true, Bool.not_eq_true'] at h
    refine ⟨fun pins s σ H Q I ⟨π, S, ρ, hS, hE, g⟩ => (pts_one (hc _ h.2)).run pins s σ H Q I ⟨π, S, ρ, hS, hE, ?_⟩⟩
    rw [if_neg (by rw [h.1]; exact Bool.false_ne_true)] at g
    refine g.seq fun v S1 π1 H1 x1 q1 g1 => ?_
    obtain ⟨b, hb, q⟩ := G.ofO g1 q1
    cases v <;> simp only [truth] at hb <;> cases hb
    exact ⟨_, rfl, q⟩
  · cases h
/-- as tL, what is walked locks nothing -/
def tL0 (P : Prog) (cf : Nat → List Val → Store → R Val) (N : Nms) (X : Cx) (W : WX) (b e : E) : TE := fun σ H Q => ∃ π S ρ, RS X.K N π S H ∧ RE X.K N π H ρ σ ∧ (∀ iv S1, evalI P cf b ρ S = .ok iv S1 → iv.lk = none) ∧ G X.K N π H (evalL P cf e ρ S) (fun v _ π' H' => ∀ x, RL X.K N π' H' v x → NewL H v x → Q x H') (BX X.K N W σ)
theorem lcomp_core0 (cx : CE P N n s X W) {tg own : List Nat} {one : Bool} {g0 : TG} (ht : ∀ {v : Val} {x : V} {ρ ρ1 : Ev} {σ : L2.St} {π : List Addr} {H : Hp} {Q : L2.St → Hp → Prop}, Ev.tg tg one v ρ = some ρ1 → RV X.K N π H v x → RE X.K N π H ρ σ → (∀ σ2, RE X.K N π H ρ1 σ2 → Same tg σ σ2 → Q σ2 H) → g0 x σ H Q)
    (hsub : ∀ i ∈ tg, i ∈ own) : ∀ σ H Q, tL0 P cf N X W b (.lcomp tg one own b c e) σ H Q → tLc (tI P cf N X W b) g0 (compT P cf N X c) (tE X.K N W0 (evalE P cf e)) own σ H Q := by
  rintro σ H Q ⟨π, S, ρ, hS, hE, hn, g⟩
  simp only [evalL] at g
  have g' : G X.K N π H ((evalI P cf b ρ S).bind fun iv S1 => (compN iv (Ev.tg tg one) (fun ρ S => if c.isNo = true then R.ok true S else (evalE P cf c ρ S).bind fun v S => ofO (truth v) S) (fun ρ S => evalE P cf e ρ S) (ρ.wipe own) iv.n 0 [] S1).bind fun xs S2 => .ok (.tmp xs) S2) (fun v _ π' H' => ∀ x, RL X.K N π' H' v x → NewL H v x → Q x H') (BX X.K N W σ) := by
    cases hI : evalI P cf b ρ S with
    | ok iv S1 =>
      rw [hI] at g
      have := hn iv S1 hI
      simp only [R.bind, this] at g ⊢
      exact g
    | _ => rw [hI] at g; exact g
  refine ⟨π, S, ρ, hS, hE, g'.seq fun iv S1 π1 H1 x1 q1 g1 J hJ D hD => ?_⟩
  obtain ⟨y1, y2, y3⟩ := RL.new (xs := []) (ys := []) q1 hD .nil
  have hDπ : D ∉ π1 := fun m => by
    obtain ⟨u, hu, _⟩ := q1.mem m
    rw [hD] at hu; cases hu
  have hD0 := x1.back q1 hD
  refine ⟨fun i m H2 => ∃ π2 S2 acc ys, Ext π1 H1 π2 H2 ∧ RS X.K N π2 S2 H2 ∧ H2 D = some (.lst ys) ∧ D ∉ π2 ∧ RVs X.K N π2 H2 acc ys ∧ m = iv.n - i ∧ i ≤ iv.n ∧
    G X.K N π1 H1 (compN iv (Ev.tg tg one) (fun ρ S => if c.isNo = true then R.ok true S else (evalE P cf c ρ S).bind fun v S => ofO (truth v) S) (fun ρ S => evalE P cf e ρ S) (ρ.wipe own) (iv.n - i) i acc S2) (fun xs S' π' H' => ∀ zs, H' D = some (.lst zs) → D ∉ π' → RVs X.K N π' H' xs zs → Q (.ref D) H') (BX X.K N W σ),
    ⟨iv.n - 0, π1, S1, [], [], y1, y2, upd_same, hDπ, .nil, rfl, Nat.zero_le _, ?_⟩, ?_⟩
  · refine g1.seq fun xs S' π' H' z1 z2 z3 zs hz hn r => ?_
    exact G.ok z3 z2 _ ⟨D, zs, rfl, hz, hn, r⟩ fun a e => by cases e; exact hD0
  · rintro i m H2 ⟨π2, S2, acc, ys, x2, q2, hd, hdn, rr, rfl, hi2, g2⟩
    have x12 := x2
    cases hk : iv.n - i with
    | zero =>
      rw [hk] at g2
      simp only [compN] at g2
      split at g2
      · rename_i hf
        have e : i = iv.n := by omega
        subst e
        exact .inl ⟨hJ.stop x12 q2 hf, g2 π2 H2 x2 q2 ys hd hdn rr⟩
      · exact g2.elim
    | succ k =>
      rw [hk] at g2
      simp only [compN] at g2
      split at g2
      · exact g2.elim
      · rename_i v hv
        obtain ⟨j1, j2⟩ := hJ.go x12 q2 (by omega) hv
        split at g2
        · exact g2.elim
        · rename_i ρ3 hset
          refine .inr ⟨j1, fun H' => ∃ π2 S2 acc ys, Ext π1 H1 π2 H' ∧ RS X.K N π2 S2 H' ∧ H' D = some (.lst ys) ∧ D ∉ π2 ∧ RVs X.K N π2 H' acc ys ∧
            G X.K N π1 H1 (compN iv (Ev.tg tg one) (fun ρ S => if c.isNo = true then R.ok true S else (evalE P cf c ρ S).bind fun v S => ofO (truth v) S) (fun ρ S => evalE P cf e ρ S) (ρ.wipe own) k (i + 1) acc S2) (fun xs S' π' H' => ∀ zs, H' D = some (.lst zs) → D ∉ π' → RVs X.K N π' H' xs zs → Q (.ref D) H') (BX X.K N W σ), ?_, ?_⟩
          · rintro H' ⟨π3, S3, acc3, ys3, a1, a2, a3, a4, a5, a6⟩
            have e : iv.n - (i + 1) = k := by omega
            exact ⟨k, by omega, π3, S3, acc3, ys3, a1, a2, a3, a4, a5, e.symm, by omega, by rw [e]; exact a6⟩
          · intro x H3 hy
            obtain ⟨w1, w2, w3⟩ := j2 x H3 hy
            have hd3 : H3 D = some (.lst ys) := w1.keep D _ hdn hd
            refine ht hset w3 (((hE.wipes own).ext (x1.trans x12)).ext w1) fun σ3 hE3 hsm => ⟨?_, π2, S2, ρ3, w2, hE3, ?_⟩
            · rw [hsm own hsub, wipe_idem]
            · cases hc : (if c.isNo = true then R.ok true S2 else (evalE P cf c ρ3 S2).bind fun v S => ofO (truth v) S) with
              | bad => rw [hc] at g2; exact g2
              | exc c1 d1 S4 => rw [hc] at g2; exact g2.elim
              | ok t S4 =>
                rw [hc] at g2
                intro π4 H4 z1 z2
                have x4 := x2.trans (w1.trans z1)
                have hd4 : H4 D = some (.lst ys) := z1.keep D _ hdn hd3
                have hn4 : D ∉ π4 := z1.out hdn hd3
                cases t with
                | false =>
                  show (if false = true then _ else _)
                  rw [if_neg Bool.false_ne_true]
                  simp only [if_neg Bool.false_ne_true] at g2
                  exact ⟨π4, S4, acc, ys, x4, z2, hd4, hn4, (rr.ext w1).ext z1, g2⟩
                | true =>
                  show (if true = true then _ else _)
                  rw [if_pos rfl]
                  simp only [if_true] at g2
                  refine ⟨π4, S4, ρ3, z2, hE3.ext z1, ?_⟩
                  cases he : evalE P cf e ρ3 S4 with
                  | bad => rw [he] at g2; exact g2
                  | exc c1 d1 S5 => rw [he] at g2; exact g2.elim
                  | ok y S5 =>
                    rw [he] at g2
                    simp only at g2
                    split at g2
                    · rename_i hlen
                      intro π5 H5 u1 u2 yv ry
                      have hd5 : H5 D = some (.lst ys) := u1.keep D _ hn4 hd4
                      have hn5 : D ∉ π5 := u1.out hn4 hd4
                      have r5 := ((rr.ext w1).ext z1).ext u1
                      refine ⟨ys, hd5, Nat.lt_of_lt_of_le (by rw [← rr.length]; exact hlen) (LIM_line (Nat.le_refl _)), ?_⟩
                      obtain ⟨p1, p2⟩ := u2.pass (ys := ys ++ [yv]) hd5 hn5
                      have x5 := x4.trans u1
                      refine ⟨π5, S5, acc ++ [y], ys ++ [yv], ⟨x5.pre, x5.new, fun b o h1 h2 => ?_, fun b zs f h => p2 b zs f (x5.tup b zs f h)⟩, p1, upd_same, hn5, (r5.same p2).append (.cons (ry.same p2) .nil), ?_⟩
                      · rw [upd_ne (fun e => by rw [e, hD] at h2; cases h2)]
                        exact x5.keep b o h1 h2
                      · exact g2
                    · exact g2.elim
theorem tL0_of (hl : b.lkE = false) : ∀ σ H Q, tL P cf N X W e σ H Q → tL0 P cf N X W b e σ H Q := fun σ H Q ⟨π, S, ρ, hS, hE, g⟩ => ⟨π, S, ρ, hS, hE, fun _ _ h => lk_none hl h, g⟩
def ownP (s : Sc) (own : List Nat) : List (Str × Nat) := own.map fun i => ((s.N[i]?).getD "", i)
theorem ownP_snd (s : Sc) (own : List Nat) : (ownP s own).map (·.2) = own := by
  unfold ownP
  rw [List.map_map]
  exact (List.map_congr_left fun _ _ => rfl).trans (List.map_id own)
theorem comp_parts0 (cx : CE P N n s X W) {tg own : List Nat} {one : Bool} {scope : Scope} {ck : E → Expr → Bool} (hg : tgE (blkSc s scope) tg one te = true) (hs : (tg.all fun i => decide (i ∈ own)) = true) (hb : blkC s.N s.sc scope (ownP s own) = true)
    (hc : ∀ {Y : Cx} {x : Expr}, CE P N n (blkSc s scope) Y W0 → ck c x = true → PT Y x (tCt P cf N Y W0 c)) (hf : ifsB ck c ifs = true) (he : ∀ {Y : Cx}, CE P N n (blkSc s scope) Y W0 → PE Y elt (tEv P cf N Y W0 e)) :
    ∃ g0, (∀ (s0 : Shared) (H : Hp) (C : Addr) (cl : List (Str × Addr)) (fp : List Addr), PG (X.blk s0 H scope (compEnvC scope cl C X.env) fp) te g0) ∧ (∀ (s0 : Shared) (H : Hp) (C : Addr) (cl : List (Str × Addr)) (fp : List Addr), PTs (X.blk s0 H scope (compEnvC scope cl C X.env) fp) ifs (compT P cf N X c)) ∧
      (∀ (s0 : Shared) (H : Hp) (C : Addr) (cl : List (Str × Addr)) (fp : List Addr), PE (X.blk s0 H scope (compEnvC scope cl C X.env) fp) elt (tE X.K N W0 (evalE P cf e))) ∧
      BlkOk X.N X.env.scope scope (ownP s own) ∧ ∀ σ H Q, tL0 P cf N X W b (.lcomp tg one own b c e) σ H Q → tLc (tI P cf N X W b) g0 (compT P cf N X c) (tE X.K N W0 (evalE P cf e)) own σ H Q := by
  -- the target is of a form alone: its reading is the same in each block
  have key : ∃ g0, (∀ Y, CE P N n (blkSc s scope) Y W0 → Y.K = X.K → PG Y te g0) ∧ ∀ {v : Val} {x : V} {ρ ρ1 : Ev} {σ : L2.St} {π : List Addr} {H : Hp} {Q : L2.St → Hp → Prop}, Ev.tg tg one v ρ = some ρ1 → RV X.K N π H v x → RE X.K N π H ρ σ → (∀ σ2, RE X.K N π H ρ1 σ2 → Same tg σ σ2 → Q σ2 H) → g0 x σ H Q := by
    unfold tgE at hg
    split at hg
    · rename_i i x p
      simp only [Bool.and_eq_true, decide_eq_true_eq] at hg
      refine ⟨gName i, fun Y cy _ => ?_, fun {v x ρ ρ1 σ π H Q} hp r hE q => q _ (Ev.put_ok hp hE r) Same.refl.set⟩
      obtain ⟨l1, l2⟩ := loc_of cy hg.2
      exact pg_name (by rw [cy.hN]; exact cy.nd) (by rw [cy.hN]; exact hg.1) l1 l2
    · refine ⟨fun v σ H Q => gTup X.K tg.length (gNames tg) v σ H Q ∨ gLst X.K tg.length (gNames tg) v σ H Q, fun Y cy eK => ?_, fun {v x ρ ρ1 σ π H Q} hp r hE q => ?_⟩
      · rw [← eK]
        exact pg_both cy hg
      · unfold Ev.tg at hp
        split at hp
        · cases ‹false = true›
        · rename_i vs _ _
          cases r with
          | tup t rs => exact .inl ⟨_, _, rfl, t.sq, rs.length.symm.trans (puts_len hp), puts_ok' hp hE rs q⟩
        · cases hp
    · cases hg
  obtain ⟨g0, k1, k2⟩ := key
  refine ⟨g0, fun s0 H C cl fp => k1 _ (ce_blk cx s0 H scope C cl fp) rfl, fun s0 H C cl fp => pts_ok hf fun x hx => hc (ce_blk cx s0 H scope C cl fp) hx, fun s0 H C cl fp => he (ce_blk cx s0 H scope C cl fp), ?_, lcomp_core0 cx k2 (fun i hi => by simpa using List.all_eq_true.mp hs i hi)⟩
  rw [cx.hN, cx.hsc]
  exact blkOk_by hb
theorem s_lcomp0 (cx : CE P N n s X W) {tg own : List Nat} {one : Bool} {scope : Scope} {ck : E → Expr → Bool} (hi : PI X te ite (tI P cf N X W b)) (hp : pl ite = true) (hg : tgE (blkSc s scope) tg one te = true) (hs : (tg.all fun i => decide (i ∈ own)) = true) (hb : blkC s.N s.sc scope (ownP s own) = true)
    (hc : ∀ {Y : Cx} {x : Expr}, CE P N n (blkSc s scope) Y W0 → ck c x = true → PT Y x (tCt P cf N Y W0 c)) (hf : ifsB ck c ifs = true) (he : ∀ {Y : Cx}, CE P N n (blkSc s scope) Y W0 → PE Y elt (tEv P cf N Y W0 e)) :
    PE X (.ListComp elt [⟨te, ite, ifs, 0⟩] scope pos) (tL0 P cf N X W b (.lcomp tg one own b c e)) := by
  obtain ⟨g0, k1, k2, k3, k4, k5⟩ := comp_parts0 cx hg hs hb hc hf he
  have := pe_lc (pos := pos) cx.calm (by rw [cx.hN]; exact cx.nd) hi k4 k1 k2 k3 fun x => pl_fold hp X.env x
  rw [ownP_snd] at this
  exact PE.mono this k5
theorem s_lcomp (cx : CE P N n s X W) {tg own : List Nat} {one : Bool} {scope : Scope} {ck : E → Expr → Bool} (hi : PI X te ite (tI P cf N X W b)) (hp : pl ite = true) (hg : tgE (blkSc s scope) tg one te = true) (hs : (tg.all fun i => decide (i ∈ own)) = true) (hb : blkC s.N s.sc scope (ownP s own) = true) (hl : b.lkE = false)
    (hc : ∀ {Y : Cx} {x : Expr}, CE P N n (blkSc s scope) Y W0 → ck c x = true → PT Y x (tCt P cf N Y W0 c)) (hf : ifsB ck c ifs = true) (he : ∀ {Y : Cx}, CE P N n (blkSc s scope) Y W0 → PE Y elt (tEv P cf N Y W0 e)) :
    PE X (.ListComp elt [⟨te, ite, ifs, 0⟩] scope pos) (tL P cf N X W (.lcomp tg one own b c e)) :=
  PE.mono (s_lcomp0 cx hi hp hg hs hb hc hf he) (tL0_of hl)
def tSet0 (P : Prog) (cf : Nat → List Val → Store → R Val) (N : Nms) (X : Cx) (W : WX) (b : E) (u : MP.S) : TS := fun D σ H => ∃ π S ρ, RS X.K N π S H ∧ RE X.K N π H ρ σ ∧ (∀ iv S1, evalI P cf b ρ S = .ok iv S1 → iv.lk = none) ∧ GF X.K N π H (evalS P cf u ρ S) W D
/-- x = [.. for ..] on one line -/
theorem ss_setLc0 (cx : CE P N n s X W) {tg own : List Nat} {one : Bool} {scope : Scope} {ck : E → Expr → Bool} {i : Nat} {y : Str} {spos : Pos} (hi : PI X te ite (tI P cf N X W b)) (hp : pl ite = true) (hg : tgE (blkSc s scope) tg one te = true) (hs : (tg.all fun i => decide (i ∈ own)) = true) (hb : blkC s.N s.sc scope (ownP s own) = true)
    (hc : ∀ {Y : Cx} {x : Expr}, CE P N n (blkSc s scope) Y W0 → ck c x = true → PT Y x (tCt P cf N Y W0 c)) (hf : ifsB ck c ifs = true) (he : ∀ {Y : Cx}, CE P N n (blkSc s scope) Y W0 → PE Y elt (tEv P cf N Y W0 e))
    (hy : s.N[i]? = some y) (hyl : s.sc.names.lookup y = some .local) (hk : s.sc.kind = .function) (hline : (p2.line == pos.line) = true) (hno : (scope.names.any fun (n, k) => n == y && (k == .local || k == .cell)) = false) :
    PS X (.Assign [.Name y p2] (.ListComp elt [⟨te, ite, ifs, 0⟩] scope pos) spos) (tSet0 P cf N X W b (.asg (.name i) (.list (.lcomp tg one own b c e)))) := by
  obtain ⟨g0, k1, k2, k3, k4, k5⟩ := comp_parts0 cx hg hs hb hc hf he
  have hsw : swapsWith (.ListComp elt [⟨te, ite, ifs, 0⟩] scope pos) (some (.Name y p2)) spos.line X.env = pure true := by
    have hb2 : X.env.blockKind = .function := by
      unfold Env.blockKind
      rw [cx.hsc, hk]
      rfl
    show (pure (X.env.blockKind == .function && X.env.kindOf y == some .local && p2.line == pos.line && !(scope.names.any fun (n, k) => n == y && (k == .local || k == .cell))) : Sem Bool) = pure true
    rw [hb2, hline, hno]
    have e : X.env.kindOf y = some .local := by
      unfold Env.kindOf
      rw [cx.hsc]
      exact hyl
    rw [e]
    rfl
  have := ps_setLc (spos := spos) (py := p2) cx.calm (by rw [cx.hN]; exact cx.nd) (by rw [cx.hN]; exact hy) (by rw [cx.hsc]; exact hyl) hsw hi k4 k1 k2 k3 fun x => pl_fold hp X.env x
  rw [ownP_snd] at this
  refine PS.mono this fun D σ H ⟨π, S, ρ, hS, hE, hn, g⟩ => ?_
  simp only [evalS, evalE] at g
  refine k5 _ _ _ ⟨π, S, ρ, hS, hE, hn, ?_⟩
  cases r : evalL P cf (.lcomp tg one own b c e) ρ S with
  | bad => rw [r] at g; exact g
  | exc c1 d1 S1 => rw [r] at g; exact fun π' H' y q => g π' H' σ y q (hE.ext y)
  | ok v S1 =>
    rw [r] at g
    intro π1 H1 x1 q1 x rx nx
    cases v with
    | tmp xs =>
      obtain ⟨p, ys, rfl, hp, hn, r⟩ := rx
      have h0 := nx p rfl
      have hx : Ext π H (π1 ++ [p]) H1 := by
        refine ⟨?_, fun b hb => ?_, x1.keep, x1.tup⟩
        · obtain ⟨t, e⟩ := x1.pre
          exact ⟨t ++ [p], by rw [e, List.append_assoc]⟩
        · rcases List.mem_append.mp hb with hb | hb
          · exact x1.new b hb
          · have e : b = p := by simpa using hb
            subst e
            exact .inr h0
      have qq := q1.grow hn (o := .lst xs) ⟨ys, hp, r.grow⟩
      have rv : RV X.K N (π1 ++ [p]) H1 (.ref S1.length) (.ref p) := .ref (by rw [← q1.len]; simp)
      simp only [R.bind, R.toF, evalT] at g
      split at g
      · rename_i ρ1 hput
        exact g _ _ _ hx qq (Ev.put_ok hput (hE.ext hx) rv)
      · exact g.elim
    | _ => exact g.elim
theorem ss_setLc (cx : CE P N n s X W) {tg own : List Nat} {one : Bool} {scope : Scope} {ck : E → Expr → Bool} {i : Nat} {y : Str} {spos : Pos} (hi : PI X te ite (tI P cf N X W b)) (hp : pl ite = true) (hg : tgE (blkSc s scope) tg one te = true) (hs : (tg.all fun i => decide (i ∈ own)) = true) (hb : blkC s.N s.sc scope (ownP s own) = true) (hl : b.lkE = false)
    (hc : ∀ {Y : Cx} {x : Expr}, CE P N n (blkSc s scope) Y W0 → ck c x = true → PT Y x (tCt P cf N Y W0 c)) (hf : ifsB ck c ifs = true) (he : ∀ {Y : Cx}, CE P N n (blkSc s scope) Y W0 → PE Y elt (tEv P cf N Y W0 e))
    (hy : s.N[i]? = some y) (hyl : s.sc.names.lookup y = some .local) (hk : s.sc.kind = .function) (hline : (p2.line == pos.line) = true) (hno : (scope.names.any fun (n, k) => n == y && (k == .local || k == .cell)) = false) :
    PS X (.Assign [.Name y p2] (.ListComp elt [⟨te, ite, ifs, 0⟩] scope pos) spos) (tS X.K N W (evalS P cf (.asg (.name i) (.list (.lcomp tg one own b c e))))) :=
  PS.mono (ss_setLc0 cx hi hp hg hs hb hc hf he hy hyl hk hline hno) fun D σ H ⟨π, S, ρ, hS, hE, g⟩ => ⟨π, S, ρ, hS, hE, fun _ _ h => lk_none hl h, g⟩
end
end MP
/-! Attributes, stores to attributes and to items. -/
namespace MP
open PySem L2
section
variable {K : PySem.W.Frag} {N : Nms} {π : List Addr} {H : Hp} {S : Store}
theorem RF.get (inj : ∀ f g, N.isA f = true → N.isA g = true → N.fld f = N.fld g → f = g) {f : Nat} (hf : N.isA f = true) : ∀ {fs : List (Nat × Val)} {gs : List (Str × V)} {v : Val}, RF K N π H fs gs → (∀ p ∈ fs, N.isA p.1 = true) → fget fs f = some v → ∃ y, gs.lookup (N.fld f) = some y ∧ RV K N π H v y
  | [], _, v, .nil, _, h => by cases h
  | p :: fs, q :: gs, v, .cons r t, ha, h => by
    obtain ⟨q1, q2⟩ := q
    have e : q1 = N.fld p.1 := r.1
    subst e
    unfold fget at h
    rw [List.lookup_cons] at h ⊢
    by_cases hp : f = p.1
    · subst hp
      simp only [beq_self_eq_true] at h ⊢
      cases h
      exact ⟨_, rfl, r.2⟩
    · have n1 : (f == p.1) = false := by simpa using hp
      have n2 : (N.fld f == N.fld p.1) = false := by
        have : N.fld f ≠ N.fld p.1 := fun z => hp (inj f p.1 hf (ha p List.mem_cons_self) z)
        simpa using this
      rw [n1] at h
      rw [n2]
      exact RF.get inj hf t (fun z hz => ha z (List.mem_cons_of_mem _ hz)) h
theorem RF.put (inj : ∀ f g, N.isA f = true → N.isA g = true → N.fld f = N.fld g → f = g) {f : Nat} (hf : N.isA f = true) {v : Val} {y : V} (rv : RV K N π H v y) : ∀ {fs : List (Nat × Val)} {gs : List (Str × V)}, RF K N π H fs gs → (∀ p ∈ fs, N.isA p.1 = true) → RF K N π H (fput f v fs) (putF (N.fld f) y gs) ∧ ∀ p ∈ fput f v fs, N.isA p.1 = true
  | [], _, .nil, _ => ⟨.cons ⟨rfl, rv⟩ .nil, fun p hp => by
      have : p = (f, v) := by simpa [fput] using hp
      rw [this]
      exact hf⟩
  | p :: fs, q :: gs, .cons r t, ha => by
    obtain ⟨q1, q2⟩ := q
    have e : q1 = N.fld p.1 := r.1
    subst e
    by_cases hp : p.1 = f
    · have e1 : fput f v (p :: fs) = (f, v) :: fs := by simp [fput, hp]
      have e2 : putF (N.fld f) y ((N.fld p.1, q2) :: gs) = (N.fld p.1, y) :: gs := by simp [putF, hp]
      rw [e1, e2]
      refine ⟨.cons ⟨by rw [hp], rv⟩ t, fun z hz => ?_⟩
      rcases List.mem_cons.mp hz with h | h
      · rw [h]; exact hf
      · exact ha z (List.mem_cons_of_mem _ h)
    · have hne : ¬ N.fld p.1 = N.fld f := fun z => hp (inj p.1 f (ha p List.mem_cons_self) hf z)
      have e1 : fput f v (p :: fs) = p :: fput f v fs := by simp [fput, hp]
      have e2 : putF (N.fld f) y ((N.fld p.1, q2) :: gs) = (N.fld p.1, q2) :: putF (N.fld f) y gs := by simp [putF, hne]
      rw [e1, e2]
      obtain ⟨h1, h2⟩ := RF.put inj hf rv t fun z hz => ha z (List.mem_cons_of_mem _ hz)
      refine ⟨.cons r h1, fun z hz => ?_⟩
      rcases List.mem_cons.mp hz with h | h
      · rw [h]; exact ha p List.mem_cons_self
      · exact h2 z h
theorem RK.put {k : Key} {v : Val} {y : V} (rv : RV K N π H v y) {kvs : List (Key × Val)} {ys : List (L2.Key × V)} (r : RK K N π H kvs ys) : RK K N π H (dPut kvs k v) (putK ys k y) := by
  have hany : (kvs.any fun kv => decide (kv.1 = k)) = (ys.any fun kv => decide (kv.1 = k)) := by
    induction r with
    | nil => rfl
    | cons h t ih => simp only [List.any_cons, ih, h.1]
  unfold dPut putK
  rw [hany]
  split
  · clear hany
    rename_i hh
    clear hh
    induction r with
    | nil => exact .nil
    | @cons p q ps qs h t ih =>
      simp only [List.map_cons]
      refine .cons ?_ ?_
      · by_cases e : p.1 = k
        · have e' : q.1 = k := h.1.trans e
          rw [if_pos e, if_pos e']
          exact ⟨h.1, rv⟩
        · have e' : ¬ q.1 = k := fun z => e (h.1.symm.trans z)
          rw [if_neg e, if_neg e']
          exact h
      · exact ih
  · clear hany
    rename_i hh
    clear hh
    induction r with
    | nil => exact .cons ⟨rfl, rv⟩ .nil
    | cons h t ih => exact .cons h ih
end
section
variable {P : Prog} {cf : Nat → List Val → Store → R Val} {N : Nms} {n : Nat} {s : Sc} {X : Cx} {W : WX} {pos pos' p2 p3 apos : Pos} {e1 e2 e3 ex o : Expr} {a b c e eo : E} {es : List Expr} {f k : Nat}
/-- e.f, of an instance or of an exception that was caught -/
def tFldX (K : PySem.W.Frag) (ta : TE) (f : Str) : TE := fun σ H Q => ta σ H fun x H1 => (∃ a C dx fs v, x = .ref a ∧ H1 a = some (.ins C dx fs) ∧ Cls K C ∧ NoAttr K C f ∧ fs.lookup f = some v ∧ Q v H1) ∨
  ∃ a C d v, x = .ref a ∧ H1 a = some (exE (.ref C) (some d) a) ∧ ExcC K C ∧ PySem.W.findIn K (.ref C) f = some none ∧ H1 d = some (.xd [(f, v)]) ∧ Q v H1
theorem pe_fldX {ta : TE} {f : Str} (he : PE X o ta) (hb : attributeBase o f X.env (eval o X.env) = eval o X.env) : PE X (.Attribute o f pos) (tFldX X.K ta f) := by
  refine ⟨fun pins s σ H Q I h => ?_⟩
  refine attr_of hb (thn (he.run pins s σ H _ I h) fun u s1 ⟨x, H1, I1, rx, h1⟩ => ?_)
  rcases h1 with ⟨a, C, dx, fs, v, ex, ea, c, n, l, q⟩ | ⟨a, C, d, v, ex, ea, c, n, l, q⟩
  · subst ex
    obtain rfl : u = Value.ref a := rx
    exact getattr_ok I1 ea c n l fun u' s2 I2 ru => ⟨v, H1, I2, ru, q⟩
  · subst ex
    obtain rfl : u = Value.ref a := rx
    obtain ⟨⟨oe, vs, e1, e2, e3, e4⟩, _⟩ : ObjOk X.prog X.w H1 s1.heap a (.ext fun h => ∃ (oe : Obj) (vs : Array Value), h.get? a = some oe ∧ oe.cls = .ref C ∧ oe.dict = some d ∧ oe.data = .fields vs) := I1.hok a _ ea
    have hx : ObjOk X.prog X.w H1 s1.heap d (.xd [(f, v)]) := I1.hok d _ l
    obtain ⟨mA, hns, hr⟩ := hx
    obtain ⟨od, ho, hl⟩ := lookIn_ns hns
    obtain ⟨u, hu, ru⟩ := RelO.some_of (v := v) (o := mA f) (by have := hr f; simpa using this)
    have J : PySem.W.InstAt s1.heap a oe C (some od) := ⟨e1, e2, by unfold PySem.W.notCls; rw [e4] <;> rfl, by rw [e3]; exact ho⟩
    exact HandSPX.exc_get I1.kIn J c.hg c.hk c.hs (PySem.W.findObj_own c.hd n rfl (by rw [hl, hu])) (handed_of ru) ⟨v, H1, I1.tok _, ru, q⟩
theorem s_fld (cx : CE P N n s X W) (ho : PE X o (tEv P cf N X W a)) (hp : pl o = true) (hf : N.isA f = true) : PE X (.Attribute o (N.fld f) pos) (tEv P cf N X W (.fld a f)) := by
  refine PE.mono (pe_fldX ho (pl_attr hp _ _ _)) fun σ H Q ⟨π, S, ρ, hS, hE, g⟩ => ⟨π, S, ρ, hS, hE, ?_⟩
  simp only [evalE] at g
  refine g.seq fun v S1 π1 H1 x1 q1 g1 x rx => ?_
  cases rx with
  | @ref l p ha =>
    simp only at g1
    split at g1
    · rename_i c0 fs hc
      obtain ⟨z, e, q⟩ := G.ofO g1 q1
      obtain ⟨dx, gs, h1, h2, h3, h4⟩ := q1.at_ l p _ ha hc
      obtain ⟨y, y1, y2⟩ := RF.get cx.md.inj hf h2 h4 e
      exact .inl ⟨p, _, dx, gs, y, rfl, h1, (cx.md.cls c0 h3).1, (cx.md.cls c0 h3).2 f hf, y1, q y y2⟩
    · exact g1.elim
  | @exc1 c0 p d z y h0 h1 h2 h3 =>
    simp only at g1
    split at g1
    · rename_i hl
      have el := cx.md.fx.line f hl
      obtain ⟨k1, k2, k3, k4⟩ := cx.md.fx.xc c0 h0
      rw [el]
      exact .inr ⟨p, _, d, y, rfl, h1, k2, k3, h2, G.ok g1 q1 y h3⟩
    · exact g1.elim
  | exc0 _ _ => exact g1.elim
  | _ => exact g1.elim
theorem setFld_ok (cx : CE P N n s X W) (hf : N.isA f = true) {π : List Addr} {H : Hp} {S S' : Store} {w v : Val} {x y : V} (hS : RS X.K N π S H) (r : RV X.K N π H w x) (rv : RV X.K N π H v y) (h : setFld S w f v = some S') :
    ∃ a C dx gs, x = .ref a ∧ H a = some (.ins C dx gs) ∧ Cls X.K C ∧ NoAttr X.K C (N.fld f) ∧ gs.length < 1000 ∧ Ext π H π (upd H a (.ins C dx (putF (N.fld f) y gs))) ∧ RS X.K N π S' (upd H a (.ins C dx (putF (N.fld f) y gs))) := by
  unfold setFld at h
  cases r with
  | @ref l p ha =>
    simp only at h
    split at h
    · rename_i c0 fs hc
      split at h
      · rename_i hl
        cases h
        obtain ⟨dx, gs, h1, h2, h3, h4⟩ := hS.at_ l p _ ha hc
        obtain ⟨r1, r2⟩ := RF.put cx.md.inj hf rv h2 h4
        have hlen : fs.length = gs.length := Paired.length h2
        obtain ⟨y1, y2⟩ := hS.put (o := .ins c0 (fput f v fs)) (u := .ins (He.ga X.K (N.cls c0)) dx (putF (N.fld f) y gs)) ha ⟨_, h1, fun e => e⟩ fun {H'} x e => ⟨dx, _, e, r1.ext x, h3, r2⟩
        exact ⟨p, _, dx, gs, rfl, h1, (cx.md.cls c0 h3).1, (cx.md.cls c0 h3).2 f hf, by omega, y1, y2⟩
      · cases h
    · cases h
  | _ => cases h
theorem sw_attr {e : Expr} {f : Str} {l : Nat} {env : Env} : swapsWith e (some (.Attribute o f pos)) l env = pure false := by cases e <;> rfl
theorem sw_item {e : Expr} {l : Nat} {env : Env} : swapsWith e (some (.Subscript o e1 pos)) l env = pure false := by cases e <;> rfl
theorem ss_fld (cx : CE P N n s X W) (hv : PE X ex (tEv P cf N X W e)) (ho : PE X o (tEv P cf N X W a)) (hf : N.isA f = true) : PS X (.Assign [.Attribute o (N.fld f) p2] ex pos) (tS X.K N W (evalS P cf (.asg (.fld a f) e))) := by
  refine PS.mono (ps_fld ho hv sw_attr) fun D σ H ⟨π, S, ρ, hS, hE, g⟩ => ⟨π, S, ρ, hS, hE, ?_⟩
  simp only [evalS] at g
  refine g.toF hE fun v S1 π1 H1 x1 q1 g1 y ry => ⟨π1, S1, ρ, q1, hE.ext x1, ?_⟩
  simp only [evalT] at g1
  refine g1.toF (hE.ext x1) fun w S2 π2 H2 x2 q2 g2 x rx => ?_
  split at g2
  · rename_i S3 h3
    obtain ⟨p, C, dx, gs, h4, h5, h6, h7, h8, y1, y2⟩ := setFld_ok cx hf q2 rx (ry.ext x2) h3
    exact ⟨p, C, dx, gs, h4, h5, h6, h7, h8, g2 _ _ _ y1 y2 (((hE.ext x1).ext x2).ext y1)⟩
  · exact g2.elim
/-! ### o[i] = v -/
def rSetD : TSet := fun o i v H Q => ∃ a H', o = .ref a ∧ DPut H a i v H' ∧ Q H'
theorem set_both (hr : Room k X.A) : PSet X (fun o i v H Q => rSetL o i v H Q ∨ rSetD o i v H Q) := by
  intro pins s0 σ H o i v ov iv u Q I ro ri rv h
  rcases h with h | ⟨a, H', rfl, g, q⟩
  · exact set_list pins s0 σ H o i v ov iv u Q I ro ri rv h
  · cases ro
    exact d_setItem (hu_of hr) I g ri rv fun s4 I4 => ⟨H', I4, q⟩
theorem setSub_ok {π : List Addr} {H : Hp} {S S' : Store} {w i v : Val} {x y z : V} {K : PySem.W.Frag} (hS : RS K N π S H) (r : RV K N π H w x) (ri : RV K N π H i y) (rv : RV K N π H v z) (h : setSub S w i v = some S') {Q : Hp → Prop} (q : ∀ H', Ext π H π H' → RS K N π S' H' → Q H') : rSetL x y z H Q ∨ rSetD x y z H Q := by
  unfold setSub at h
  cases r with
  | @ref l p ha =>
    simp only at h
    split at h
    · rename_i xs k0 hx
      obtain ⟨j, h1, rfl⟩ := Option.map_eq_some_iff.mp h
      obtain ⟨ys, h2, h3⟩ := hS.at_ l p _ ha hx
      cases ri
      obtain ⟨y1, y2⟩ := hS.put (o := .lst (xs.set j v)) (u := .lst (ys.set j z)) ha ⟨_, h2, fun e => e⟩ fun {H'} x e => ⟨_, e, (h3.set rv j).ext x⟩
      refine .inl ⟨p, ys, _, j, rfl, rfl, h2, ?_, q _ y1 y2⟩
      rw [← h3.length]
      exact h1
    · rename_i kvs hx
      obtain ⟨kk, h1, h2⟩ := Option.bind_eq_some_iff.mp h
      split at h2
      · rename_i hl
        cases h2
        obtain ⟨ys, h3, h4⟩ := hS.dic hx ha
        have ek := keyOf_ok ri h1
        subst ek
        obtain ⟨y1, y2⟩ := hS.put (o := .dic false (dPut kvs kk v)) (u := .dK (putK ys kk z)) ha ⟨_, h3, fun e => e⟩ fun {H'} x e => ⟨_, e, (RK.put rv h4).ext x⟩
        have hlen : kvs.length = ys.length := Paired.length h4
        exact .inr ⟨p, _, rfl, DPut.k h3 (Nat.lt_of_lt_of_le (by rw [← hlen]; exact hl) (LIM_line (Nat.le_refl _))), q _ y1 y2⟩
      · cases h2
    · cases h
  | _ => cases h
theorem ss_sub (cx : CE P N n s X W) (hv : PE X ex (tEv P cf N X W e)) (ho : PE X o (tEv P cf N X W a)) (hi : PE X e1 (tEv P cf N X W b)) (hp : pl e1 = true) : PS X (.Assign [.Subscript o e1 p2] ex pos) (tS X.K N W (evalS P cf (.asg (.sub a b) e))) := by
  have hpg : PG X (.Subscript o e1 p2) (gSub (tEv P cf N X W a) (tEv P cf N X W b) (fun o i v H Q => rSetL o i v H Q ∨ rSetD o i v H Q)) := pg_sub ho hi (set_both cx.room) fun v => by
    cases e1 <;> first | rfl | cases hp
  refine PS.mono (ps_asg hv hpg (show swapsWith ex (some (.Subscript o e1 p2)) pos.line X.env = pure false from sw_item) rfl rfl) fun D σ H ⟨π, S, ρ, hS, hE, g⟩ => ⟨π, S, ρ, hS, hE, ?_⟩
  simp only [evalS] at g
  refine g.toF hE fun v S1 π1 H1 x1 q1 g1 y ry => ⟨π1, S1, ρ, q1, hE.ext x1, ?_⟩
  simp only [evalT] at g1
  refine g1.toF (hE.ext x1) fun w S2 π2 H2 x2 q2 g2 x rx => ⟨π2, S2, ρ, q2, (hE.ext x1).ext x2, ?_⟩
  refine g2.toF ((hE.ext x1).ext x2) fun i S3 π3 H3 x3 q3 g3 z rz => ?_
  split at g3
  · rename_i S4 h4
    exact setSub_ok q3 (rx.ext x3) rz ((ry.ext x2).ext x3) h4 fun H' y1 y2 => g3 _ _ _ y1 y2 ((((hE.ext x1).ext x2).ext x3).ext y1)
  · exact g3.elim
/-- o.f op= e -/
theorem ss_aug (cx : CE P N n s X W) {op : BOp} (hop : op = .add ∨ op = .sub) (ho : PE X o (tEv P cf N X W a)) (hv : PE X ex (tEv P cf N X W e)) (hf : N.isA f = true) : PS X (.AugAssign (.Attribute o (N.fld f) p2) (opOf op) ex pos) (tS X.K N W (evalS P cf (.aug a f op e))) := by
  have key : ∀ rd, InOp X (opOf op) rd → (∀ (i j k : Int) (H : Hp) (Q : VK), augop op (.int i) (.int j) = some (.int k) → Q (.int k) H → rd (.int i) (.int j) H Q) → PS X (.AugAssign (.Attribute o (N.fld f) p2) (opOf op) ex pos) (tS X.K N W (evalS P cf (.aug a f op e))) := fun rd hin hrd => by
    refine PS.mono (ps_fldaug ho hv hin) fun D σ H ⟨π, S, ρ, hS, hE, g⟩ => ⟨π, S, ρ, hS, hE, ?_⟩
    simp only [evalS] at g
    refine g.toF hE fun w S1 π1 H1 x1 q1 g1 x rx => ?_
    split at g1
    · exact g1.elim
    · rename_i z hz
      unfold getFld at hz
      cases rx with
      | @ref l p ha =>
        simp only at hz
        split at hz
        · rename_i c0 fs hc
          obtain ⟨dx, gs, h1, h2, h3, h4⟩ := q1.at_ l p _ ha hc
          obtain ⟨y, y1, y2⟩ := RF.get cx.md.inj hf h2 h4 hz
          refine ⟨p, _, dx, gs, y, rfl, h1, (cx.md.cls c0 h3).1, (cx.md.cls c0 h3).2 f hf, y1, π1, S1, ρ, q1, hE.ext x1, ?_⟩
          refine g1.toF (hE.ext x1) fun v S2 π2 H2 x2 q2 g2 u ru => ?_
          split at g2
          · exact g2.elim
          · rename_i y' hy
            split at g2
            · rename_i hcl
              split at g2
              rotate_left
              · exact g2.elim
              rename_i S3 h3'
              have y2 := y2.ext x2
              cases z <;> cases v <;> cases op <;> simp only [augop] at hy <;> try (cases hy; done)
              all_goals
                cases y2
                cases ru
                cases hy
                refine hrd _ _ _ _ _ rfl ?_
                obtain ⟨p', C', dx', gs', e1, e2, e3, e4, e5, w1, w2⟩ := setFld_ok cx hf q2 (.ref (x2.ix ha)) (.int _) h3'
                cases e1
                have hC : C' = He.ga X.K (N.cls c0) := by
                  unfold setFld at h3'
                  simp only at h3'
                  split at h3'
                  · rename_i c1 fs1 hc1
                    have ec : c0 = c1 := by simpa [clsAt, hc, hc1] using hcl
                    subst ec
                    obtain ⟨dx1, gs1, k1, _⟩ := q2.at_ l p _ (x2.ix ha) hc1
                    rw [e2] at k1
                    cases k1
                    rfl
                  · cases h3'
                subst hC
                exact ⟨dx', gs', e2, e5, g2 _ _ _ w1 w2 (((hE.ext x1).ext x2).ext w1)⟩
            · exact g2.elim
        · cases hz
      | _ => cases hz
  rcases hop with rfl | rfl
  · exact key rAdd in_add fun i j k H Q h q => by cases h; exact ⟨i, j, rfl, rfl, q⟩
  · exact key rSub in_sub fun i j k H Q h q => by cases h; exact ⟨i, j, rfl, rfl, q⟩
end
end MP
/-! raise, try. -/
namespace MP
open PySem L2
section
variable {P : Prog} {cf : Nat → List Val → Store → R Val} {N : Nms} {n : Nat} {s : Sc} {X : Cx} {W : WX} {pos pos' p2 p3 apos : Pos} {e : E}
/-- raise C('..') -/
theorem ss_raise (cx : CE P N n s X W) {z : Nat} {m : Str} {j : Nat} (hn : e.isNo = true) (hx : N.isX z = true) (hg : glB s.sc (N.cls z) = true) (ho : okName (N.cls z) = true) : PS X (.Raise (some (.Call (.Name (N.cls z) p2) [.Constant (.str m) j p3] [] pos')) none pos) (tS X.K N W (evalS P cf (.raise z e))) := by
  obtain ⟨h0, h1, h2, h3, h4, h5⟩ := cx.md.exc z hx
  refine PS.mono (L2N.ps_raise cx.calm cx.tk (L2N.pmk_own PySem.F.excBase_ValueError h2 h1 h3 (raises_own h4 h5) (gl_of cx.hsc hg) (okName_of ho).1)) fun D σ H ⟨π, S, ρ, hS, hE, g⟩ => ?_
  simp only [evalS, hn, if_true] at g
  exact g π H σ Ext.refl hS hE _ _ ⟨h0, rfl, .inl ⟨rfl, rfl⟩⟩
end
end MP
/-! try: several clauses, each with a name or without; an else. -/
namespace MP
open PySem L2 PyProof.Rows
open L2N (Zn)
/-- a clause: its class, its name's slot, its suite's reading -/
abbrev Cl := Value × Option Nat × (Addr → Value → Option Addr → TS)
/-- a clause's ends: its name is gone behind it -/
def goneE : Option Nat → Ends → Ends
  | none, D => D
  | some i, D => ⟨fun τ K => D.nx (τ.set i none) K, D.rt, fun τ K => D.bk (τ.set i none) K, fun τ K => D.ct (τ.set i none) K⟩
/-- behind a clause the exception is kept -/
def regE (z : Addr) (cls : Value) (d : Option Addr) (D : Ends) : Ends := ⟨fun τ K => K z = none → D.nx τ (upd K z (exE cls d z)), D.rt, fun τ K => K z = none → D.bk τ (upd K z (exE cls d z)), fun τ K => K z = none → D.ct τ (upd K z (exE cls d z))⟩
def inE : Option Nat → Addr → L2.St → L2.St
  | none, _, τ => τ
  | some i, z, τ => τ.set i (some (.ref z))
def wCl (K : PySem.W.Frag) (Wo : WX) (D : Ends) : List Cl → WX
  | [] => Wo
  | q :: r => fun cls d τ H => ∃ b, PySem.W.exmOne K cls q.1 = some b ∧ (b = true → ∀ z, H z = none → q.2.2 z cls d (goneE q.2.1 (regE z cls d D)) (inE q.2.1 z τ) H) ∧ (b = false → wCl K Wo D r cls d τ H)
def nameOk (X : Cx) : Option Nat → Option Str → Prop
  | none, none => True
  | some i, some n => X.N[i]? = some n ∧ X.env.kindOf n = some .local
  | _, _ => False
inductive ClOk (X : Cx) : List ExceptHandler → List Cl → Prop
  | nil : ClOk X [] []
  | cons {x : Str} {c : Value} {o : Option Nat} {on : Option Str} {ts : Addr → Value → Option Addr → TS} {b : Stmt} {bs : List Stmt} {p q : Pos} {hds : List ExceptHandler} {l : List Cl} (hc : Names X x c) (hn : nameOk X o on)
      (hs : ∀ (z : Addr) (oz : Obj) (cls : Value) (d : Option Addr) (pn : List (Addr × Obj)), Zn cls d oz → (∃ vs, oz.data = .fields vs) → PSs (X.suite z ((z, oz) :: pn)) (b :: bs) (ts z cls d)) (r : ClOk X hds l) :
      ClOk X (.ExceptHandler (some (.Name x p)) on (b :: bs) q :: hds) ((c, o, ts) :: l)
section
variable {X : Cx} {B : Heap} {pins : List (Addr × Obj)} {τ : L2.St} {H : Hp} {z : Addr} {cls : Value} {d : Option Addr} {s sI : Shared} {D : Ends}
/-- an exception that landed here, all else as it was -/
structure Lnd (X : Cx) (B : Heap) (pins : List (Addr × Obj)) (τ : L2.St) (H : Hp) (z : Addr) (cls : Value) (d : Option Addr) (sI s : Shared) : Prop where
  fr : X.A.frames = some (X.env :: X.outer)
  stk : X.stack = X.env :: X.outer
  fm : X.env.frame = some X.env.locals
  inv : Inv X pins τ H sI
  nb : ∀ b o, sI.heap.get? b = some o → b ∉ frs X.stack → B.get? b = some o
  up : sI.heap.UpToSlots s.heap
  fl : HandSPX.FlyingZ B (X.env :: X.outer) z (Zn cls d) s.heap
  na : H z = none
  os : s.os = sI.os
  ag : AllBare s.gens
theorem Lnd.off (L : Lnd X B pins τ H z cls d sI s) : z ∉ frs (X.env :: X.outer) := fun m => by
  obtain ⟨oz, vs, h1, h2, h3⟩ := L.fl.there
  obtain ⟨_, o', e', h4⟩ := L.fl.2.2.1.mem m
  rw [h1] at e'
  cases e'
  exact h4 _ h3
theorem Lnd.fresh (L : Lnd X B pins τ H z cls d sI s) : sI.heap.get? z = none := by
  cases e : sI.heap.get? z with
  | none => rfl
  | some o =>
    have h := L.nb z o e (by rw [L.stk]; exact L.off)
    rw [L.fl.2.1] at h
    cases h
theorem kept_exc {τ' : L2.St} {K : Hp} {s' : Shared} {o : Obj} (L : Lnd X B pins τ H z cls d sI s) (h0 : X.ex = []) (hz : Zn cls d o) (hd : ∃ vs, o.data = .fields vs) (J : Inv X ((z, o) :: pins) τ' K s') : Inv X pins τ' (upd K z (exE cls d z)) s' := by
  obtain ⟨g1, g2, g3, g4, g5⟩ := J.pin (z, o) (List.mem_append_right _ List.mem_cons_self)
  have g1 : s'.heap.get? z = some o := g1
  have g2 : K z = none := g2
  obtain ⟨vs, hd⟩ := hd
  have far : ∀ {b : Addr} {u : HO}, K b = some u → upd K z (exE cls d z) b = some u := fun {b u} e => by rw [upd_ne (ne_of_none e g2)]; exact e
  have new : ObjOk X.prog X.w (upd K z (exE cls d z)) s'.heap z (exE cls d z) := ⟨⟨o, vs, g1, hz.1, hz.2.1, hd⟩, ⟨o, g1⟩, fun h1 h2 ⟨oe, vs, e1, e2⟩ k => ⟨oe, vs, k _ e1, e2⟩⟩
  refine ⟨J.ok, J.os, J.bare, ⟨J.base.keep, J.base.slot, fun b u e n hb => ?_, J.base.there, fun b xs e => far (J.base.tups b xs e), fun b o u e => far (J.base.frzs b o u e), fun b ps e => ?_⟩, J.loc, J.cell, ?_, fun x c hc => ?_, fun p hp => ?_, ?_, J.len⟩
  · rw [upd_ne (fun q => ?_)]
    · exact J.base.free b u e n hb
    · obtain ⟨o', e'⟩ := L.inv.base.there b u e hb
      rw [q, L.fresh] at e'
      cases e'
  · obtain ⟨more, e⟩ := J.base.tbls b ps e
    exact ⟨more, far e⟩
  · rw [upd_ne (Ne.symm g3)]
    exact J.free
  · rw [upd_ne (fun q => ?_)]
    · exact J.freeC x c hc
    · obtain ⟨v, oc, e1, e2⟩ := J.cell x c hc
      subst q
      rw [g1] at e1
      cases e1
      exact g5 v e2
  · obtain ⟨k1, k2, k3, k4, k5⟩ := J.pin p ((List.mem_append.mp hp).elim (List.mem_append_left _) fun h => List.mem_append_right _ (List.mem_cons_of_mem _ h))
    refine ⟨k1, ?_, k3, k4, k5⟩
    rw [upd_ne (fun q => ?_)]
    · exact k2
    · obtain ⟨e1, _⟩ := L.inv.pin p hp
      rw [q, L.fresh] at e1
      cases e1
  · exact HOk.laidN J.hok (fun _ _ q => q) g2 new
theorem Lnd.out (L : Lnd X B pins τ H z cls d sI s) : ∃ oz, Zn cls d oz ∧ s.heap.get? z = some oz ∧ (∃ vs, oz.data = .fields vs) ∧ Inv (X.suite z ((z, oz) :: (X.pn ++ pins))) [] τ H s := by
  have J := L.inv.landed L.nb L.fl.1 L.up L.os L.ag
  obtain ⟨oz, vs, h1, h2, h3⟩ := L.fl.there
  have off := L.off
  refine ⟨oz, h2, h1, ⟨vs, h3⟩, J.suite h1 h3 L.na (fun e => off ?_) fun m => off ?_⟩
  · rw [e]
    exact List.mem_filterMap.mpr ⟨X.env, List.mem_cons_self, L.fm⟩
  · obtain ⟨e, h4, h5⟩ := List.mem_filterMap.mp m
    exact List.mem_filterMap.mpr ⟨e, List.mem_cons_of_mem _ h4, h5⟩
/-- none of the clauses takes it -/
theorem Lnd.on (L : Lnd X B pins τ H z cls d sI s) {Wo : WX} (tk : L2N.Takes X Wo) (w : Wo cls d τ H) : wpAny (model X.prog X.w) X.A (handleBy (.ref z) X.env []) (SP X pins D) X.xe s := by
  refine wpAny_handleBy_nil ?_
  obtain ⟨_, _, _, oz, vs, T, _, _, h1, _, h2, h3, _⟩ := id L.fl
  have go : wpAny (model X.prog X.w) X.A (setFlight (.ref z) X.env.frame) (fun _ s4 => wpAny (model X.prog X.w) X.A (throw (.ref z) : Sem Flow) (SP X pins D) X.xe s4) X.xe s := by
    rw [L.fm]
    refine HandSPX.setFlight_upZ L.fl fun h4 hh up => wpAny_throw (tk _ _ ?_)
    exact ⟨z, B, sI, pins, τ, H, cls, d, rfl, L.inv, L.nb, L.up.trans up, .inr (.inr (by rw [L.stk]; exact hh)), L.na, L.os, L.ag, w⟩
  unfold PySem.passOn
  refine wpAny_bind (wpAny_field h1 h2 h3 ?_)
  rw [if_neg (show ¬ ((Value.ref T == Value.none) = true) by simp)]
  first
    | exact wpAny_bind (wpAny_pure (wpAny_bind go))
    | exact wpAny_bind go
theorem unsuite1 {q : Addr × Obj} {pn' : List (Addr × Obj)} {τ' : L2.St} {K : Hp} {s' : Shared} (I : Inv (X.suite z (q :: (X.pn ++ pins))) pn' τ' K s') (ok : X.Ok) : Inv X (q :: pins) τ' K s' :=
  (I.unsuite (pins := pins) ok).pins_of fun p hp => I.pin p (List.mem_append_left _ ((List.mem_cons.mp hp).elim (fun e => e ▸ List.mem_cons_self) fun h => List.mem_cons_of_mem _ (List.mem_append_right _ h)))
theorem Lnd.handles (ok : X.Ok) (h0 : X.ex = []) (hN : X.N.Nodup) {Wo : WX} (tk : L2N.Takes X Wo) {hds : List ExceptHandler} {l : List Cl} (hk : ClOk X hds l) : Lnd X B pins τ H z cls d sI s → wCl X.K Wo D l cls d τ H → wpAny (model X.prog X.w) X.A (handleBy (.ref z) X.env hds) (SP X pins D) X.xe s := by
  induction hk with
  | nil => exact fun L w => L.on tk w
  | @cons x c o on ts b bs p q hds l hc hn hs r ih =>
    intro L w
    obtain ⟨k, k1, k2, k3⟩ := w
    obtain ⟨oz, z1, z2, ⟨vz, z3⟩, S⟩ := L.out
    refine wpAny_handleBy_cons (codeAny_handlers_test ?_) (by intro q; cases q)
    have L1 : PySem.W.Looks (model X.prog X.w) s.heap (typeOf (.ref z)) cls := fun A Q E s k q => wpAny_typeOf_ref (k _ _ z2) (by rw [z1.1]; exact q)
    have L2 := PySem.W.exm_one (M := model X.prog X.w) S.kIn L1 k1
    have test : ∀ {Q : Value → Shared → Prop} {E : Value → Shared → Prop}, Q c s → wpAny (model X.prog X.w) (X.A.mark (some (.ref z))) (eval (.Name x p) X.env) Q E s := fun {Q E} y => by
      obtain ⟨h1, h2, h3 | ⟨h3, h4, h5⟩⟩ := hc
      · exact ld_glob (X := X.suite z ((z, oz) :: (X.pn ++ pins))) S h1 h3 y h2
      · exact ld_blt (X := X.suite z ((z, oz) :: (X.pn ++ pins))) S h1 h3 h4 y h5 h2
    refine test (L2.here ?_)
    cases k with
    | false =>
      show wpAny _ X.A (handleBy (.ref z) X.env hds) _ _ _
      exact ih L (k3 rfl)
    | true =>
      have again : ∀ {h4 : Heap}, HandSPX.FlyingZ B (X.env :: X.outer) z (Zn cls d) h4 → s.heap.UpToSlots h4 → Lnd X B pins τ H z cls d sI { s with heap := h4 } := fun fl up => ⟨L.fr, L.stk, L.fm, L.inv, L.nb, L.up.trans up, fl, L.na, L.os, L.ag⟩
      cases on with
      | none =>
        cases o with
        | some i => exact absurd hn (fun e => e)
        | none =>
          refine codeAny_handlers_suite ?_
          refine HandSPX.lands_againZ L.fl fun h4 fl4 up4 => ?_
          obtain ⟨o4, y1, y2, y3, S4⟩ := (again fl4 up4).out
          have L4 := again fl4 up4
          refine wpAny_mono ((hs z o4 cls d (X.pn ++ pins) y1 y3).run [] _ _ H (regE z cls d D) S4 (k2 rfl z L.na)) (fun f s6 h6 => ?_) (fun _ _ e => False.elim e)
          cases f with
          | ret u =>
            obtain ⟨v, τ6, H6, J, r, q⟩ := h6
            exact ⟨v, τ6, H6, J.unsuite ok, r, q⟩
          | _ =>
            obtain ⟨τ6, H6, J, q⟩ := h6
            exact ⟨τ6, _, kept_exc L4 h0 y1 y3 (unsuite1 J ok), q ((unsuite1 J ok).pin (z, o4) (List.mem_append_right _ List.mem_cons_self)).2.1⟩
      | some n =>
        cases o with
        | none => exact absurd hn (fun e => e)
        | some i =>
          obtain ⟨hi, hl⟩ := hn
          refine codeAny_handlers_suite_as ?_
          refine HandSPX.lands_againZ L.fl fun h4 fl4 up4 => ?_
          obtain ⟨o4, y1, y2, y3, S4⟩ := (again fl4 up4).out
          refine store_ok (X := X.suite z ((z, o4) :: (X.pn ++ pins))) (v := .ref z) S4 hN hi (.inl hl) rfl (fun s5 S5 => ?_) (.inr hl)
          have L4 := again fl4 up4
          refine wpAny_mono ((hs z o4 cls d (X.pn ++ pins) y1 y3).run [] s5 _ H (goneE (some i) (regE z cls d D)) S5 (k2 rfl z L.na)) (fun f s6 h6 => ?_) (fun _ _ e => False.elim e)
          cases f with
          | ret u =>
            obtain ⟨v, τ6, H6, J, r, y⟩ := h6
            exact gone_ok (J.unsuite ok) hN hi hl fun s7 J7 => ⟨v, _, H6, J7, r, y⟩
          | _ =>
            obtain ⟨τ6, H6, J, y⟩ := h6
            exact gone_ok (unsuite1 J ok) hN hi hl fun s7 J7 => ⟨_, _, kept_exc L4 h0 y1 y3 J7, y (J7.pin (z, o4) (List.mem_append_right _ List.mem_cons_self)).2.1⟩
end
section
variable {X : Cx} {body orelse : List Stmt} {h₀ : ExceptHandler} {hds : List ExceptHandler} {l : List Cl} {pos : Pos} {tb : WX → TS} {Wo : WX} {u : TS}
theorem ps_tryG (ho : PSs X orelse u) (h0 : X.ex = []) (hs : X.stack = X.env :: X.outer) (hf : X.env.frame = some X.env.locals) (hN : X.N.Nodup) (tk : L2N.Takes X Wo)
    (hb : ∀ (W : WX) (pn : List (Addr × Obj)) (xe : Value → Shared → Prop), L2N.Takes (X.tr pn xe) W → PassesOwn (model X.prog X.w) X.A X.env xe → PSs (X.tr pn xe) body (tb W))
    (hh : ClOk X (h₀ :: hds) l) : PS X (.Try body (h₀ :: hds) orelse [] pos) (fun D σ H => tb (wCl X.K Wo D l) { D with nx := u D } σ H) := by
  refine ⟨fun pins s σ H D I h => ?_⟩
  have ok := I.ok
  have fr : X.A.frames = some (X.env :: X.outer) := by rw [ok.frames, hs]
  refine wpAny_Try_except ?_
  refine wpAny_mono ((hb (wCl X.K Wo D l) (X.pn ++ pins) (fun e s₁ => wpAny (model X.prog X.w) X.A (noteFrame e X.env) (fun _ s₂ => wpAny (model X.prog X.w) X.A (setFlight e none) (fun _ s₃ => wpAny (model X.prog X.w) X.A (handleBy e X.env (h₀ :: hds)) (SP X pins D) X.xe s₃) X.xe s₂) X.xe s₁)
    (fun y s' xx => ?_) PassesOwn.looking).run [] s σ H { D with nx := u D } (I.toTry _) h) (fun f s1 sp => ?_) (fun _ _ e => e)
  · obtain ⟨z, B, sI, pins', τ, H1, cls, d, rfl, J, nb, up, sky, na, os, ag, w⟩ := xx
    have sky1 : L2.Sky B (X.env :: X.outer) z (Zn cls d) X.env.locals s'.heap := by rw [← hs]; exact sky
    exact L2N.Sky.land L2N.Zn.steady fr hf sky1 fun h3 fl up3 => Lnd.handles ok h0 hN tk hh ⟨fr, hs, hf, J.ofTry ok, nb, up.trans up3, fl, na, os, ag⟩ w
  · cases f with
    | next =>
      obtain ⟨τ, H1, J, q⟩ := sp
      exact ho.run pins s1 τ H1 D (J.ofTry ok) q
    | ret v =>
      obtain ⟨v, τ, H1, J, r, q⟩ := sp
      exact ⟨v, τ, H1, J.ofTry ok, r, q⟩
    | _ =>
      obtain ⟨τ, H1, J, q⟩ := sp
      exact ⟨τ, H1, J.ofTry ok, q⟩
end
end MP
/-! Suites of except clauses; try. -/
namespace MP
open PySem L2
open L2N (Zn)
/-- where a suite stands -/
structure CH (cl : Bool) (P : Prog) (N : Nms) (n : Nat) (s : Sc) (Y : Cx) : Prop where
  hN : Y.N = s.N
  nd : s.N.Nodup
  hsc : Y.env.scope = s.sc
  fn : ∀ x, Y.fn x = true
  room : cl = true → L2H.RoomH 1 Y.A
  un : Y.A.units + 1 < cLine
  hot : L2H.HotC Y
  md : Md P N Y.prog Y.w Y.K Y.mg Y.base n
variable (N : Nms) (P : Prog)
mutual
def htE (cl : Bool) (s : Sc) : Nat → E → Expr → Bool
  | 0, _, _ => false
  | _ + 1, .var i, .Name x _ => decide (s.N[i]? = some x) && visB s.sc x && okName x
  | _ + 1, .int i, .Constant (.int j) _ _ => decide (i = j)
  | _ + 1, .bl i, .Constant (.bool j) _ _ => decide (i = j)
  | _ + 1, .non, .Constant .none _ _ => true
  | _ + 1, .str i, .Constant (.str j) _ _ => decide (i = j)
  | m + 1, .ix a i, .Subscript l r _ => htE cl s m a l && htE cl s m i r && pl r
  | m + 1, .tup es, .Tuple xs _ _ => htA cl s m es xs
  | m + 1, .call f es k, .Call (.Name x _) (y :: xs) [] _ => cl && ((P.dfl f).drop k).isEmpty && decide (x = N.fn f) && N.isH f && glB s.sc x && okName x && (y :: xs).all pl && htA cl s m es (y :: xs)
  | _, _, _ => false
def htA (cl : Bool) (s : Sc) : Nat → E → List Expr → Bool
  | 0, _, _ => false
  | _ + 1, .nil, [] => true
  | m + 1, .cons a b, x :: xs => htE cl s m a x && pl x && htA cl s m b xs
  | _, _, _ => false
end
def htS (cl : Bool) (s : Sc) : S → Stmt → Bool
  | .ret e, .Return (some ex) _ => htE N P cl s 30 e ex
  | .asg (.name i) e, .Assign [.Name x _] ex _ => noComp ex && decide (s.N[i]? = some x) && tgB s x && htE N P cl s 30 e ex
  | _, _ => false
def htSs (cl : Bool) (s : Sc) : S → List Stmt → Bool
  | .nil, [] => true
  | .cons u v, x :: r => htS N P cl s u x && htSs cl s v r
  | _, _ => false
section
variable {N} {P} {n : Nat} {s : Sc} {Y : Cx} {cl : Bool} {e : E} {ex : Expr} {xs : List Expr} {pos p2 : Pos}
theorem h_var {cf : Nat → List Val → Store → R Val} (hN : Y.N = s.N) (hsc : Y.env.scope = s.sc) {i : Nat} {x : Str} (h1 : s.N[i]? = some x) (h2 : visB s.sc x = true) (ho : okName x = true) : PE Y (.Name x pos) (tEv P cf N Y W0 (.var i)) := by
  obtain ⟨o1, o2, _⟩ := okName_of ho
  refine PE.mono (pe_var (i := i) (by rw [hN]; exact h1) (by rw [hsc]; exact vis_of h2) o1 o2) fun σ H Q ⟨π, S, ρ, hS, hE, g⟩ => ?_
  simp only [evalE] at g
  split at g
  · rename_i v e
    obtain ⟨y, h1, h2⟩ := hE.get e
    exact ⟨y, h1, G.ok g hS y h2⟩
  · exact g.elim
theorem h_ix {cf : Nat → List Val → Store → R Val} {a b : E} {e1 e2 : Expr} (hu : Y.A.units + 1 < cLine) (ha : PE Y e1 (tEv P cf N Y W0 a)) (hb : PE Y e2 (tEv P cf N Y W0 b)) (hp : pl e2 = true) : PE Y (.Subscript e1 e2 pos) (tEv P cf N Y W0 (.ix a b)) := by
  refine PE.mono (pe_ix (ix_seq.or (ix_dict0 hu)) ha hb (pl_sub hp)) fun σ H Q h => ?_
  refine s_two (ra := rItem Y.K) (f := fun v w S => ofO (getI S v w) S) ha hb (fun {π S H v w x y Q A B} hS r1 r2 g k => ?_) σ H Q (by simpa only [tEv, tE, evalE] using h)
  obtain ⟨z, e, q⟩ := g.ofO hS
  exact getI_ok hS r1 r2 e fun r rr => k z S π H Ext.refl hS q r rr
theorem w0_pass {σ : L2.St} : PassesAt (L2N.CX Y.prog Y.w) Y σ (fun _ _ _ => False) := fun _ _ _ _ _ _ ⟨_, _, _, _, _, _, _, _, _, _, _, _, h⟩ => h.elim
mutual
theorem htE_ok (cy : CH cl P N n s Y) : ∀ {m : Nat} {e : E} {ex : Expr}, htE N P cl s m e ex = true → PE Y ex (tEv P (callN P n) N Y W0 e)
  | 0, _, _, h => absurd h (by unfold htE; exact Bool.false_ne_true)
  | m + 1, e, ex, h => by
    unfold htE at h
    split at h <;> try simp only [Bool.and_eq_true, decide_eq_true_eq] at h
    · rename_i q; cases q
    · exact h_var cy.hN cy.hsc h.1.1 h.1.2 h.2
    · subst h; exact s_int
    · subst h; exact s_bl
    · exact s_non
    · subst h; exact s_str
    · rename_i m' _ _ _ _ _ q
      cases q
      exact h_ix cy.un (htE_ok cy h.1.1) (htE_ok cy h.1.2) h.2
    · rename_i m' _ _ _ _ q
      cases q
      exact s_tup (htA_ok cy h)
    · rename_i m' f es k x p y xs p' q
      cases q
      obtain ⟨⟨⟨⟨⟨⟨⟨hcl, hd⟩, rfl⟩, h2⟩, h3⟩, h4⟩, h5⟩, h6⟩ := h
      obtain ⟨a, fd, ps, k1, k2, k3, k4⟩ := cy.md.hot f h2
      have hp := h5
      simp only [List.all_cons, Bool.and_eq_true] at hp
      refine PE.mono (L2H.pe_callH (E := fun _ _ _ _ => False) k3 (cy.room hcl) cy.hot (gl_of cy.hsc h3) k1 k2 k4 (fun σ => w0_pass) (htA_ok cy h6) (okName_of h4).1 (pl_star hp.1 _ Y.env) (backTo_nostar (all_plA hp.2) _ Y.env)) fun σ H Q ⟨π, S, ρ, hS, hE, g⟩ => ⟨π, S, ρ, hS, hE, ?_⟩
      simp only [evalE] at g
      refine g.seq fun vs S1 π1 H1 x1 q1 g1 xs rs => ?_
      rw [List.isEmpty_iff.mp hd, List.append_nil] at g1
      exact ⟨π1, S1, vs, q1, rs, g1.imp (fun _ _ _ _ _ _ h => h) fun _ _ _ _ _ _ b cls d r => b cls d r⟩
    · cases h
theorem htA_ok (cy : CH cl P N n s Y) : ∀ {m : Nat} {e : E} {xs : List Expr}, htA N P cl s m e xs = true → PA Y xs (tRw P (callN P n) N Y W0 e)
  | 0, _, _, h => absurd h (by unfold htA; exact Bool.false_ne_true)
  | m + 1, e, xs, h => by
    unfold htA at h
    split at h <;> try simp only [Bool.and_eq_true, decide_eq_true_eq] at h
    · rename_i q; cases q
    · exact s_nil
    · rename_i m' _ _ _ _ q
      cases q
      exact s_cons (htE_ok cy h.1.1) (htA_ok cy h.2) h.1.2
    · cases h
end
theorem htS_ok (cy : CH cl P N n s Y) {u : S} {st : Stmt} (h : htS N P cl s u st = true) : PS Y st (tS Y.K N W0 (evalS P (callN P n) u)) := by
  unfold htS at h
  split at h <;> try simp only [Bool.and_eq_true, decide_eq_true_eq] at h
  · exact ss_ret (htE_ok cy h)
  · rename_i i e x p2 ex pos
    obtain ⟨⟨⟨h1, h2⟩, h3⟩, h4⟩ := h
    have l : Loc Y.env.scope x ∧ (Y.fn x = true ∨ Y.env.scope.names.lookup x = some .local) := by
      unfold tgB at h3
      rw [cy.hsc]
      split at h3
      · rename_i hl
        exact ⟨.inl hl, .inr hl⟩
      · rename_i hl
        exact ⟨.inr hl, .inl (cy.fn x)⟩
      · cases h3
    refine PS.mono (ps_set (by rw [cy.hN]; exact cy.nd) (by rw [cy.hN]; exact h2) l.1 (htE_ok cy h4) (noComp_sw h1 _ _ _) l.2) fun D σ H ⟨π, S, ρ, hS, hE, g⟩ => ?_
    simp only [evalS] at g
    refine ⟨π, S, ρ, hS, hE, g.toF hE fun v S1 π1 H1 x1 q1 g1 x r => ?_⟩
    simp only [evalT] at g1
    split at g1
    · rename_i ρ1 hp
      exact g1 π1 H1 _ Ext.refl q1 (Ev.put_ok hp (hE.ext x1) r)
    · exact g1.elim
  · cases h
theorem htSs_ok (cy : CH cl P N n s Y) : ∀ {u : S} {sts : List Stmt}, htSs N P cl s u sts = true → PSs Y sts (tS Y.K N W0 (evalS P (callN P n) u)) := by
  intro u sts
  induction sts generalizing u with
  | nil =>
    intro h
    unfold htSs at h
    split at h
    · exact ss_nil
    · rename_i q; cases q
    · cases h
  | cons st r ih =>
    intro h
    unfold htSs at h
    split at h
    · rename_i q; cases q
    · rename_i u v x r' q
      cases q
      simp only [Bool.and_eq_true] at h
      exact ss_cons (htS_ok cy h.1) (ih h.2)
    · cases h
end
/-! ### the clauses -/
structure CB (P : Prog) (N : Nms) (n : Nat) (s : Sc) (X : Cx) (W : WX) : Prop where
  ce : CE P N n s X W
  own : PassesOwn (model X.prog X.w) X.A X.env X.xe
  stk : X.stack = X.env :: X.outer
  fr : X.env.frame = some X.env.locals
  ex0 : X.ex = []
  blk : s.blk = false
def clB (s : Sc) : S → List ExceptHandler → Bool
  | .hnil, [] => true
  | .hcons h none b r, .ExceptHandler (some (.Name x _)) none (y :: ys) _ :: hds => decide (x = N.cls h) && N.isE h && glB s.sc x && okName x && htSs N P true s b (y :: ys) && clB s r hds
  | .hcons h (some i) (.cons (.asg (.name j) (.var i')) .nil) r, .ExceptHandler (some (.Name x _)) (some nm) [.Assign [.Name y _] (.Name nm' _) _] _ :: hds =>
    decide (x = N.cls h) && N.isE h && glB s.sc x && okName x && decide (i' = i) && !decide (j = i) && decide (s.N[i]? = some nm) && decide (nm' = nm) && decide (s.N[j]? = some y) && decide (s.sc.names.lookup nm = some .local) && decide (s.sc.names.lookup y = some .local) && okName nm && clB s r hds
  | _, _ => false
def clL (cf : Nat → List Val → Store → R Val) (K : PySem.W.Frag) : S → List Cl
  | .hcons h none b r => (.ref (He.ga K (N.cls h)), none, fun _ _ _ => tS K N W0 (evalS P cf b)) :: clL cf K r
  | .hcons h (some i) (.cons (.asg (.name j) _) _) r => (.ref (He.ga K (N.cls h)), some i, fun _ _ _ => tAsg (tVar i) (gName j)) :: clL cf K r
  | _ => []
section
variable {N} {P} {n : Nat} {s : Sc} {X : Cx} {W : WX} {pos : Pos}
theorem cl_ok (cb : CB P N n s X W) : ∀ {hs : S} {hds : List ExceptHandler}, clB N P s hs hds = true → ClOk X hds (clL N P (callN P n) X.K hs) := by
  intro hs hds
  induction hds generalizing hs with
  | nil =>
    intro h
    unfold clB at h
    split at h
    · exact .nil
    · rename_i q; cases q
    · rename_i q; cases q
    · cases h
  | cons hd hds ih =>
    intro h
    unfold clB at h
    split at h
    · rename_i q; cases q
    · rename_i h' b r x p y ys p' hds' q
      cases q
      simp only [Bool.and_eq_true, decide_eq_true_eq] at h
      obtain ⟨⟨⟨⟨⟨rfl, h1⟩, h2⟩, h3⟩, h4⟩, h5⟩ := h
      obtain ⟨k1, _⟩ := cb.ce.md.fx.xc h' h1
      refine .cons ⟨gl_of cb.ce.hsc h2, (okName_of h3).1, .inl k1⟩ trivial (fun z oz cls d pn hz hf => ?_) (ih h5)
      obtain ⟨vs, hv⟩ := hf
      have cy : CH true P N n s (X.suite z ((z, oz) :: pn)) := ⟨cb.ce.hN, cb.ce.nd, cb.ce.hsc, cb.ce.fn cb.blk, fun _ => ⟨by have := cb.ce.room.dp; show X.A.depth + 3 * 1 + 5 < recursionLimit; omega, by have := cb.ce.room.un; show X.A.units + 16 * 1 + 200 < cLine; omega⟩, (by show X.A.units + 1 < cLine; exact hu_of cb.ce.room), ⟨(z, oz), ⟨rfl, vs, hv, hz.2.2 vs hv⟩, List.mem_cons_self⟩, cb.ce.md⟩
      exact htSs_ok cy h4
    · rename_i h' i j i' r x p nm y p1 nm' p2 p3 p' hds' q
      cases q
      simp only [Bool.and_eq_true, decide_eq_true_eq, Bool.not_eq_true', decide_eq_false_iff_not] at h
      obtain ⟨⟨⟨⟨⟨⟨⟨⟨⟨⟨⟨⟨rfl, h1⟩, h2⟩, h3⟩, rfl⟩, h5⟩, h6⟩, rfl⟩, h8⟩, h9⟩, h10⟩, h11⟩, h12⟩ := h
      obtain ⟨k1, _⟩ := cb.ce.md.fx.xc h' h1
      have ko : ∀ {q : Str}, s.sc.names.lookup q = some .local → X.env.scope.names.lookup q = some .local := fun {q} e => by rw [cb.ce.hsc]; exact e
      refine .cons ⟨gl_of cb.ce.hsc h2, (okName_of h3).1, .inl k1⟩ ⟨by rw [cb.ce.hN]; exact h6, ko h9⟩ (fun z oz cls d pn hz hf => ?_) (ih h12)
      refine pss_one (ps_set (X := X.suite z ((z, oz) :: pn)) (by rw [show (X.suite z ((z, oz) :: pn)).N = s.N from cb.ce.hN]; exact cb.ce.nd) (by rw [show (X.suite z ((z, oz) :: pn)).N = s.N from cb.ce.hN]; exact h8) (.inl (ko h10)) (pe_var (X := X.suite z ((z, oz) :: pn)) (by rw [show (X.suite z ((z, oz) :: pn)).N = s.N from cb.ce.hN]; exact h6) (.inl (ko h9)) (okName_of h11).1 (okName_of h11).2.1) (by rfl) (.inr (ko h10)))
    · cases h
theorem cl_w (cb : CB P N n s X W) {K : PySem.W.Frag} (hK : K = X.K) {c : Nat} {ds : List Val} {D : Ends} {cls : Value} {d : Option Addr} {ρ : Ev} {S : Store} {π : List Addr} {H : Hp} {σ : L2.St} (hS : RS K N π S H) (hE : RE K N π H ρ σ) (rx : RX K N π H c ds cls d) : ∀ {hs : MP.S} {hds : List ExceptHandler}, clB N P s hs hds = true → GF K N π H (evalH P (callN P n) hs c ds ρ S) W D → wCl K W D (clL N P (callN P n) K hs) cls d σ H := by
  subst hK
  obtain ⟨r1, r2, r3⟩ := rx
  intro hs hds
  induction hds generalizing hs with
  | nil =>
    intro h
    unfold clB at h
    split at h
    · intro g
      simp only [evalH] at g
      exact g.elim
    · rename_i q; cases q
    · rename_i q; cases q
    · cases h
  | cons hd hds ih =>
    intro h
    unfold clB at h
    split at h
    · rename_i q; cases q
    · rename_i h' b r x p y ys p' hds' q
      cases q
      simp only [Bool.and_eq_true, decide_eq_true_eq] at h
      obtain ⟨⟨⟨⟨⟨rfl, h1⟩, h2⟩, h3⟩, h4⟩, h5⟩ := h
      intro g
      simp only [evalH, handle] at g
      refine ⟨P.sub c h', by rw [r2]; exact cb.ce.md.fx.xs c h' r1 h1, fun hb z hz => ⟨π, S, ρ, hS, hE, ?_⟩, fun hb => ?_⟩
      · rw [if_pos hb] at g
        have low : ∀ {Dn : L2.St → Hp → Prop} {ρ2 : Ev} {S2 : Store}, (∀ π' H' σ, Ext π H π' H' → RS X.K N π' S2 H' → RE X.K N π' H' ρ2 σ → Dn σ H') → ∀ π' H' σ, Ext π H π' H' → RS X.K N π' S2 H' → RE X.K N π' H' ρ2 σ → H' z = none → Dn σ (upd H' z (exE cls d z)) := fun {Dn ρ2 S2} g π' H' σ x q e hz' => by
          obtain ⟨y1, y2⟩ := q.aside (u := exE cls d z) hz'
          exact g _ _ _ (x.trans y1) y2 (e.ext y1)
        cases e : evalS P (callN P n) b ρ S with
        | nx ρ2 S2 => rw [e] at g; exact low g
        | bk ρ2 S2 => rw [e] at g; exact low g
        | ct ρ2 S2 => rw [e] at g; exact low g
        | rt v S2 => rw [e] at g; exact g
        | exc c2 ds2 ρ2 S2 => rw [e] at g; exact g.elim
        | bad => rw [e] at g; exact g.elim
      · rw [if_neg (by rw [hb]; exact Bool.false_ne_true)] at g
        exact ih h5 g
    · rename_i h' i j i' r x p nm y p1 nm' p2 p3 p' hds' q
      cases q
      simp only [Bool.and_eq_true, decide_eq_true_eq, Bool.not_eq_true', decide_eq_false_iff_not] at h
      obtain ⟨⟨⟨⟨⟨⟨⟨⟨⟨⟨⟨⟨rfl, h1⟩, h2⟩, h3⟩, rfl⟩, h5⟩, h6⟩, rfl⟩, h8⟩, h9⟩, h10⟩, h11⟩, h12⟩ := h
      intro g
      simp only [evalH, handle] at g
      refine ⟨P.sub c h', by rw [r2]; exact cb.ce.md.fx.xs c h' r1 h1, fun hb z hz => ?_, fun hb => ?_⟩
      · rw [if_pos hb] at g
        split at g
        · exact g.elim
        · rename_i ρ1 hp
          unfold Ev.put at hp
          split at hp
          · rename_i hi
            cases hp
            have hiσ : i' < σ.length := by rw [← hE.len]; exact hi
            have ev : evalS P (callN P n) (.cons (.asg (.name j) (.var i')) .nil) (ρ.set i' (some (.exc c ds))) S = if j < ρ.length then .nx ((ρ.set i' (some (.exc c ds))).set j (some (.exc c ds))) S else .bad := by
              simp only [evalS, evalE, List.getElem?_set_self hi, evalT, Ev.put, R.toF, List.length_set]
              by_cases hj : j < ρ.length
              · simp only [if_pos hj, F.bind]
              · simp only [if_neg hj, F.bind]
            rw [ev] at g
            split at g
            · rename_i ρ2 S2 e2
              split at e2
              · cases e2
                refine ⟨.ref z, by show (σ.set i' (some (V.ref z)))[i']? = _; rw [List.getElem?_set_self hiσ], fun hz' => ?_⟩
                obtain ⟨y1, y2⟩ := hS.aside (u := exE cls d z) hz
                have rv : RV X.K N π (upd H z (exE cls d z)) (.exc c ds) (.ref z) := by
                  rcases r3 with ⟨rfl, rfl⟩ | ⟨v, xv, a, rfl, rfl, ha, rv⟩
                  · exact .exc0 r1 (by rw [r2]; exact upd_same)
                  · exact .exc1 r1 (by rw [r2]; exact upd_same) (by rw [upd_ne (ne_of_none ha hz)]; exact ha) (rv.ext y1)
                exact g _ _ _ y1 y2 ((((hE.ext y1).set rv).set rv).clr i')
              · cases e2
            · rename_i e2; split at e2 <;> cases e2
            · rename_i e2; split at e2 <;> cases e2
            · rename_i e2; split at e2 <;> cases e2
            · exact g.elim
          · cases hp
      · rw [if_neg (by rw [hb]; exact Bool.false_ne_true)] at g
        exact ih h12 g
    · cases h
theorem ss_try (cb : CB P N n s X W) {b hs o : S} {body orelse : List Stmt} {h₀ : ExceptHandler} {hds : List ExceptHandler}
    (hb : ∀ (W' : WX) (pn : List (Addr × Obj)) (xe : Value → Shared → Prop), CB P N n s (X.tr pn xe) W' → PSs (X.tr pn xe) body (tSs P (callN P n) N X W' b))
    (ho : PSs X orelse (tSs P (callN P n) N X W o)) (hh : clB N P s hs (h₀ :: hds) = true) : PS X (.Try body (h₀ :: hds) orelse [] pos) (tSs P (callN P n) N X W (.try_ b hs o)) := by
  have ce := cb.ce
  refine PS.mono (ps_tryG ho cb.ex0 cb.stk cb.fr (by rw [ce.hN]; exact ce.nd) ce.tk (fun W' pn xe tk own => hb W' pn xe ⟨⟨ce.hN, ce.nd, ce.hsc, ce.fn, ce.calm, ce.room, tk, ce.md⟩, own, cb.stk, cb.fr, cb.ex0, cb.blk⟩) (cl_ok cb hh)) fun D σ H ⟨π, S, ρ, hS, hE, g⟩ => ⟨π, S, ρ, hS, hE, ?_⟩
  simp only [evalS] at g
  cases e : evalS P (callN P n) b ρ S with
  | nx ρ1 S1 =>
    rw [e] at g
    exact fun π' H' σ' x q r => ⟨π', S1, ρ1, q, r, GF.ext x g⟩
  | exc c ds ρ1 S1 =>
    rw [e] at g
    exact fun π' H' σ' x q r cls d rx => cl_w cb rfl q r rx hh (GF.ext x g)
  | rt v S1 => rw [e] at g; exact g
  | bk ρ1 S1 => rw [e] at g; exact g
  | ct ρ1 S1 => rw [e] at g; exact g
  | bad => rw [e] at g; exact g.elim
end
end MP
/-! Exceptions made with a line. -/
namespace MP
open PySem L2 PySem.W PySem.Calls PyProof.Rows PySem.HandSPX
section
variable {X : Cx} {C fI : Addr} {fd : FuncData} {ps : List Str} {x : Str} {e : Expr} {ta : TA} {p pos : Pos}
/-- C(e), C's own __init__ keeping what spO says -/
def tMkL (C : Addr) (ta : TA) : L2.St → Hp → XK → Prop := fun σ H Q => ta σ H fun vs H1 => ∃ y, vs = [y] ∧ ∀ d H2, H1 d = none → (∀ b o, H1 b = some o → H2 b = some o) → (∀ b, b ≠ d → H2 b = H1 b) → H2 d = some (.xd [("line", y)]) → Q (.ref C) (some d) H2
theorem pmk_line {CX : CXT} (T : OexC X.K C) (iC : findIn X.K (.ref C) "__init__" = some (some (.ref fI))) (tI : typeIn X.K (.ref fI) = some (.type "function")) (F1 : FnOk X.prog X.w X.K X.mg X.base CX 1 fI fd ps (spO X.K C)) (hr : Room 2 X.A) (hb : Binds X.K fd ps []) (hx : Passes CX X (fun _ _ _ => False))
    (hg : Gl X x) (hm : X.mg x = some (.ref C)) (ha : PA X [e] ta) (hdb : (x == ("__debug__" : Str)) = false) (he : starEach [e] X.env = (false, eval e X.env) :: starEach [] X.env) : L2N.PMk X (.Call (.Name x p) [e] [] pos) (tMkL C ta) := by
  intro pins s σ H Q I h
  obtain ⟨nm, q, N, bs, bm, sn, sub, ab, col, dd, k0, k1, k2, k3, k5, hC, hbm⟩ := T.cls
  refine wpAny_Call_Name_kw (ld_glob I hg hm ?_ hdb)
  refine callWith_K (h₀ := X.base) I.ok.mod.kin T.kC (thn (ha.run pos pins s σ H _ I h) fun us s1 ⟨vs, H1, I1, r1, y, ev, q1⟩ => ⟨I1.kIn, ?_⟩) he rfl
  subst ev
  show wpAny _ _ (call (.ref C) us) _ _ _
  obtain ⟨hp, g, dr, tk, os⟩ := s1
  have zs : hp.objs.size ≤ (hp.objs.size + 1) := Nat.le_succ _
  have zn : H1 (hp.objs.size + 1) = none := I1.hok.fresh zs
  have keep : ∀ b o, hp.get? b = some o → ((hp.push (kdv_tup us)).push (excO C hp.objs.size)).get? b = some o := fun b o e => Heap.get?_push_of_some _ (Heap.get?_push_of_some _ e)
  have zo : ((hp.push (kdv_tup us)).push (excO C hp.objs.size)).get? (hp.objs.size + 1) = some (excO C hp.objs.size) := by heap_get
  have J : Inv X pins σ (upd H1 (hp.objs.size + 1) (exo (hp.objs.size + 1) C none)) ⟨(hp.push (kdv_tup us)).push (excO C hp.objs.size), g, dr, tk, os⟩ := I1.laid (t' := tk) (a := (hp.objs.size + 1)) (o := exo (hp.objs.size + 1) C none) (h' := (hp.push (kdv_tup us)).push (excO C hp.objs.size)) keep zs (exo_ok zo)
  have rr : Vals [V.ref (hp.objs.size + 1), y] (Value.ref (hp.objs.size + 1) :: us) := .cons rfl r1
  have wish : spO X.K C [V.ref (hp.objs.size + 1), y] (upd H1 (hp.objs.size + 1) (exo (hp.objs.size + 1) C none)) (fun v H2 => v = .non ∧ ∃ d, H1 d = none ∧ d ≠ (hp.objs.size + 1) ∧ H2 = upd (upd (upd H1 (hp.objs.size + 1) (exo (hp.objs.size + 1) C none)) d (exd d [("line", y)])) (hp.objs.size + 1) (exo (hp.objs.size + 1) C (some d))) (fun _ _ _ => False) :=
    ⟨(hp.objs.size + 1), y, rfl, upd_same, fun d h1 h2 => ⟨rfl, d, by rwa [upd_ne h2] at h1, h2, rfl⟩⟩
  have ll : (Value.ref (hp.objs.size + 1) :: us).length = ps.length := rr.length.symm.trans (F1.len _ _ _ _ wish)
  have lu : us.length ≤ sizeLine := by
    have := r1.length
    rw [← this, sizeLine_eq]
    show 1 ≤ 16777216
    decide
  refine wpAny_call (call_own F.excBase_ValueError (fun Y => refsVE_contains Y bm hbm) (I1.kIn _ _ hC) (looks_findIn I1.kIn iC) (fun self => bind_fn I1.kIn self tI) lu
    (codeAny_mono (F1.run _ X.stack _ _ ⟨Value.ref (hp.objs.size + 1) :: us, []⟩ (Value.ref (hp.objs.size + 1) :: us) _ _ (fun _ _ _ => False) (hr.make C us []) (J.env0.make C us []) (by have b := hb _ (Value.ref (hp.objs.size + 1) :: us) J.kIn (by rw [List.append_nil]; exact ll); rwa [List.append_nil] at b) rr wish) fun r s' out => ?_))
  cases r with
  | error er => exact hx pins σ _ _ er s' J out
  | ok fl =>
    cases fl with
    | ret u =>
      obtain ⟨v, H2, os2, bare2, un2, hok2, rv, ev, d, hd, hdz, rfl⟩ := out
      subst ev
      obtain ⟨h2, g2, d2, t2, os'⟩ := s'
      refine ⟨rv, ?_⟩
      have ea : upd (upd (upd H1 (hp.objs.size + 1) (exo (hp.objs.size + 1) C none)) d (exd d [("line", y)])) (hp.objs.size + 1) (exo (hp.objs.size + 1) C (some d)) (hp.objs.size + 1) = some (exo (hp.objs.size + 1) C (some d)) := upd_same
      have ed : upd (upd (upd H1 (hp.objs.size + 1) (exo (hp.objs.size + 1) C none)) d (exd d [("line", y)])) (hp.objs.size + 1) (exo (hp.objs.size + 1) C (some d)) d = some (exd d [("line", y)]) := by rw [upd_ne hdz, upd_same]
      obtain ⟨t0, G, J3, kG, ge, ho, na⟩ := mk_end0 (d2 := d2) (t2 := t2) I1 zs keep un2 hok2 os2 bare2 ea ed hd
      refine ⟨(hp.objs.size + 1), _, _, ⟨G, g2, d2, t2, os'⟩, _, .ref C, some d, rfl, J3, kG, ge, ho, ⟨rfl, rfl, fun vs q => by cases q; rfl⟩, rfl, rfl, na, rfl, bare2, raises_own T.exC T.tyC, q1 d _ hd (fun b o hb => ?_) (fun b hb => ?_) upd_same⟩
      · have nz : b ≠ (hp.objs.size + 1) := ne_of_none hb zn
        have nd : b ≠ d := ne_of_none hb hd
        rw [upd_ne nd, del_ne nz, upd_ne nz, upd_ne nd, upd_ne nz]
        exact hb
      · rw [upd_ne hb]
        by_cases hz : b = (hp.objs.size + 1)
        · rw [hz, del_same, zn]
        · rw [del_ne hz, upd_ne hz, upd_ne hb, upd_ne hz]
    | next => exact out.elim
    | brk => exact out.elim
    | cont => exact out.elim
end
/-! ### the __init__ of such a class -/
section
variable {X : Cx} {e : Expr} {es : List Expr} {ta : TA} {p1 p2 pos : Pos} {b : Str} {B : Addr} {pl : Sem Bool}
/-- B.__init__(self, ..), B an own class whose __init__ is ValueError's -/
theorem pe_baseinit (hg : Gl X b) (hm : X.mg b = some (.ref B)) (hB : Bi X.K B (.builtin "ValueError.__init__")) (hd : (b == ("__debug__" : Str)) = false) (ha : PA X (e :: es) ta)
    (he : starEach (e :: es) X.env = (false, eval e X.env) :: starEach es X.env) (hpl : (backTo pos (starEach es X.env)).any (·.1) = false)
    (hc : eval (.Call (.Attribute (.Name b p1) "__init__" p2) (e :: es) [] pos) X.env = (do
      let ov ← eval (.Name b p1) X.env
      standAt p2.atName
      let (f, first) ← holding [ov] (getMethod ov "__init__" pl)
      callWith pos f first (backTo pos (starEach (e :: es) X.env)) (backToKw pos (keywordEach [] X.env)))) :
    PE X (.Call (.Attribute (.Name b p1) "__init__" p2) (e :: es) [] pos) (tVeI X.K ta) := by
  refine ⟨fun pins s σ H Q I h => ?_⟩
  refine methodCall_KW (ld_glob I hg hm ?_ hd) hc
  refine method_cls I.kIn hB.sp (cls_value I.kIn hB.rd hB.fi hB.hi ?_)
  show wpAny _ _ (callWith pos (Value.builtin "ValueError.__init__") [] (backTo pos (starEach (e :: es) X.env)) []) _ _ _
  refine callWith_method1 (thn (ha.run pos pins _ σ H _ (I.tok _) h) fun us s1 ⟨vs, H1, I1, r1, a, C, ws, ev, hl, T, ea, q⟩ => ?_) he hpl
  subst ev
  cases r1 with
  | @cons _ u0 _ ur ra rw' =>
    obtain rfl : u0 = Value.ref a := ra
    refine oinit_ok T I1 ea ?_ fun s' J => ⟨.non, H1, J, rfl, q⟩
    rw [← Paired.length rw', sizeLine_eq]
    omega
end
/-- def __init__(self, x): B.__init__(self, '..'); self.line = x -/
def oeB (N : Nms) (s : Sc) (bn : Str) : List Stmt → Bool
  | [.Expr (.Call (.Attribute (.Name b _) m q) [.Name x0 _, .Constant (.str _) _ _] [] p) _, .Assign [.Attribute (.Name x1 _) f _] (.Name x2 _) _] =>
    decide (b = bn) && decide (m = "__init__") && decide (f = "line") && decide (s.N = [x0, x2]) && decide (x1 = x0) && visB s.sc x0 && okName x0 && visB s.sc x2 && okName x2 && glB s.sc b && okName b && (q.endLine == p.line)
  | _ => false
theorem oe_ok {P : Prog} {N : Nms} {Pr : Program} {w : World} {K : PySem.W.Frag} {mg : Str → Option Value} {base : Heap} {x qual : Str} {params : Arguments} {body : List Stmt} {scope : Scope} {a : Addr} {fd : FuncData} {Ns ps : List Str} {bn : Str} {B C : Addr} (F : FunD K x qual params body scope [] [] a fd) (S : FnScope Ns ps scope) (hp : ps.length = 2) (T : OexC K C)
    (hl : PySem.W.findIn K (.ref C) "line" = some none) (hB : Bi K B (.builtin "ValueError.__init__")) (hm : mg bn = some (.ref B)) (h : oeB N ⟨Ns, scope, false⟩ bn body = true) : FnOk Pr w K mg base (L2N.CX Pr w) 1 a fd ps (spO K C) := by
  refine F.ok (k := 0) S (fun vs H Q E hs => ?_) fun cdv A outer s0 H vs Q E hr hs => ?_
  · obtain ⟨z, y, rfl, _⟩ := hs
    rw [hp]; rfl
  · unfold oeB at h
    split at h
    · rename_i b pb m q x0 q0 z j q1 p p' x1 q2 f q3 x2 q4 p5
      simp only [Bool.and_eq_true, decide_eq_true_eq] at h
      obtain ⟨⟨⟨⟨⟨⟨⟨⟨⟨⟨⟨rfl, rfl⟩, rfl⟩, hN⟩, rfl⟩, h1⟩, h2⟩, h3⟩, h4⟩, h5⟩, h6⟩, h7⟩ := h
      have hN : Ns = [x1, x2] := hN
      subst hN
      obtain ⟨a', y, rfl, ha, hq⟩ := hs
      let X := cxOf (L2N.CX Pr w) Pr w K mg base [x1, x2] qual scope a cdv A outer s0 H E
      have v0 : ∀ {p : Pos}, PE X (.Name x1 p) (tVar 0) := fun {p} => pe_var (X := X) (i := 0) rfl (vis_of h1) (okName_of h2).1 (okName_of h2).2.1
      have v1 : ∀ {p : Pos}, PE X (.Name x2 p) (tVar 1) := fun {p} => pe_var (X := X) (i := 1) rfl (vis_of h3) (okName_of h4).1 (okName_of h4).2.1
      have st : ∀ {es : List Expr} {p : Pos}, starEach (.Name x1 p :: es) X.env = (false, eval (.Name x1 p) X.env) :: starEach es X.env := fun {es p} => pl_star rfl es X.env
      refine ⟨_, pss_cons (ps_expr (pe_baseinit (X := X) (gl_of rfl h5) hm hB (okName_of h6).1 (pa_cons v0 (pa_cons (pe_str (X := X)) pa_nil rfl) st) st (backTo_nostar (es := [.Constant (.str z) j q1]) rfl p X.env) (meth_eq rfl rfl (by show 2 < 30; decide) h7)) (noComp_sw rfl _ _ _)) (pss_one (ps_ost v0 v1 rfl)), ?_⟩
      refine ⟨.ref a', rfl, a', C, [.str z], rfl, by show 1 ≤ 1000; decide, T, ha, ?_⟩
      exact ⟨y, rfl, .ref a', rfl, a', C, rfl, T, hl, .inl ⟨ha, fun dx h1 h2 => hq dx h1 h2⟩⟩
    · cases h
section
variable {P : Prog} {N : Nms} {n : Nat} {s : Sc} {X : Cx} {W : WX} {pos pos' p2 p3 apos : Pos} {e : E} {ex : Expr}
/-- raise C(e) -/
theorem ss_raiseL (cx : CE P N n s X W) {z : Nat} (hn : e.isNo = false) (hx : N.isO z = true) (he : PE X ex (tEv P (callN P n) N X W e)) (hp : pl ex = true) (hg : glB s.sc (N.cls z) = true) (ho : okName (N.cls z) = true) : PS X (.Raise (some (.Call (.Name (N.cls z) p2) [ex] [] pos')) none pos) (tS X.K N W (evalS P (callN P n) (.raise z e))) := by
  obtain ⟨h0, fI, fd, ps, T, iC, tI, F1, hb⟩ := cx.md.own z hx
  obtain ⟨k1, _⟩ := cx.md.fx.xc z h0
  refine PS.mono (L2N.ps_raise cx.calm cx.tk (pmk_line T iC tI F1 (cx.room.mono (by omega)) hb (L2N.passes_call cx.tk fun _ _ _ _ q => q.elim) (gl_of cx.hsc hg) k1 (pa_cons he pa_nil (pl_star hp [] X.env)) (okName_of ho).1 (pl_star hp [] X.env))) fun D σ H ⟨π, S, ρ, hS, hE, g⟩ => ?_
  simp only [evalS, hn, Bool.false_eq_true, if_false] at g
  refine ⟨π, S, ρ, hS, hE, g.toF hE fun v S1 π1 H1 x1 q1 g1 x rx => ?_⟩
  refine ⟨x, rfl, fun d H2 hd k1' k2' k3' => ?_⟩
  have eH : H2 = upd H1 d (.xd [("line", x)]) := by
    funext b
    by_cases hb : b = d
    · rw [hb, upd_same, k3']
    · rw [upd_ne hb, k2' b hb]
  obtain ⟨y1, y2⟩ := q1.aside (u := .xd [("line", x)]) hd
  rw [← eH] at y1 y2
  exact g1 π1 H2 σ y1 y2 ((hE.ext x1).ext y1) _ _ ⟨h0, rfl, .inr ⟨v, x, d, rfl, rfl, k3', rx.ext y1⟩⟩
end
end MP
/-! isinstance of own classes. -/
namespace MP
open PySem L2
/-- an instance of an own class, or an exception that was caught -/
def OwnAt (K : PySem.W.Frag) (H : Hp) (a C : Addr) : Prop := (∃ dx fs, H a = some (.ins C dx fs) ∧ C8.InsC K C) ∨ (∃ d, H a = some (exE (.ref C) d a) ∧ ExcC K C ∧ (d = none ∨ ∃ dd fs, d = some dd ∧ H dd = some (.xd fs)))
def rIsC (K : PySem.W.Frag) : List V → Hp → VK → Prop := fun xs H Q => ∃ (a C : Addr) (c : V) (cv : Value) (b : Bool), xs = [.ref a, c] ∧ (∀ u, RelV c u → u = cv) ∧ OwnAt K H a C ∧ PySem.W.kitOne K (.ref C) cv = some b ∧ Q (.bl b) H
theorem call_isX {X : Cx} : CallR X (.builtin "isinstance") (rIsC X.K) := by
  intro pins s σ H xs us Q I r h
  obtain ⟨a, C, c, cv, b, rfl, hc, o, e, q⟩ := h
  obtain ⟨u, w', rfl, ru, rw'⟩ := vals2 r
  obtain rfl := hc _ rw'
  rcases o with ⟨dx, fs, ha, k⟩ | ⟨d, ha, k, hd⟩
  · exact isinst_ok I ru (TyOf.ins ha k.cl k.ha k.hn k.htk k.hm) e fun tk => ⟨.bl b, H, I.tok _, rfl, q⟩
  · obtain rfl : u = Value.ref a := ru
    obtain ⟨⟨oe, vs, e1, e2, e3, e4⟩, _⟩ : ObjOk X.prog X.w H s.heap a (.ext fun h => ∃ (oe : Obj) (vs : Array Value), h.get? a = some oe ∧ oe.cls = .ref C ∧ oe.dict = d ∧ oe.data = .fields vs) := I.hok a _ ha
    have nc : PySem.W.notCls oe = true := by unfold PySem.W.notCls; rw [e4] <;> rfl
    have J : ∃ od, PySem.W.InstAt s.heap a oe C od := by
      rcases hd with rfl | ⟨dd, fs, rfl, hd⟩
      · exact ⟨none, e1, e2, nc, by rw [e3]; exact trivial⟩
      · obtain ⟨mA, ⟨o, _, _, ho, _⟩, _⟩ : ObjOk X.prog X.w H s.heap dd (.xd fs) := I.hok dd _ hd
        exact ⟨some o, e1, e2, nc, by rw [e3]; exact ho⟩
    obtain ⟨od, J⟩ := J
    have hcl : (PySem.W.clsIn X.K C).isSome = true := by
      have := k.hd
      unfold PySem.W.hasDictIn at this
      cases z : PySem.W.clsIn X.K C with
      | none => rw [z] at this; cases this
      | some _ => rfl
    exact PySem.W.kia_one (PySem.W.kitx_exc hcl k.hg k.hk k.hs k.ha k.hn k.ht k.hm) I.kIn J e (fun z => nomatch z) fun tk => ⟨.bl b, H, I.kept (t' := tk) fun _ _ z => z, rfl, q⟩
section
variable {P : Prog} {cf : Nat → List Val → Store → R Val} {N : Nms} {n : Nat} {s : Sc} {X : Cx} {W : WX} {pos pos' p2 p3 : Pos} {e1 : Expr} {a : E}
theorem own_at (cx : CE P N n s X W) {π : List Addr} {H : Hp} {S : Store} {v : Val} {x : V} (hS : RS X.K N π S H) (r : RV X.K N π H v x) : (∀ l c fs, v = .ref l → S[l]? = some (.ins c fs) → N.isC c = true ∧ ∃ a, x = .ref a ∧ OwnAt X.K H a (He.ga X.K (N.cls c))) ∧
    (∀ c ds, v = .exc c ds → N.isE c = true ∧ ∃ a, x = .ref a ∧ OwnAt X.K H a (He.ga X.K (N.cls c))) := by
  cases r with
  | @ref l p ha =>
    refine ⟨fun l' c fs e h => ?_, fun c ds e => by cases e⟩
    cases e
    obtain ⟨dx, gs, h1, h2, h3, h4⟩ := hS.at_ l p _ ha h
    exact ⟨h3, p, rfl, .inl ⟨dx, gs, h1, (cx.md.fx.ic c h3).1⟩⟩
  | @exc0 c p h0 h1 =>
    refine ⟨fun l' c fs e => (nomatch e), fun c ds e => ?_⟩
    cases e
    exact ⟨h0, p, rfl, .inr ⟨none, h1, (cx.md.fx.xc c h0).2.1, .inl rfl⟩⟩
  | @exc1 c p d v x h0 h1 h2 h3 =>
    refine ⟨fun l' c fs e => (nomatch e), fun c ds e => ?_⟩
    cases e
    exact ⟨h0, p, rfl, .inr ⟨some d, h1, (cx.md.fx.xc c h0).2.1, .inr ⟨d, _, rfl, h2⟩⟩⟩
  | _ => exact ⟨fun _ _ _ e => (nomatch e), fun _ _ e => nomatch e⟩
theorem s_isCls (cx : CE P N n s X W) {ty : Ty} {y : Str} (ha : PE X e1 (tEv P cf N X W a)) (hp : pl e1 = true) (hg : glB s.sc "isinstance" = true) (hf : N.frees.contains "isinstance" = true) (hgy : glB s.sc y = true) (hoy : okName y = true)
    (ht : (∃ h, ty = .cls h ∧ y = N.cls h ∧ (N.isC h = true ∨ N.isE h = true)) ∨ (ty = .verr ∧ y = "ValueError" ∧ N.frees.contains y = true)) : PE X (.Call (.Name "isinstance" p2) [e1, .Name y p3] [] pos) (tEv P cf N X W (.isinst a ty)) := by
  have run : ∀ {c : V} {cv : Value}, PE X (.Name y p3) (tC c) → (∀ u, RelV c u → u = cv) → (∀ {π : List Addr} {H : Hp} {S : Store} {v : Val} {x : V} {b : Bool}, RS X.K N π S H → RV X.K N π H v x → isTy P S ty v = some b → ∃ p C, x = .ref p ∧ OwnAt X.K H p C ∧ PySem.W.kitOne X.K (.ref C) cv = some b) → PE X (.Call (.Name "isinstance" p2) [e1, .Name y p3] [] pos) (tEv P cf N X W (.isinst a ty)) := fun {c cv} h2 hc key => by
    refine PE.mono (pe_callB call_isX (gl_of cx.hsc hg) (cx.md.free _ hf) PyProof.Rows.boot_isinstance (pa_cons ha (pa_cons h2 pa_nil rfl) (pl_star hp _ X.env)) (by decide +kernel) (by decide +kernel) (pl_star hp _ X.env) (no_star1 (e1 := .Name y p3) rfl pos X.env)) fun σ H Q ⟨π, S, ρ, hS, hE, g⟩ => ⟨π, S, ρ, hS, hE, ?_⟩
    simp only [evalE] at g
    refine g.seq fun v S1 π1 H1 x1 q1 g1 x rx => ?_
    obtain ⟨z, e, q⟩ := G.ofO g1 q1
    obtain ⟨bb, e', rfl⟩ := Option.map_eq_some_iff.mp e
    obtain ⟨p, C, rfl, h1, h2⟩ := key q1 rx e'
    exact ⟨p, C, c, cv, bb, rfl, hc, h1, h2, q _ (.bl _)⟩
  rcases ht with ⟨h, rfl, rfl, hh⟩ | ⟨rfl, rfl, hf'⟩
  · have gm : X.mg (N.cls h) = some (.ref (He.ga X.K (N.cls h))) := by
      rcases hh with q | q
      · exact (cx.md.fx.ic h q).2
      · exact (cx.md.fx.xc h q).1
    refine run (c := .ref (He.ga X.K (N.cls h))) (cv := .ref (He.ga X.K (N.cls h))) (pe_glob (gl_of cx.hsc hgy) gm rfl (okName_of hoy).1) (fun u e => e) fun {π H S v x b} hS r e => ?_
    obtain ⟨o1, o2⟩ := own_at cx hS r
    cases v with
    | exc d ds =>
      simp only [isTy] at e
      cases e
      obtain ⟨i1, p, rfl, o⟩ := o2 d ds rfl
      exact ⟨p, _, rfl, o, cx.md.fx.is d h (.inr i1) hh⟩
    | ref l =>
      simp only [isTy] at e
      split at e
      · rename_i d fs hl
        cases e
        obtain ⟨i1, p, rfl, o⟩ := o1 l d fs rfl hl
        exact ⟨p, _, rfl, o, cx.md.fx.is d h (.inl i1) hh⟩
      · cases e
    | _ => simp only [isTy] at e; cases e
  · refine run (c := .ty "ValueError") (cv := .type "ValueError") (pe_bltn (gl_of cx.hsc hgy) (cx.md.free _ hf') (by decide +kernel) rfl (okName_of hoy).2.2 (okName_of hoy).1) (fun u e => e) fun {π H S v x b} hS r e => ?_
    obtain ⟨o1, o2⟩ := own_at cx hS r
    cases v with
    | exc d ds =>
      simp only [isTy] at e
      cases e
      obtain ⟨i1, p, rfl, o⟩ := o2 d ds rfl
      exact ⟨p, _, rfl, o, (cx.md.fx.xc d i1).2.2.2⟩
    | _ => simp only [isTy] at e; cases e
end
end MP
/-! Methods of dicts; more of texts. -/
namespace MP
open PySem L2
section
variable {X : Cx}
/-- d.get(None): no key of ints and texts is None -/
theorem d_get_none {pins : List (Addr × PySem.Obj)} {σ : L2.St} {H : Hp} {s : Shared} {a : Addr} {A : Around} {E : Value → Shared → Prop} {Q : Value → Shared → Prop} {kvs : List (L2.Key × V)} (I : Inv X pins σ H s) (e : Rd H a (.dK kvs)) (h : ∀ s', Inv X pins σ H s' → Q .none s') :
    wpAny (model X.prog X.w) A (call (.builtin "dict.get") [.ref a, .none]) Q E s := by
  obtain ⟨z, hd, vs, rel, dd⟩ := dk_rd I.hok e
  have hn : (leafKind X.prog X.w).is Leaf.none Value.none = true := rfl
  obtain ⟨o, es, ep, ho, hc, hdat, hk, hp, hnd⟩ := dd
  have hk2 : KeysOf (leafKind X.prog X.w) es := fun x hx => by
    obtain ⟨k, h1, h2⟩ := hk x hx
    rcases keyIs_shape (show keyIs k x.key = true from h1) with ⟨i, t, rfl, hv⟩ | ⟨y, t, rfl, hv⟩
    · refine ⟨Leaf.num i, ?_, h2⟩
      rw [hv]; exact decide_eq_true rfl
    · refine ⟨Leaf.text y, ?_, h2⟩
      rw [hv]
      show Value.isStrOf y (.str y t) = true
      simp [Value.isStrOf]
  have dm : s.heap.MapOf (leafKind X.prog X.w) a (fun k => findBy (leafKind X.prog X.w).is es k) := ⟨o, es, ep, ho, hc, hdat, hk2, fun _ => rfl⟩
  have hnone : findBy (leafKind X.prog X.w).is es Leaf.none = none := by
    unfold findBy
    have : (es.find? fun e => (leafKind X.prog X.w).is Leaf.none e.key) = none := by
      rw [Array.find?_eq_none]
      intro x hx
      obtain ⟨k, h1, h2⟩ := hk x hx
      rcases keyIs_shape (show keyIs k x.key = true from h1) with ⟨i, t, rfl, hv⟩ | ⟨y, t, rfl, hv⟩
      · rw [hv]; exact Bool.false_ne_true
      · rw [hv]; exact Bool.false_ne_true
    rw [this]; rfl
  refine call_meetsIn PySem.F.slot_dict_get dm.typeIs PySem.F.entry_dict_get (PySem.F.args_dict_get_2 _ _) (meets_dict_get (leafKind X.prog X.w) a hn hd) ⟨_, dm, ?_⟩
  rw [hnone]
  exact h _ (I.tok _)
theorem mt_dget1 (hu : X.A.units + 2 < cLine) : MtR X "dict.get" (fun x xs H Q => (∃ a y o, x = .ref a ∧ xs = [y] ∧ DGet H a y o ∧ Q (o.getD .non) H) ∨ (∃ a y z o, x = .ref a ∧ xs = [y, z] ∧ DGet H a y o ∧ Q (o.getD z) H) ∨ ∃ a kvs, x = .ref a ∧ xs = [.non] ∧ Rd H a (.dK kvs) ∧ Q .non H) := by
  intro pins s σ H x xs v us Q I rx rs h
  rcases h with ⟨a, y, o, rfl, rfl, g, q⟩ | ⟨a, y, z, o, rfl, rfl, g, q⟩ | ⟨a, kvs, rfl, rfl, g, q⟩
  · obtain rfl : v = Value.ref a := rx
    cases rs with
    | cons r1 rr =>
      cases rr
      exact d_get1 (by omega) I g r1 fun w' s' I' rw' => ⟨_, H, I', rw', q⟩
  · obtain rfl : v = Value.ref a := rx
    cases rs with
    | cons r1 rr =>
      cases rr with
      | cons r2 rr =>
        cases rr
        exact d_get2 (by omega) I g r1 r2 fun w' s' I' rw' => ⟨_, H, I', rw', q⟩
  · obtain rfl : v = Value.ref a := rx
    cases rs with
    | cons r1 rr =>
      cases rr
      rename_i u
      obtain rfl : u = Value.none := r1
      exact d_get_none I g fun s' I' => ⟨.non, H, I', rfl, q⟩
theorem mt_dpopk : MtR X "dict.pop" (fun x xs H Q => ∃ a kvs k v, x = .ref a ∧ xs = [kV k] ∧ H a = some (.dK kvs) ∧ valV kvs k = some v ∧ Q v (upd H a (.dK (dropK kvs k)))) := by
  intro pins s σ H x xs v us Q I rx rs h
  obtain ⟨a, kvs, k, v', rfl, rfl, e, l, q⟩ := h
  obtain rfl : v = Value.ref a := rx
  cases rs with
  | cons r1 rr =>
    cases rr
    exact d_pop I e r1 l (.inl rfl) fun w' s' I' rw' => ⟨v', _, I', rw', q⟩
theorem KV.merge {κ : Type} [DecidableEq κ] : ∀ {more : List (κ × V)} {ms : List (κ × Value)} {kvs : List (κ × V)} {vs : List (κ × Value)}, KV kvs vs → KV more ms → KV (more.foldl (fun acc p => putK acc p.1 p.2) kvs) (merged vs ms) := by
  intro more ms kvs vs r m
  unfold KV at m
  induction m generalizing kvs vs with
  | nil => exact r
  | @cons p q ps qs h t ih =>
    unfold merged
    rw [List.foldl_cons, List.foldl_cons]
    have := r.put p.1 h.2
    rw [← h.1]
    exact ih this
theorem mt_dupd : MtR X "dict.update" (fun x xs H Q => ∃ a b kvs more, x = .ref a ∧ xs = [.ref b] ∧ a ≠ b ∧ H a = some (.dK kvs) ∧ H b = some (.dK more) ∧ kvs.length + more.length ≤ LIM ∧ Q .non (upd H a (.dK (more.foldl (fun acc p => putK acc p.1 p.2) kvs)))) := by
  intro pins s σ H x xs v us Q I rx rs h
  obtain ⟨a, b, kvs, more, rfl, rfl, ne, ea, eb, hl, q⟩ := h
  obtain rfl : v = Value.ref a := rx
  cases rs with
  | @cons _ u _ _ r1 rr =>
    cases rr
    obtain rfl : u = Value.ref b := r1
    obtain ⟨z1, d1, vs1, rel1, dd1⟩ := dk_of I.hok ea
    obtain ⟨z2, d2, vs2, rel2, dd2⟩ := dk_of I.hok eb
    refine PySem.call_meetsIn PySem.F.slot_dict_update dd1.typeIs PySem.F.entry_dict_update (PySem.F.args_dict_update_2 _ _) (meets_dict_update (mixKind X.prog X.w) a b ne d2) ⟨vs1, vs2, dd1, dd2, ?_, fun h' m1 _ hs => ?_⟩
    · rw [← rel1.length, ← rel2.length]
      exact LIM_line hl
    · have he : ∃ q, h'.get? a = some q := let ⟨q, _, _, hq, _⟩ := m1; ⟨q, hq⟩
      have rel := KV.merge rel1 rel2
      have z : (more.foldl (fun acc p => putK acc p.1 p.2) kvs).length ≤ sizeLine := by
        have key : ∀ (ms : List (L2.Key × V)) (acc : List (L2.Key × V)), (ms.foldl (fun acc p => putK acc p.1 p.2) acc).length ≤ acc.length + ms.length := by
          intro ms
          induction ms with
          | nil => intro acc; exact Nat.le_refl _
          | cons p ps ih =>
            intro acc
            rw [List.foldl_cons]
            refine Nat.le_trans (ih _) ?_
            have : (putK acc p.1 p.2).length ≤ acc.length + 1 := by
              unfold putK
              split
              · rw [List.length_map]; omega
              · rw [List.length_append]; exact Nat.le_refl _
            rw [List.length_cons]
            omega
        exact Nat.le_trans (key more kvs) (LIM_line hl)
      exact ⟨.non, _, d_write (t' := s.toks) I (by rw [ea]; exact True.intro) hs he (dk_new z d1 rel m1), rfl, q⟩
theorem mt_sindex (hc : X.calm = true) : MtR X "str.index" (fun x xs H Q => ∃ a b k, x = .str a ∧ xs = [.str b] ∧ Txt.index0 a b = some k ∧ Q (.int (k : Nat)) H) := by
  intro pins s σ H x xs v us Q I rx rs h
  obtain ⟨a, b, k, rfl, rfl, e, q⟩ := h
  exact mt_indexX (W := fun _ _ _ _ => False) hc (fun u s' ⟨_, _, _, _, _, _, _, _, _, _, _, _, _, _, _, _, w⟩ => w.elim) pins s σ H _ _ v us Q I rx rs ⟨a, b, rfl, rfl, fun k' e' => by rw [e] at e'; cases e'; exact q, fun e' => by rw [e] at e'; cases e'⟩
end
section
variable {P : Prog} {cf : Nat → List Val → Store → R Val} {N : Nms} {n : Nat} {s : Sc} {X : Cx} {W : WX} {pos pos' p2 p3 apos : Pos} {e1 e2 e3 ex o : Expr} {a b c e eo : E} {es : List Expr} {f k : Nat}
theorem ty_d {K : PySem.W.Frag} {π : List Addr} {S : Store} {H : Hp} {v : Val} {x : V} {m : BM} (hm : m = .get1 ∨ m = .get2 ∨ m = .popk ∨ m = .update) (hS : RS K N π S H) (r : RV K N π H v x) (hb : bmPre S m v = true) : tyV K "dict" x H := by
  cases r with
  | @ref l p ha =>
    have : ∃ kvs, S[l]? = some (.dic false kvs) := by
      rcases hm with rfl | rfl | rfl | rfl <;> simp only [bmPre] at hb <;> split at hb <;> first | exact ⟨_, ‹_›⟩ | cases hb
    obtain ⟨kvs, hk⟩ := this
    obtain ⟨ys, h1, h2⟩ := hS.dic hk ha
    exact .inr (.inr (.inl ⟨rfl, .inl ⟨ys, h1⟩⟩))
  | _ => rcases hm with rfl | rfl | rfl | rfl <;> simp [bmPre] at hb
theorem getD_rv {K : PySem.W.Frag} {π : List Addr} {H : Hp} {kvs : List (Key × Val)} {ys : List (L2.Key × V)} {k : Key} {d : Val} {y : V} (h : RK K N π H kvs ys) (rd : RV K N π H d y) : RV K N π H ((dGet kvs k).getD d) ((valV ys k).getD y) := by
  obtain ⟨h1, h2⟩ := dGet_ok k h
  cases e : dGet kvs k with
  | none =>
    rw [e] at h1
    cases e' : valV ys k with
    | none => exact rd
    | some z => rw [e'] at h1; cases h1
  | some v =>
    obtain ⟨z, e', r⟩ := h2 v e
    rw [e']
    exact r
theorem s_get1 (cx : CE P N n s X W) (ho : PE X o (tEv P cf N X W eo)) (ha : PA X es (tRw P cf N X W e)) (hn : rowsOk es e) (hp : pl o = true) (hs : es.all pl = true) (hl : es.length < 30) (hln : (apos.endLine == pos.line) = true) : PE X (.Call (.Attribute o "get" apos) es [] pos) (tEv P cf N X W (.bm .get1 eo e)) := by
  refine s_bm PySem.F.plainAttrs_dict PySem.F.slot_dict_get PySem.F.type_dict_get (mt_dget1 (by have := cx.room.un; omega)) ho ha hn hp hs hl hln (fun {π S H v x} hS r hb => ty_d (by simp) hS r hb) (fun {π S H v x vs xs Q B} hS r rs g => ?_)
  cases r with
  | @ref l p ha =>
    cases rs with
    | nil => exact g.elim
    | cons r1 rr =>
      cases rr with
      | cons _ _ => exact g.elim
      | nil =>
        simp only [bmop] at g
        split at g
        · rename_i kvs k hk hv
          obtain ⟨ys, h1, h2⟩ := hS.dic hk ha
          obtain rfl := keyOf_ok r1 hv
          exact .inl ⟨p, _, _, rfl, rfl, DGet.k h1, G.ok g hS _ (getD_rv h2 .non)⟩
        · rename_i kvs hk hv
          obtain ⟨ys, h1, h2⟩ := hS.dic hk ha
          split at g
          · rename_i hnon
            cases r1 <;> first | (exact absurd hnon Bool.false_ne_true) | skip
            exact .inr (.inr ⟨p, _, rfl, rfl, .inl h1, G.ok g hS _ .non⟩)
          · exact g.elim
        · exact g.elim
  | _ => first | exact g.elim | (cases rs <;> first | exact g.elim | (rename_i r1 rr; cases rr <;> exact g.elim))
theorem s_get2 (cx : CE P N n s X W) (ho : PE X o (tEv P cf N X W eo)) (ha : PA X es (tRw P cf N X W e)) (hn : rowsOk es e) (hp : pl o = true) (hs : es.all pl = true) (hl : es.length < 30) (hln : (apos.endLine == pos.line) = true) : PE X (.Call (.Attribute o "get" apos) es [] pos) (tEv P cf N X W (.bm .get2 eo e)) := by
  refine s_bm PySem.F.plainAttrs_dict PySem.F.slot_dict_get PySem.F.type_dict_get (mt_dget1 (by have := cx.room.un; omega)) ho ha hn hp hs hl hln (fun {π S H v x} hS r hb => ty_d (by simp) hS r hb) (fun {π S H v x vs xs Q B} hS r rs g => ?_)
  cases r with
  | @ref l p ha =>
    cases rs with
    | nil => exact g.elim
    | cons r1 rr =>
      cases rr with
      | nil => exact g.elim
      | cons r2 rr =>
        cases rr with
        | cons _ _ => exact g.elim
        | nil =>
          simp only [bmop] at g
          split at g
          · rename_i kvs k hk hv
            obtain ⟨ys, h1, h2⟩ := hS.dic hk ha
            obtain rfl := keyOf_ok r1 hv
            exact .inr (.inl ⟨p, _, _, _, rfl, rfl, DGet.k h1, G.ok g hS _ (getD_rv h2 r2)⟩)
          · exact g.elim
  | _ => first | exact g.elim | (cases rs <;> first | exact g.elim | (rename_i r1 rr; cases rr <;> first | exact g.elim | (rename_i r2 rr; cases rr <;> exact g.elim)))
theorem RK.drop {K : PySem.W.Frag} {π : List Addr} {H : Hp} {kvs : List (Key × Val)} {ys : List (L2.Key × V)} (k : Key) (h : RK K N π H kvs ys) : RK K N π H (dDrop kvs k) (dropK ys k) := by
  unfold RK at h ⊢
  unfold dDrop dropK
  induction h with
  | nil => exact .nil
  | @cons p q ps qs h t ih =>
    rw [List.filter_cons, List.filter_cons, h.1]
    split
    · exact .cons h ih
    · exact ih
theorem s_popk (ho : PE X o (tEv P cf N X W eo)) (ha : PA X es (tRw P cf N X W e)) (hn : rowsOk es e) (hp : pl o = true) (hs : es.all pl = true) (hl : es.length < 30) (hln : (apos.endLine == pos.line) = true) : PE X (.Call (.Attribute o "pop" apos) es [] pos) (tEv P cf N X W (.bm .popk eo e)) := by
  refine s_bm PySem.F.plainAttrs_dict PySem.F.slot_dict_pop PySem.F.type_dict_pop mt_dpopk ho ha hn hp hs hl hln (fun {π S H v x} hS r hb => ty_d (by simp) hS r hb) (fun {π S H v x vs xs Q B} hS r rs g => ?_)
  cases r with
  | @ref l p ha =>
    cases rs with
    | nil => exact g.elim
    | cons r1 rr =>
      cases rr with
      | cons _ _ => exact g.elim
      | nil =>
        simp only [bmop] at g
        split at g
        · rename_i kvs k hk hv
          split at g
          · rename_i v hg
            obtain ⟨ys, h1, h2⟩ := hS.dic hk ha
            obtain rfl := keyOf_ok r1 hv
            obtain ⟨z, e', rz⟩ := (dGet_ok k h2).2 v hg
            obtain ⟨y1, y2⟩ := hS.put (o := .dic false (dDrop kvs k)) (u := .dK (dropK ys k)) ha ⟨_, h1, fun e => e⟩ fun {H'} x e => ⟨_, e, (RK.drop k h2).ext x⟩
            exact ⟨p, ys, k, z, rfl, rfl, h1, e', g _ _ y1 y2 _ (rz.ext y1)⟩
          · exact g.elim
        · exact g.elim
  | _ => first | exact g.elim | (cases rs <;> first | exact g.elim | (rename_i r1 rr; cases rr <;> exact g.elim))
theorem RK.merge {K : PySem.W.Frag} {π : List Addr} {H : Hp} {more : List (Key × Val)} {ms : List (L2.Key × V)} {kvs : List (Key × Val)} {ys : List (L2.Key × V)} (h : RK K N π H kvs ys) (m : RK K N π H more ms) :
    RK K N π H (more.foldl (fun d kv => dPut d kv.1 kv.2) kvs) (ms.foldl (fun acc p => putK acc p.1 p.2) ys) := by
  unfold RK at m
  induction m generalizing kvs ys with
  | nil => exact h
  | @cons p q ps qs hpq t ih =>
    rw [List.foldl_cons, List.foldl_cons, hpq.1]
    exact ih (RK.put hpq.2 h)
theorem s_update (ho : PE X o (tEv P cf N X W eo)) (ha : PA X es (tRw P cf N X W e)) (hn : rowsOk es e) (hp : pl o = true) (hs : es.all pl = true) (hl : es.length < 30) (hln : (apos.endLine == pos.line) = true) : PE X (.Call (.Attribute o "update" apos) es [] pos) (tEv P cf N X W (.bm .update eo e)) := by
  refine s_bm PySem.F.plainAttrs_dict PySem.F.slot_dict_update PySem.F.type_dict_update mt_dupd ho ha hn hp hs hl hln (fun {π S H v x} hS r hb => ty_d (by simp) hS r hb) (fun {π S H v x vs xs Q B} hS r rs g => ?_)
  cases r with
  | @ref l p ha =>
    cases rs with
    | nil => exact g.elim
    | cons r1 rr =>
      cases rr with
      | cons _ _ => cases r1 <;> exact g.elim
      | nil =>
        cases r1 with
        | @ref m q hb =>
          simp only [bmop] at g
          split at g
          · rename_i kvs more hk hm
            split at g
            · rename_i hc
              obtain ⟨ys, h1, h2⟩ := hS.dic hk ha
              obtain ⟨zs, h3, h4⟩ := hS.dic hm hb
              have ne : p ≠ q := fun e => hc.1 (nd_ix hS.nd ha (by rw [e]; exact hb))
              have rm := RK.merge h2 h4
              obtain ⟨y1, y2⟩ := hS.put (o := .dic false (more.foldl (fun d kv => dPut d kv.1 kv.2) kvs)) (u := .dK (zs.foldl (fun acc p => putK acc p.1 p.2) ys)) ha ⟨_, h1, fun e => e⟩ fun {H'} x e => ⟨_, e, rm.ext x⟩
              exact ⟨p, q, ys, zs, rfl, rfl, ne, h1, h3, by rw [← Paired.length h2, ← Paired.length h4]; exact hc.2, g _ _ y1 y2 _ .non⟩
            · exact g.elim
          · exact g.elim
        | _ => exact g.elim
  | _ => first | exact g.elim | (cases rs <;> first | exact g.elim | (rename_i r1 rr; cases rr <;> first | exact g.elim | (cases r1 <;> exact g.elim)))
theorem s_sindex (cx : CE P N n s X W) (ho : PE X o (tEv P cf N X W eo)) (ha : PA X es (tRw P cf N X W e)) (hn : rowsOk es e) (hp : pl o = true) (hs : es.all pl = true) (hl : es.length < 30) (hln : (apos.endLine == pos.line) = true) : PE X (.Call (.Attribute o "index" apos) es [] pos) (tEv P cf N X W (.bm .sindex eo e)) := by
  refine s_bm PySem.F.plainAttrs_str PySem.F.slot_str_index PySem.F.type_str_index (mt_sindex cx.calm) ho ha hn hp hs hl hln (fun {π S H v x} hS r hb => by cases r <;> simp only [bmPre] at hb <;> first | rfl | cases hb) (fun {π S H v x vs xs Q B} hS r rs g => ?_)
  cases r with
  | str z =>
    cases rs with
    | nil => exact g.elim
    | cons r1 rr =>
      cases rr with
      | cons _ _ => cases r1 <;> exact g.elim
      | nil =>
        cases r1 with
        | str y =>
          simp only [bmop] at g
          split at g
          · rename_i j hj
            exact ⟨_, _, j, rfl, rfl, hj, G.ok g hS _ (.int _)⟩
          · exact g.elim
        | _ => exact g.elim
  | _ => first | exact g.elim | (cases rs <;> first | exact g.elim | (rename_i rr; cases rr <;> exact g.elim))
theorem s_lstrip (ho : PE X o (tEv P cf N X W eo)) (ha : PA X es (tRw P cf N X W e)) (hn : rowsOk es e) (hp : pl o = true) (hs : es.all pl = true) (hl : es.length < 30) (hln : (apos.endLine == pos.line) = true) : PE X (.Call (.Attribute o "lstrip" apos) es [] pos) (tEv P cf N X W (.bm .lstrip eo e)) := by
  refine s_bm PySem.F.plainAttrs_str PySem.F.slot_str_lstrip PySem.F.type_str_lstrip mt_lstripChars ho ha hn hp hs hl hln (fun {π S H v x} hS r hb => by cases r <;> simp only [bmPre] at hb <;> first | rfl | cases hb) (fun {π S H v x vs xs Q B} hS r rs g => ?_)
  cases r with
  | str z =>
    cases rs with
    | nil => exact g.elim
    | cons r1 rr =>
      cases rr with
      | cons _ _ => cases r1 <;> exact g.elim
      | nil =>
        cases r1 with
        | str y =>
          simp only [bmop] at g
          split at g
          · rename_i hz
            exact ⟨_, _, rfl, rfl, LIM_line hz, G.ok g hS _ (.str _)⟩
          · exact g.elim
        | _ => exact g.elim
  | _ => first | exact g.elim | (cases rs <;> first | exact g.elim | (rename_i rr; cases rr <;> exact g.elim))
theorem s_partition (ho : PE X o (tEv P cf N X W eo)) (ha : PA X es (tRw P cf N X W e)) (hn : rowsOk es e) (hp : pl o = true) (hs : es.all pl = true) (hl : es.length < 30) (hln : (apos.endLine == pos.line) = true) : PE X (.Call (.Attribute o "partition" apos) es [] pos) (tEv P cf N X W (.bm .partition eo e)) := by
  refine s_bm PySem.F.plainAttrs_str PySem.F.slot_str_partition PySem.F.type_str_partition mt_partition ho ha hn hp hs hl hln (fun {π S H v x} hS r hb => by cases r <;> simp only [bmPre] at hb <;> first | rfl | cases hb) (fun {π S H v x vs xs Q B} hS r rs g => ?_)
  cases r with
  | str z =>
    cases rs with
    | nil => exact g.elim
    | cons r1 rr =>
      cases rr with
      | cons _ _ => cases r1 <;> exact g.elim
      | nil =>
        cases r1 with
        | str y =>
          simp only [bmop] at g
          split at g
          · rename_i hz
            refine ⟨_, _, rfl, rfl, by simpa using hz.2, LIM_line hz.1, fun q hq => ?_⟩
            obtain ⟨y1, y2⟩ := hS.aside (u := .tup [.str (Txt.partition z y).1, .str (Txt.partition z y).2.1, .str (Txt.partition z y).2.2]) hq
            exact g _ _ y1 y2 _ (.tup (.inl upd_same) (.cons (.str _) (.cons (.str _) (.cons (.str _) .nil))))
          · exact g.elim
        | _ => exact g.elim
  | _ => first | exact g.elim | (cases rs <;> first | exact g.elim | (rename_i rr; cases rr <;> exact g.elim))
theorem s_upper (ho : PE X o (tEv P cf N X W eo)) (ha : PA X es (tRw P cf N X W e)) (hn : rowsOk es e) (hp : pl o = true) (hs : es.all pl = true) (hl : es.length < 30) (hln : (apos.endLine == pos.line) = true) : PE X (.Call (.Attribute o "upper" apos) es [] pos) (tEv P cf N X W (.bm .upper eo e)) := by
  refine s_bm PySem.F.plainAttrs_str PySem.F.slot_str_upper PySem.F.type_str_upper mt_upper ho ha hn hp hs hl hln (fun {π S H v x} hS r hb => by cases r <;> simp only [bmPre] at hb <;> first | rfl | cases hb) (fun {π S H v x vs xs Q B} hS r rs g => ?_)
  cases r with
  | str z =>
    cases rs with
    | cons _ _ => exact g.elim
    | nil =>
      simp only [bmop] at g
      split at g
      · rename_i hz
        exact ⟨_, rfl, rfl, Nat.le_trans hz (by decide), G.ok g hS _ (.str _)⟩
      · exact g.elim
  | _ => cases rs <;> exact g.elim
theorem find_first {α : Type} {p : α → Bool} : ∀ {l : List α} {j : Nat}, l.findIdx? p = some j → (∃ z, l[j]? = some z ∧ p z = true) ∧ ∀ m z, m < j → l[m]? = some z → p z = false
  | [], _, h => by simp at h
  | a :: l, j, h => by
    rw [List.findIdx?_cons] at h
    split at h
    · rename_i q
      cases h
      exact ⟨⟨a, rfl, q⟩, fun m z hm => absurd hm (Nat.not_lt_zero _)⟩
    · rename_i q
      obtain ⟨i, hi, rfl⟩ := Option.map_eq_some_iff.mp h
      obtain ⟨⟨z, h1, h2⟩, h3⟩ := find_first hi
      refine ⟨⟨z, by simpa using h1, h2⟩, fun m z hm hz => ?_⟩
      cases m with
      | zero => cases hz; simpa using q
      | succ m => exact h3 m z (by omega) (by simpa using hz)
theorem s_index (ho : PE X o (tEv P cf N X W eo)) (ha : PA X es (tRw P cf N X W e)) (hn : rowsOk es e) (hp : pl o = true) (hs : es.all pl = true) (hl : es.length < 30) (hln : (apos.endLine == pos.line) = true) : PE X (.Call (.Attribute o "index" apos) es [] pos) (tEv P cf N X W (.bm .index eo e)) := by
  refine s_bm PySem.F.plainAttrs_list PySem.F.slot_list_index PySem.F.type_list_index mt_index ho ha hn hp hs hl hln (fun {π S H v x} hS r hb => by
    cases v <;> simp only [bmPre] at hb <;> try cases hb
    split at hb
    · exact ty_lst hS r rfl ‹_›
    · cases hb) (fun {π S H v x vs xs Q B} hS r rs g => ?_)
  cases r with
  | @ref l p ha =>
    cases rs with
    | nil => exact g.elim
    | cons r1 rr =>
      cases rr with
      | cons _ _ => exact g.elim
      | nil =>
        simp only [bmop] at g
        split at g
        · rename_i zs hz
          split at g
          · rename_i hf
            simp only [Bool.and_eq_true] at hf
            split at g
            · rename_i j hj
              obtain ⟨ys, h1, h2⟩ := hS.at_ _ _ _ ha hz
              obtain ⟨⟨z, f1, f2⟩, f3⟩ := find_first hj
              obtain ⟨y, y1, y2⟩ := h2.get f1
              have fz : ∀ {q : Val}, q ∈ zs → flat q = true := fun {q} hq => List.all_eq_true.mp hf.2 q hq
              refine ⟨p, ys, _, j, y, rfl, rfl, SqL.of h1, flat_ok r1 hf.1, ?_, y1, ?_, fun m z' hm hz' => ?_, G.ok g hS _ (.int _)⟩
              · obtain ⟨_, hall, _⟩ := inVs_ok (b := zs.any fun y => sEq y _) r1 h2 (by unfold inVs; rw [if_pos (by rw [hf.1, hf.2]; rfl)])
                exact hall
              · rw [sEq_ok y2 r1 (fz (List.mem_of_getElem? f1)) hf.1]
                exact f2
              · have hlen : m < zs.length := by
                  rw [h2.length]
                  exact (List.getElem?_eq_some_iff.mp hz').1
                have e : zs[m]? = some zs[m] := List.getElem?_eq_getElem hlen
                obtain ⟨y', k1, k2⟩ := h2.get e
                rw [hz'] at k1
                cases k1
                rw [sEq_ok k2 r1 (fz (List.getElem_mem hlen)) hf.1]
                exact f3 m _ hm e
            · exact g.elim
          · exact g.elim
        · exact g.elim
  | _ => first | exact g.elim | (cases rs <;> first | exact g.elim | (rename_i r1 rr; cases rr <;> exact g.elim))
end
end MP
/-! What the written part says, as truths. -/
namespace MP
open PySem L2
section
variable {K : PySem.W.Frag}
def biB (K : PySem.W.Frag) (C : Addr) (v : Value) : Bool := PySem.W.readsIn K C (.type "type") && (decide (PySem.W.specialIn K (.ref C) "__getattribute__" = some (some (.builtin "type.__getattribute__"))) && ((match PySem.W.findCls K (.ref C) (.type "type") "__init__" with
  | some (.val u) => decide (u = v)
  | _ => false) && ((PySem.W.keepIn K v || (match v with | .builtin _ => true | _ => false)) && PySem.W.handedIn v)))
theorem biB_ok {C : Addr} {v : Value} (h : biB K C v = true) : Bi K C v := by
  unfold biB at h
  simp only [Bool.and_eq_true, decide_eq_true_eq] at h
  obtain ⟨h1, h2, h3, h4, h5⟩ := h
  refine ⟨h1, h2, ?_, ?_, h5⟩
  rotate_left
  · rcases Bool.or_eq_true_iff.mp h4 with q | q
    · exact .inl q
    · cases v <;> first | exact .inr ⟨_, rfl⟩ | cases q
  split at h3
  · rename_i u e
    have e2 := of_decide_eq_true h3
    subst e2
    exact e
  · cases h3
def excCB (K : PySem.W.Frag) (D : Addr) : Bool := decide (PySem.W.findIn K (.ref D) "__getattribute__" = some (some (.builtin "BaseException.__getattribute__"))) && (decide (PySem.W.findIn K (.ref D) "__getattr__" = some none) && (decide (PySem.W.subIn K (.ref D) (.type "BaseException") = some true) && (PySem.W.hasDictIn K D &&
  (decide (PySem.W.findIn K (.ref D) "__class__" = some (some (.builtin "object.__class__"))) && (decide (PySem.W.specialIn K (.builtin "object.__class__") "__get__" = some (some (.builtin "getset_descriptor.__get__"))) && (decide (PySem.W.takesIn K (.builtin "object.__class__") = some true) && decide (PySem.W.mroIn K D (.type "object") = some true)))))))
theorem excCB_ok {D : Addr} (h : excCB K D = true) : ExcC K D := by
  unfold excCB at h
  simp only [Bool.and_eq_true, decide_eq_true_eq] at h
  obtain ⟨h1, h2, h3, h4, h5, h6, h7, h8⟩ := h
  exact ⟨h1, h2, h3, h4, h5, h6, h7, h8⟩
def insCB (K : PySem.W.Frag) (C : Addr) : Bool := decide (PySem.W.findIn K (.ref C) "__class__" = some (some (.builtin "object.__class__"))) && (decide (PySem.W.specialIn K (.builtin "object.__class__") "__get__" = some (some (.builtin "getset_descriptor.__get__"))) && (decide (PySem.W.takesIn K (.builtin "object.__class__") = some true) &&
  (decide (PySem.W.mroIn K C (.type "object") = some true) && decide (PySem.W.kitOne K (.ref C) (.ref C) = some true))))
theorem insCB_ok {C : Addr} (cl : Cls K C) (h : insCB K C = true) : C8.InsC K C := by
  unfold insCB at h
  simp only [Bool.and_eq_true, decide_eq_true_eq] at h
  obtain ⟨h1, h2, h3, h4, h5⟩ := h
  exact ⟨cl, h1, h2, h3, h4, h5⟩
def oexB (K : PySem.W.Frag) (C : Addr) : Bool := (match K.lookup C with
  | some ⟨.type t, _, .cls ⟨_, _, .ref C' :: bm, _, _, true, _, _, _, _, false⟩, sl⟩ => (match sl.toList with
    | [_, _, _, _, some (.builtin n), _] => decide (t = "type") && (decide (C' = C) && (decide (n = "ValueError.__new__") && PySem.HandSPX.refsVE bm))
    | _ => false)
  | _ => false) && (decide (PySem.W.findIn K (.ref C) "__setattr__" = some (some (.builtin "object.__setattr__"))) && (decide (PySem.W.subIn K (.ref C) (.type "BaseException") = some true) && (decide (PySem.W.typeIn K (.ref C) = some (.type "type")) && PySem.W.keepIn K (.ref C))))
theorem oexB_ok {C : Addr} (h : oexB K C = true) : OexC K C := by
  unfold oexB at h
  simp only [Bool.and_eq_true, decide_eq_true_eq] at h
  obtain ⟨h1, h2, h3, h4, h5⟩ := h
  refine ⟨?_, h2, h3, h4, h5⟩
  split at h1
  · rename_i t dd nm bs C' bm ns q sn sub ab col sl hk
    split at h1
    · rename_i k0 k1 k2 k3 n k5 hs
      simp only [Bool.and_eq_true, decide_eq_true_eq] at h1
      obtain ⟨rfl, rfl, rfl, h9⟩ := h1
      have hsl : sl = #[k0, k1, k2, k3, some (.builtin "ValueError.__new__"), k5] := by
        obtain ⟨l⟩ := sl
        simp only at hs
        rw [hs]
      subst hsl
      exact ⟨_, _, _, _, _, _, _, _, _, _, _, _, _, _, _, hk, h9⟩
    · cases h1
  · cases h1
end
end MP
/-! Dict displays; rows of arguments that may be bare calls. -/
namespace MP
open PySem L2
section
variable {K : PySem.W.Frag} {N : Nms} {π π' : List Addr} {H H' : Hp} {S : Store}
/-- a passing thing is changed -/
theorem RS.passG (r : RS K N π S H) {D : Addr} {u0 u : HO} (hd : H D = some u0) (hf : ¬ Fix u0) (hn : D ∉ π) : RS K N π S (upd H D u) ∧ ∀ b zs, Fix zs → H b = some zs → upd H D u b = some zs := by
  have ht : ∀ b zs, Fix zs → H b = some zs → upd H D u b = some zs := fun b zs f h => by
    rw [upd_ne (fun e => by rw [e, hd] at h; cases h; exact hf f)]
    exact h
  refine ⟨⟨r.len, r.nd, fun l a o h1 h2 => ?_⟩, ht⟩
  have ne : a ≠ D := fun e => hn (e ▸ List.mem_iff_getElem?.mpr ⟨l, h1⟩)
  exact ro_same ht (upd_ne ne) (r.at_ l a o h1 h2)
theorem Ext.adopt {p : Addr} {u0 u : HO} (x : Ext π (upd H p u0) π' H') (hp : H p = none) (hn : p ∉ π) : Ext π H (π' ++ [p]) (upd H' p u) ∧ p ∉ π' := by
  have hn' : p ∉ π' := fun h => by
    rcases x.new p h with q | q
    · exact hn q
    · rw [upd_same] at q; cases q
  refine ⟨⟨?_, fun b hb => ?_, fun b o hb h => ?_, fun b o f h => ?_⟩, hn'⟩
  · obtain ⟨t, e⟩ := x.pre
    exact ⟨t ++ [p], by rw [e, List.append_assoc]⟩
  · rcases List.mem_append.mp hb with q | q
    · rcases x.new b q with z | z
      · exact .inl z
      · by_cases e : b = p
        · rw [e]; exact .inr hp
        · rw [upd_ne e] at z; exact .inr z
    · have e : b = p := by simpa using q
      rw [e]; exact .inr hp
  · have ne := ne_of_none h hp
    rw [upd_ne ne]
    exact x.keep b o hb (by rw [upd_ne ne]; exact h)
  · have ne := ne_of_none h hp
    rw [upd_ne ne]
    exact x.tup b o f (by rw [upd_ne ne]; exact h)
end
section
variable {P : Prog} {cf : Nat → List Val → Store → R Val} {N : Nms} {n : Nat} {s : Sc} {X : Cx} {W : WX} {pos pos' p2 p3 apos : Pos} {e1 : Expr} {a b e : E} {es : List Expr}
theorem s_consA {r : List Expr} (ha : PE X e1 (tEv P cf N X W a)) (hr : PA X r (tRw P cf N X W b)) (hp : plA e1 = true) : PA X (e1 :: r) (tRw P cf N X W (.cons a b)) := by
  refine PA.mono (pa_cons ha hr (plA_star hp r X.env)) fun σ H Q ⟨π, S, ρ, hS, hE, g⟩ => ⟨π, S, ρ, hS, hE, ?_⟩
  simp only [evalEs] at g
  refine g.seq fun v S1 π1 H1 x1 q1 g1 x rx => ⟨π1, S1, ρ, q1, hE.ext x1, ?_⟩
  exact g1.seq fun vs S2 π2 H2 x2 q2 g2 xs rs => G.ok g2 q2 _ (.cons (rx.ext x2) rs)
theorem s_dict0 : PE X (.Dict [] [] pos) (tEv P cf N X W (.dict [] .nil)) := by
  refine PE.mono pe_dnewK fun σ H Q ⟨π, S, ρ, hS, hE, g⟩ p hp => ?_
  simp only [evalE, evalEs] at g
  obtain ⟨y1, y2⟩ := hS.new (o := .dic false []) (u := .dK []) hp fun {π' H'} x e => ⟨_, e, .nil⟩
  refine g _ _ y1 y2 _ (.ref ?_)
  rw [← hS.len]
  simp
def keyB : Key → Option Expr → Bool
  | .inl i, some (.Constant (.int j) _ _) => decide (i = j)
  | .inr x, some (.Constant (.str y) _ _) => decide (x = y)
  | _, _ => false
def dictB (ck : E → Expr → Bool) : List Key → E → List (Option Expr) → List Expr → Bool
  | [], .nil, [], [] => true
  | k :: ks, .cons a b, o :: os, x :: xs => keyB k o && ck a x && dictB ck ks b os xs
  | _, _, _, _ => false
theorem key_pe {k : Key} {o : Option Expr} (h : keyB k o = true) : ∃ ex, o = some ex ∧ PE X ex (tC (kV k)) := by
  unfold keyB at h
  split at h
  · have h := of_decide_eq_true h
    subst h
    exact ⟨_, rfl, pe_int⟩
  · have h := of_decide_eq_true h
    subst h
    exact ⟨_, rfl, pe_str⟩
  · cases h
theorem dict_pairs {ck : E → Expr → Bool} (hc : ∀ a x, ck a x = true → PE X x (tEv P cf N X W a)) : ∀ {ks : List Key} {e : E} {keys : List (Option Expr)} {vals : List Expr}, dictB ck ks e keys vals = true →
    keys.all (·.isSome) = true ∧ keys.length = ks.length ∧ vals.length = ks.length ∧ ∃ trs, PPs X pos keys vals trs ∧ ∀ (σ : L2.St) (H : Hp) (R : List (V × V) → Hp → Prop) (π : List Addr) (S : Store) (ρ : Ev), RS X.K N π S H → RE X.K N π H ρ σ →
      G X.K N π H (evalEs P cf e ρ S) (fun vs _ π' H' => vs.length = ks.length → ∀ xs, RVs X.K N π' H' vs xs → R ((ks.zip xs).map fun kv => (kV kv.1, kv.2)) H') (BX X.K N W σ) → tPairs trs σ H R := by
  intro ks
  induction ks with
  | nil =>
    intro e keys vals h
    unfold dictB at h
    split at h
    · refine ⟨rfl, rfl, rfl, [], pps_nil, fun σ H R π S ρ hS hE g => ?_⟩
      simp only [evalEs] at g
      exact G.ok g hS rfl [] .nil
    · rename_i q; cases q
    · cases h
  | cons k ks ih =>
    intro e keys vals h
    unfold dictB at h
    split at h
    · rename_i q; cases q
    · rename_i k' ks' a b o os x xs q
      cases q
      simp only [Bool.and_eq_true] at h
      obtain ⟨⟨h1, h2⟩, h3⟩ := h
      obtain ⟨ex, rfl, hk⟩ := key_pe (X := X) h1
      obtain ⟨i1, i2, i3, trs, i4, i5⟩ := ih h3
      refine ⟨?_, by simp [i2], by simp [i3], _, pps_cons hk (hc a x h2) i4, fun σ H R π S ρ hS hE g => ?_⟩
      · simp [i1]
      · simp only [evalEs] at g
        refine ⟨π, S, ρ, hS, hE, g.seq fun v S1 π1 H1 x1 q1 g1 y ry => ?_⟩
        exact i5 σ H1 (fun kvs H' => R ((kV k, y) :: kvs) H') π1 S1 ρ q1 (hE.ext x1) (g1.seq fun vs S2 π2 H2 x2 q2 g2 hl xs rs => by
          exact G.ok g2 q2 (by simp [hl]) (y :: xs) (.cons (ry.ext x2) rs))
    · cases h
theorem zip_rk {K : PySem.W.Frag} {π : List Addr} {H : Hp} : ∀ {ks : List Key} {vs : List Val} {xs : List V}, RVs K N π H vs xs → RK K N π H (ks.zip vs) (ks.zip xs)
  | [], _, _, _ => .nil
  | _ :: _, _, _, .nil => .nil
  | _ :: _, _, _, .cons r t => .cons ⟨rfl, r⟩ (zip_rk t)
theorem s_dict {ck : E → Expr → Bool} (hc : ∀ a x, ck a x = true → PE X x (tEv P cf N X W a)) {ks : List Key} {keys : List (Option Expr)} {vals : List Expr} (h : dictB ck ks e keys vals = true) (h0 : keys ≠ []) (h15 : ks.length ≤ 15) : PE X (.Dict keys vals pos) (tEv P cf N X W (.dict ks e)) := by
  obtain ⟨i1, i2, i3, trs, i4, i5⟩ := dict_pairs (pos := pos) hc h
  refine PE.mono (pe_disp i4 i1 (by rw [i2, i3]) h0 (by rw [i2]; exact h15)) fun σ H Q ⟨π, S, ρ, hS, hE, g⟩ p hp => ?_
  simp only [evalE] at g
  have hpn : p ∉ π := fun m => by
    obtain ⟨u, hu, _⟩ := hS.mem m
    rw [hp] at hu; cases hu
  obtain ⟨y1, y2⟩ := hS.aside (u := .dK []) hp
  refine i5 σ _ _ π S ρ y2 (hE.ext y1) ?_
  cases r : evalEs P cf e ρ S with
  | bad => rw [r] at g; exact g
  | exc c ds S1 => rw [r] at g; exact G.ext (A := fun vs (_ : Store) π' H' => ∀ x, RV X.K N π' H' vs x → Q x H') (r := .exc c ds S1) y1 g
  | ok vs S1 =>
    rw [r] at g
    intro π1 H1 x1 q1 hl xs rs
    have g : G X.K N π H (if ks.length = vs.length ∧ ks.length ≤ 15 then R.ok (Val.ref (List.length S1)) (S1 ++ [Ob.dic false (List.foldl (fun d kv => dPut d kv.fst kv.snd) [] (ks.zip vs))]) else R.bad) (fun v _ π' H' => ∀ x, RV X.K N π' H' v x → Q x H') (BX X.K N W σ) := g
    rw [if_pos ⟨hl.symm, h15⟩] at g
    obtain ⟨z1, z2⟩ := Ext.adopt (u := .dK (mergeK [] (ks.zip xs))) x1 hp hpn
    have hP : H1 p = some (.dK []) := x1.keep p _ hpn upd_same
    obtain ⟨w1, w2⟩ := q1.passG (u := .dK (mergeK [] (ks.zip xs))) hP (fun e => e) z2
    refine ⟨hP, ks.zip xs, rfl, by rw [List.length_zip]; omega, ?_⟩
    have rk : RK X.K N π1 H1 ((ks.zip vs).foldl (fun d kv => dPut d kv.1 kv.2) []) (mergeK [] (ks.zip xs)) := RK.merge .nil (zip_rk rs)
    have rk2 : RK X.K N (π1 ++ [p]) (upd H1 p (.dK (mergeK [] (ks.zip xs)))) ((ks.zip vs).foldl (fun d kv => dPut d kv.1 kv.2) []) (mergeK [] (ks.zip xs)) := Paired.mapP rk fun _ _ z => ⟨z.1, (z.2.same w2).grow⟩
    have q3 := w1.grow (o := .dic false ((ks.zip vs).foldl (fun d kv => dPut d kv.1 kv.2) [])) z2 ⟨_, upd_same, rk2⟩
    refine g (π1 ++ [p]) _ z1 q3 _ (.ref ?_)
    rw [← q1.len]
    simp
end
def swNo (s : Sc) (ts : List Expr) : Expr → Bool
  | .Tuple vs _ _ => decide (s.sc.kind = .function) && ((!(ts.length == 2 || ts.length == 3) || vs.length != ts.length) ||
    (let line := (ts.head?.map (·.pos.line)).getD 0
     let names := ts.filterMap fun
      | .Name id pos => if s.sc.names.lookup id == some .local && pos.line == line then some id else none
      | _ => none
     (names.length != ts.length || names.eraseDups.length != names.length)))
  | _ => false
theorem swNo_ok {s : Sc} {ts : List Expr} {e : Expr} {env : Env} {kt : Nat} {pt : Pos} (h : swNo s ts e = true) (hs : env.scope = s.sc) : swappedStores [.Tuple ts kt pt] e env = pure none := by
  unfold swNo at h
  split at h
  · rename_i vs k2 p2
    rw [Bool.and_eq_true] at h
    obtain ⟨hk, h⟩ := h
    have hk : s.sc.kind = .function := of_decide_eq_true hk
    have hb : env.blockKind = s.sc.kind := by
      unfold Env.blockKind
      rw [hs, hk]
      rfl
    unfold swappedStores
    simp only [hb, Env.kindOf, hs, pure_bind]
    split
    · rfl
    · rename_i h1
      split
      · rfl
      · split
        · rfl
        · rename_i h3
          rcases Bool.or_eq_true_iff.mp h with q | q
          · refine absurd ?_ h1
            rw [Bool.or_eq_true]
            exact .inl q
          · exact absurd q h3
  · cases h
end MP
/-! Dicts that are walked; sorted dicts, sorted tuples; dict(d). -/
namespace MP
open PySem L2
def Fix2 : HO → Prop
  | .tup _ => True
  | .ext _ => True
  | .xd _ => True
  | _ => False
section
variable {K : PySem.W.Frag} {N : Nms} {π : List Addr} {H H' : Hp} {S : Store}
mutual
theorem RV.same2 (ht : ∀ b u, Fix2 u → H b = some u → H' b = some u) : ∀ {v : Val} {y : V}, RV K N π H v y → RV K N π H' v y
  | _, _, .non => .non
  | _, _, .bl b => .bl b
  | _, _, .int i => .int i
  | _, _, .str s => .str s
  | _, _, .ref h => .ref h
  | _, _, .tup h r => .tup (show TupAt _ _ _ _ from Or.elim h (fun q => Or.inl (ht _ _ trivial q)) Or.inr) (RVs.same2 ht r)
  | _, _, .exc0 h0 h => .exc0 h0 (ht _ _ trivial h)
  | _, _, .exc1 h0 h h2 r => .exc1 h0 (ht _ _ trivial h) (ht _ _ trivial h2) (RV.same2 ht r)
theorem RVs.same2 (ht : ∀ b u, Fix2 u → H b = some u → H' b = some u) : ∀ {vs : List Val} {ys : List V}, RVs K N π H vs ys → RVs K N π H' vs ys
  | _, _, .nil => .nil
  | _, _, .cons r t => .cons (RV.same2 ht r) (RVs.same2 ht t)
end
theorem RK.same2 (ht : ∀ b u, Fix2 u → H b = some u → H' b = some u) {kvs : List (Key × Val)} {ys : List (L2.Key × V)} (r : RK K N π H kvs ys) : RK K N π H' kvs ys := Paired.mapP r fun _ _ z => ⟨z.1, z.2.same2 ht⟩
theorem ro_same2 (ht : ∀ b u, Fix2 u → H b = some u → H' b = some u) {a : Addr} (e : H' a = H a) : ∀ {o : Ob}, RO K N π H a o → RO K N π H' a o
  | .lst _, ⟨ys, h, r⟩ => ⟨ys, e.trans h, r.same2 ht⟩
  | .fro _, ⟨ys, ⟨o, h⟩, r⟩ => ⟨ys, ⟨o, e.trans h⟩, r.same2 ht⟩
  | .dic false _, ⟨ys, h, r⟩ => ⟨ys, e.trans h, r.same2 ht⟩
  | .dic true _, ⟨o, ys, h, r⟩ => ⟨o, ys, e.trans h, r.same2 ht⟩
  | .ins _ _, ⟨dx, gs, h, r, q⟩ => ⟨dx, gs, e.trans h, Paired.mapP r fun _ _ z => ⟨z.1, z.2.same2 ht⟩, q⟩
/-- a locked dict is let go -/
theorem unlock_keep {d : Addr} {od : Obj} {u : HO} (hd : H d = some (.frz od u)) : ∀ b w, Fix2 w → H b = some w → upd H d u b = some w := fun b w f h => by
  rw [upd_ne (fun e => by rw [e, hd] at h; cases h; exact f)]
  exact h
theorem RS.unlock (r : RS K N π S H) {l : Nat} {d : Addr} {od : Obj} {ys : List (L2.Key × V)} (hl : π[l]? = some d) (hd : H d = some (.frz od (.dK ys))) : RS K N π (unlk S (some l)) (upd H d (.dK ys)) ∧ ∃ kvs, S[l]? = some (.dic true kvs) := by
  have ht := unlock_keep hd
  obtain ⟨o, hs, q⟩ := r.addr hl
  obtain ⟨kvs, rfl, rk⟩ : ∃ kvs, o = .dic true kvs ∧ RK K N π H kvs ys := by
    cases o with
    | lst xs => obtain ⟨_, h, _⟩ := q; rw [hd] at h; cases h
    | fro xs => obtain ⟨_, ⟨_, h⟩, _⟩ := q; rw [hd] at h; cases h
    | ins c fs => obtain ⟨_, _, h, _⟩ := q; rw [hd] at h; cases h
    | dic lk kvs =>
      cases lk with
      | false => obtain ⟨_, h, _⟩ := q; rw [hd] at h; cases h
      | true =>
        obtain ⟨_, ys', h, rk⟩ := q
        rw [hd] at h
        cases h
        exact ⟨kvs, rfl, rk⟩
  refine ⟨?_, kvs, hs⟩
  have e : unlk S (some l) = S.set l (.dic false kvs) := by simp [unlk, hs]
  rw [e]
  refine ⟨by simp [r.len], r.nd, fun l' a' o' h1 h2 => ?_⟩
  by_cases e : l' = l
  · subst e
    rw [hl] at h1
    cases h1
    have hs' : l' < S.length := by rw [← r.len]; exact (List.getElem?_eq_some_iff.mp hl).1
    rw [List.getElem?_set_self hs'] at h2
    cases h2
    exact ⟨ys, upd_same, rk.same2 ht⟩
  · rw [List.getElem?_set_ne (Ne.symm e)] at h2
    have ne : a' ≠ d := fun q => e (nd_ix r.nd h1 (by rw [q]; exact hl))
    exact ro_same2 ht (upd_ne ne) (r.at_ l' a' o' h1 h2)
/-- from ahead of the lock to behind it -/
theorem Ext.unlock {π' : List Addr} {d : Addr} {od : Obj} {ys : List (L2.Key × V)} (hm : d ∈ π) (h0 : H d = some (.dK ys)) (x : Ext π (upd H d (.frz od (.dK ys))) π' H') : Ext π H π' (upd H' d (.dK ys)) := by
  refine ⟨x.pre, fun b hb => ?_, fun b o hb h => ?_, fun b u f h => ?_⟩
  · rcases x.new b hb with z | z
    · exact .inl z
    · refine .inr ?_
      rw [upd_ne (fun e => by rw [e, upd_same] at z; cases z)] at z
      exact z
  · have ne : b ≠ d := fun e => hb (e ▸ hm)
    rw [upd_ne ne]
    exact x.keep b o hb (by rw [upd_ne ne]; exact h)
  · have ne : b ≠ d := fun e => by rw [e, h0] at h; cases h; exact f
    rw [upd_ne ne]
    exact x.tup b u f (by rw [upd_ne ne]; exact h)
theorem RE.unlock {ρ : Ev} {σ : St} {d : Addr} {od : Obj} {u : HO} (r : RE K N π H ρ σ) (hd : H d = some (.frz od u)) : RE K N π (upd H d u) ρ σ := ⟨r.len, fun i v h => by
  obtain ⟨y, h1, h2⟩ := r.at_ i v h
  exact ⟨y, h1, h2.same2 (unlock_keep hd)⟩⟩
end
section
variable {P : Prog} {cf : Nat → List Val → Store → R Val} {N : Nms} {n : Nat} {s : Sc} {X : Cx} {W : WX} {st : Stmt} {ex : Expr}
/-- a statement that walks a dict -/
theorem ps_lk {m m' : Ev → Store → F} {C : Ev → Store → Prop} (h : PS X st (fun D σ H => ∃ π S ρ, RS X.K N π S H ∧ RE X.K N π H ρ σ ∧ C ρ S ∧ GF X.K N π H (m' ρ S) W D))
    (hm : ∀ ρ S, m ρ S = .bad ∨ ∃ l kvs, S[l]? = some (.dic false kvs) ∧ C ρ (S.set l (.dic true kvs)) ∧ m ρ S = (m' ρ (S.set l (.dic true kvs))).unlk (some l)) : PS X st (tS X.K N W m) := by
  refine PS.mono (ps_lock h) fun D σ H ⟨π, S, ρ, hS, hE, g⟩ => ?_
  rcases hm ρ S with e | ⟨l, kvs, hs, hC, e⟩
  · rw [e] at g; exact g.elim
  obtain ⟨d, hl⟩ : ∃ d, π[l]? = some d := by
    have := (List.getElem?_eq_some_iff.mp hs).1
    exact ⟨π[l]'(by rw [hS.len]; exact this), List.getElem?_eq_getElem _⟩
  have hdm : d ∈ π := List.mem_iff_getElem?.mpr ⟨l, hl⟩
  obtain ⟨ys, hd, rk⟩ := hS.at_ l d _ hl hs
  refine ⟨d, .dK ys, hd, trivial, fun od => ?_⟩
  obtain ⟨x1, q1⟩ := hS.put (u := .frz od (.dK ys)) (o := .dic true kvs) hl ⟨_, hd, fun z => z⟩ fun {H'} x h => ⟨od, ys, h, rk.ext x⟩
  rw [e] at g
  refine ⟨π, _, ρ, q1, hE.ext x1, hC, ?_⟩
  have hd1 : upd H d (.frz od (.dK ys)) d = some (.frz od (.dK ys)) := upd_same
  cases r : m' ρ (S.set l (.dic true kvs)) with
  | bad => rw [r] at g; exact g
  | exc a b c f => rw [r] at g; exact g.elim
  | nx ρ2 S2 =>
    rw [r] at g
    intro π' H' σ' x q hE'
    have hd' := x.tup d (.frz od (.dK ys)) trivial hd1
    obtain ⟨u1, _⟩ := q.unlock (x.ix hl) hd'
    exact ⟨hd', g π' _ σ' (Ext.unlock hdm hd x) u1 (hE'.unlock hd')⟩
  | bk ρ2 S2 =>
    rw [r] at g
    intro π' H' σ' x q hE'
    have hd' := x.tup d (.frz od (.dK ys)) trivial hd1
    obtain ⟨u1, _⟩ := q.unlock (x.ix hl) hd'
    exact ⟨hd', g π' _ σ' (Ext.unlock hdm hd x) u1 (hE'.unlock hd')⟩
  | ct ρ2 S2 =>
    rw [r] at g
    intro π' H' σ' x q hE'
    have hd' := x.tup d (.frz od (.dK ys)) trivial hd1
    obtain ⟨u1, _⟩ := q.unlock (x.ix hl) hd'
    exact ⟨hd', g π' _ σ' (Ext.unlock hdm hd x) u1 (hE'.unlock hd')⟩
  | rt v2 S2 =>
    rw [r] at g
    intro π' H' y x q rv
    have hd' := x.tup d (.frz od (.dK ys)) trivial hd1
    obtain ⟨u1, _⟩ := q.unlock (x.ix hl) hd'
    exact ⟨hd', g π' _ y (Ext.unlock hdm hd x) u1 (rv.same2 (unlock_keep hd'))⟩
/-- an expression that walks a dict: a list that passes -/
theorem pe_lk {m m' : Ev → Store → R LV} {C : Ev → Store → Prop} (h : PE X ex (fun σ H Q => ∃ π S ρ, RS X.K N π S H ∧ RE X.K N π H ρ σ ∧ C ρ S ∧ G X.K N π H (m' ρ S) (fun v _ π' H' => ∀ x, RL X.K N π' H' v x → NewL H v x → Q x H') (BX X.K N W σ)))
    (hm : ∀ ρ S, m ρ S = .bad ∨ ∃ l kvs, S[l]? = some (.dic false kvs) ∧ C ρ (S.set l (.dic true kvs)) ∧ (∀ v S1, m' ρ (S.set l (.dic true kvs)) = .ok v S1 → ∃ xs, v = .tmp xs) ∧ m ρ S = match m' ρ (S.set l (.dic true kvs)) with | .ok v S1 => .ok v (unlk S1 (some l)) | _ => .bad) :
    PE X ex (fun σ H Q => ∃ π S ρ, RS X.K N π S H ∧ RE X.K N π H ρ σ ∧ G X.K N π H (m ρ S) (fun v _ π' H' => ∀ x, RL X.K N π' H' v x → NewL H v x → Q x H') (BX X.K N W σ)) := by
  refine PE.mono (pe_lock h) fun σ H Q ⟨π, S, ρ, hS, hE, g⟩ => ?_
  rcases hm ρ S with e | ⟨l, kvs, hs, hC, ht, e⟩
  · rw [e] at g; exact g.elim
  obtain ⟨d, hl⟩ : ∃ d, π[l]? = some d := by
    have := (List.getElem?_eq_some_iff.mp hs).1
    exact ⟨π[l]'(by rw [hS.len]; exact this), List.getElem?_eq_getElem _⟩
  have hdm : d ∈ π := List.mem_iff_getElem?.mpr ⟨l, hl⟩
  obtain ⟨ys, hd, rk⟩ := hS.at_ l d _ hl hs
  refine ⟨d, .dK ys, hd, trivial, fun od => ?_⟩
  obtain ⟨x1, q1⟩ := hS.put (u := .frz od (.dK ys)) (o := .dic true kvs) hl ⟨_, hd, fun z => z⟩ fun {H'} x h => ⟨od, ys, h, rk.ext x⟩
  rw [e] at g
  refine ⟨π, _, ρ, q1, hE.ext x1, hC, ?_⟩
  have hd1 : upd H d (.frz od (.dK ys)) d = some (.frz od (.dK ys)) := upd_same
  cases r : m' ρ (S.set l (.dic true kvs)) with
  | bad => rw [r] at g; exact g
  | exc a b c => rw [r] at g; exact g.elim
  | ok v S2 =>
    obtain ⟨xs, rfl⟩ := ht v S2 r
    rw [r] at g
    intro π' H' x q y rl nl
    have hd' := x.tup d (.frz od (.dK ys)) trivial hd1
    obtain ⟨u1, _⟩ := q.unlock (x.ix hl) hd'
    refine ⟨hd', g π' _ (Ext.unlock hdm hd x) u1 y ?_ fun a ea => ?_⟩
    · obtain ⟨p, zs, rfl, hp, hn, rv⟩ := rl
      refine ⟨p, zs, rfl, ?_, hn, rv.same2 (unlock_keep hd')⟩
      rw [upd_ne (fun ee => by rw [ee, hd'] at hp; cases hp)]
      exact hp
    · have z := nl a ea
      rw [upd_ne (fun ee => by rw [ee, upd_same] at z; cases z)] at z
      exact z
end
/-! what is walked -/
def E.ownF : E → Bool
  | .fld (.var _) _ => true
  | _ => false
def E.walk (k : Nat) (a : E) : E := match k with
  | 0 => .ikeys a
  | 1 => .ivals a
  | _ => .iitems a
section
variable {P : Prog} {cf : Nat → List Val → Store → R Val} {N : Nms} {n : Nat} {s : Sc} {X : Cx} {W : WX} {pos pos' p2 p3 apos : Pos} {e1 e2 ex o elt ite te : Expr} {a b c e eo : E} {es ifs : List Expr} {sts : List Stmt} {u : MP.S} {f k : Nat} {ρ : Ev} {S : Store}
theorem own_or (h : a.ownF = true) : evalE P cf a ρ S = .bad ∨ ∃ v, ∀ S' : Store, (∀ (l c : Nat) (fs : List (Nat × Val)), S[l]? = some (Ob.ins c fs) → S'[l]? = some (Ob.ins c fs)) → evalE P cf a ρ S' = .ok v S' := by
  cases a <;> try (cases h; done)
  rename_i o f
  cases o <;> try (cases h; done)
  rename_i i
  simp only [evalE]
  cases hi : ρ[i]? with
  | none => exact .inl rfl
  | some w =>
    cases w with
    | none => exact .inl rfl
    | some v =>
      simp only [R.bind]
      cases v <;> try (exact .inl rfl)
      case ref l =>
        simp only
        cases hl : S[l]? with
        | none => exact .inl rfl
        | some ob =>
          cases ob with
          | lst _ => exact .inl rfl
          | fro _ => exact .inl rfl
          | dic _ _ => exact .inl rfl
          | ins c fs =>
          cases hf : fget fs f with
          | none => exact .inl (by simp only [hf, MP.ofO])
          | some w => exact .inr ⟨w, fun S' hS => by simp only [hS l c fs hl, hf, MP.ofO]⟩
      case exc c ds =>
        match ds with
        | [] => exact .inl rfl
        | [w] =>
          by_cases hp : P.line f = true
          · exact .inr ⟨w, fun S' _ => by simp only [hp, if_true]⟩
          · exact .inl (by simp only [hp]; rfl)
        | _ :: _ :: _ => exact .inl rfl
theorem put_ins {l : Nat} {kvs : List (Key × Val)} (h : S[l]? = some (.dic false kvs)) : ∀ (j c : Nat) (fs : List (Nat × Val)), S[j]? = some (Ob.ins c fs) → (List.set S l (.dic true kvs))[j]? = some (Ob.ins c fs) := fun j c fs e => by
  rw [List.getElem?_set_ne (fun z => by rw [z, e] at h; cases h)]
  exact e
theorem it_lk (h : a.ownF = true) (k : Nat) : evalI P cf (E.walk k a) ρ S = .bad ∨ ∃ l kvs, S[l]? = some (.dic false kvs) ∧ evalI P cf (E.walk k a) ρ S = .ok ⟨kvs.length, fun i _ => (kvs[i]?).map (dkv k), fun _ => true, some l⟩ (S.set l (.dic true kvs)) ∧
    evalI P cf (.ilk k a) ρ (S.set l (.dic true kvs)) = .ok ⟨kvs.length, fun i _ => (kvs[i]?).map (dkv k), fun _ => true, none⟩ (S.set l (.dic true kvs)) := by
  rcases own_or (P := P) (cf := cf) (ρ := ρ) (S := S) h with e | ⟨v, hv⟩
  · refine .inl ?_
    match k with
    | 0 => simp only [E.walk, evalI, e, R.bind]
    | 1 => simp only [E.walk, evalI, e, R.bind]
    | k + 2 => simp only [E.walk, evalI, e, R.bind]
  · have e := hv S fun _ _ _ q => q
    have d2 : ∀ k, dkv (k + 2) = dkv 2 := fun k => rfl
    cases v with
    | ref l =>
      cases hl : S[l]? with
      | none =>
        refine .inl ?_
        match k with
        | 0 => simp only [E.walk, evalI, e, R.bind, hl]
        | 1 => simp only [E.walk, evalI, e, R.bind, hl]
        | k + 2 => simp only [E.walk, evalI, e, R.bind, hl]
      | some ob =>
        have no : (∀ kvs, ob ≠ .dic false kvs) → evalI P cf (E.walk k a) ρ S = .bad := fun hn => by
          have key : ∀ {β : Type} (f : List (Key × Val) → R β), (match some ob with | some (Ob.dic false kvs) => f kvs | _ => R.bad) = R.bad := fun f => by
            split
            · rename_i kvs he
              exact absurd (Option.some.inj he) (hn kvs)
            · rfl
          match k with
          | 0 => simp only [E.walk, evalI, e, R.bind, hl]; exact key _
          | 1 => simp only [E.walk, evalI, e, R.bind, hl]; exact key _
          | k + 2 => simp only [E.walk, evalI, e, R.bind, hl]; exact key _
        cases ob with
        | dic lk kvs =>
          cases lk with
          | true => exact .inl (no fun _ z => nomatch z)
          | false =>
            have hs : l < S.length := (List.getElem?_eq_some_iff.mp hl).1
            have e' := hv _ (put_ins hl)
            have el : (S.set l (Ob.dic true kvs))[l]? = some (.dic true kvs) := List.getElem?_set_self hs
            refine .inr ⟨l, kvs, hl, ?_, ?_⟩
            · match k with
              | 0 => simp only [E.walk, evalI, e, R.bind, hl, Store.put]
              | 1 => simp only [E.walk, evalI, e, R.bind, hl, Store.put]
              | k + 2 => simp only [E.walk, evalI, e, R.bind, hl, Store.put, d2]
            · simp only [evalI, e', R.bind, el]
        | lst xs => exact .inl (no fun _ z => nomatch z)
        | fro xs => exact .inl (no fun _ z => nomatch z)
        | ins c fs => exact .inl (no fun _ z => nomatch z)
    | _ =>
      refine .inl ?_
      match k with
      | 0 => simp only [E.walk, evalI, e, R.bind]
      | 1 => simp only [E.walk, evalI, e, R.bind]
      | k + 2 => simp only [E.walk, evalI, e, R.bind]
theorem ok_dv {K : PySem.W.Frag} {π0 : List Addr} {H0 : Hp} {d : Addr} {od : Obj} {kvs : List (Key × Val)} {ys : List (L2.Key × V)} (hd : H0 d = some (.frz od (.dK ys))) (rk : RK K N π0 H0 kvs ys) : ItOk K N π0 H0 ⟨kvs.length, fun i _ => (kvs[i]?).map (dkv 1), fun _ => true, none⟩ (Itd d od ys) where
  go := fun {i π S H v} x hS hi hv => by
    have hv : (kvs[i]?).map (dkv 1) = some v := hv
    obtain ⟨kv, h1, rfl⟩ := Option.map_eq_some_iff.mp hv
    obtain ⟨y, y1, y2⟩ := paired_get (rk.ext x) h1
    refine ⟨⟨x.tup d (.frz od (.dK ys)) trivial hd, (List.getElem?_eq_some_iff.mp y1).1⟩, fun x' H' hy => ?_⟩
    obtain ⟨rfl, k, hk⟩ := hy
    rw [y1] at hk
    cases hk
    exact ⟨Ext.refl, hS, y2.2⟩
  stop := fun {π S H} x hS hf => ⟨x.tup d (.frz od (.dK ys)) trivial hd, Nat.le_of_eq (Paired.length rk).symm⟩
theorem rv_key {K : PySem.W.Frag} {π : List Addr} {H : Hp} (q : Key) : RV K N π H (keyV q) (kV q) := by
  cases q with
  | inl i => exact .int i
  | inr x => exact .str x
theorem ok_dk {K : PySem.W.Frag} {π0 : List Addr} {H0 : Hp} {d : Addr} {od : Obj} {kvs : List (Key × Val)} {ys : List (L2.Key × V)} (hd : H0 d = some (.frz od (.dK ys))) (rk : RK K N π0 H0 kvs ys) : ItOk K N π0 H0 ⟨kvs.length, fun i _ => (kvs[i]?).map (dkv 0), fun _ => true, none⟩ (Itk d od ys) where
  go := fun {i π S H v} x hS hi hv => by
    have hv : (kvs[i]?).map (dkv 0) = some v := hv
    obtain ⟨kv, h1, rfl⟩ := Option.map_eq_some_iff.mp hv
    obtain ⟨y, y1, y2⟩ := paired_get (rk.ext x) h1
    refine ⟨⟨x.tup d (.frz od (.dK ys)) trivial hd, (List.getElem?_eq_some_iff.mp y1).1⟩, fun x' H' hy => ?_⟩
    obtain ⟨rfl, k, w, hk, rfl⟩ := hy
    rw [y1] at hk
    cases hk
    refine ⟨Ext.refl, hS, ?_⟩
    have e := y2.1
    show RV K N π _ (keyV kv.1) _
    rw [← e]
    exact rv_key _
  stop := fun {π S H} x hS hf => ⟨x.tup d (.frz od (.dK ys)) trivial hd, Nat.le_of_eq (Paired.length rk).symm⟩
theorem ok_di {K : PySem.W.Frag} {π0 : List Addr} {H0 : Hp} {d : Addr} {od : Obj} {kvs : List (Key × Val)} {ys : List (L2.Key × V)} (hd : H0 d = some (.frz od (.dK ys))) (rk : RK K N π0 H0 kvs ys) : ItOk K N π0 H0 ⟨kvs.length, fun i _ => (kvs[i]?).map (dkv 2), fun _ => true, none⟩ (Iti d od ys) where
  go := fun {i π S H v} x hS hi hv => by
    have hv : (kvs[i]?).map (dkv 2) = some v := hv
    obtain ⟨kv, h1, rfl⟩ := Option.map_eq_some_iff.mp hv
    obtain ⟨y, y1, y2⟩ := paired_get (rk.ext x) h1
    refine ⟨⟨x.tup d (.frz od (.dK ys)) trivial hd, (List.getElem?_eq_some_iff.mp y1).1⟩, fun x' H' hy => ?_⟩
    obtain ⟨T, k, w, hk, rfl, hT, rfl⟩ := hy
    rw [y1] at hk
    cases hk
    obtain ⟨u1, u2⟩ := hS.aside (u := .tup [kV k, w]) hT
    refine ⟨u1, u2, ?_⟩
    have e : k = kv.1 := y2.1
    show RV K N π _ (.tup [keyV kv.1, kv.2]) _
    rw [← e]
    exact .tup (.inl upd_same) (.cons (rv_key _) (.cons (RV.ext u1 y2.2) .nil))
  stop := fun {π S H} x hS hf => ⟨x.tup d (.frz od (.dK ys)) trivial hd, Nat.le_of_eq (Paired.length rk).symm⟩
theorem i_lkV (h : PE X o (tEv P cf N X W a)) (hp : pl o = true) (hln : (apos.endLine == pos.line) = true) : PI X te (.Call (.Attribute o "values" apos) [] [] pos) (tI P cf N X W (.ilk 1 a)) := by
  refine PI.mono (pi_values h (pl_attr hp _ _ _) hln) fun σ H R ⟨π, S, ρ, hS, hE, g⟩ => ⟨π, S, ρ, hS, hE, ?_⟩
  simp only [evalI] at g
  refine g.seq fun v S1 π1 H1 x1 q1 g1 x rx => ?_
  cases rx with
  | ref hl =>
    obtain ⟨ob, hs, ro⟩ := q1.addr hl
    simp only [hs] at g1
    cases ob with
    | dic lk kvs =>
      cases lk with
      | true =>
        obtain ⟨od, ys, hd, rk⟩ := ro
        exact ⟨_, od, ys, rfl, hd, G.ok g1 q1 _ (ok_dv hd rk)⟩
      | false => exact g1.elim
    | _ => exact g1.elim
  | _ => exact g1.elim
theorem i_lkI {elts : List Expr} {kk : Nat} {tpos : Pos} (h : PE X o (tEv P cf N X W a)) (hp : pl o = true) (hln : (apos.endLine == pos.line) = true) : PI X (.Tuple elts kk tpos) (.Call (.Attribute o "items" apos) [] [] pos) (tI P cf N X W (.ilk 2 a)) := by
  refine PI.mono (pi_items h (pl_attr hp _ _ _) hln) fun σ H R ⟨π, S, ρ, hS, hE, g⟩ => ⟨π, S, ρ, hS, hE, ?_⟩
  simp only [evalI] at g
  refine g.seq fun v S1 π1 H1 x1 q1 g1 x rx => ?_
  cases rx with
  | ref hl =>
    obtain ⟨ob, hs, ro⟩ := q1.addr hl
    simp only [hs] at g1
    cases ob with
    | dic lk kvs =>
      cases lk with
      | true =>
        obtain ⟨od, ys, hd, rk⟩ := ro
        exact ⟨_, od, ys, rfl, hd, G.ok g1 q1 _ (ok_di hd rk)⟩
      | false => exact g1.elim
    | _ => exact g1.elim
  | _ => exact g1.elim
theorem i_lkK (h : PE X ex (tEv P cf N X W a)) : PI X te ex (tI P cf N X W (.ilk 0 a)) := by
  refine PI.mono (pi_keys h) fun σ H R ⟨π, S, ρ, hS, hE, g⟩ => ⟨π, S, ρ, hS, hE, ?_⟩
  simp only [evalI] at g
  refine g.seq fun v S1 π1 H1 x1 q1 g1 x rx => ?_
  cases rx with
  | ref hl =>
    obtain ⟨ob, hs, ro⟩ := q1.addr hl
    simp only [hs] at g1
    cases ob with
    | dic lk kvs =>
      cases lk with
      | true =>
        obtain ⟨od, ys, hd, rk⟩ := ro
        exact ⟨_, od, rfl, .inl ⟨ys, hd, G.ok g1 q1 _ (ok_dk hd rk)⟩⟩
      | false => exact g1.elim
    | _ => exact g1.elim
  | _ => exact g1.elim
theorem forN_lk (m : Nat) (g : Nat → Store → Option Val) (fin : Store → Bool) (x y : Option Nat) (set : Val → Ev → Option Ev) (body : Ev → Store → F) : ∀ (k i : Nat) (ρ : Ev) (S : Store), forN ⟨m, g, fin, x⟩ set body k i ρ S = forN ⟨m, g, fin, y⟩ set body k i ρ S := fun k => by
  induction k with
  | zero => intro i ρ S; rfl
  | succ k ih =>
    intro i ρ S
    simp only [forN, ih]
theorem compN_lk (m : Nat) (g : Nat → Store → Option Val) (fin : Store → Bool) (x y : Option Nat) (set : Val → Ev → Option Ev) (c : Ev → Store → R Bool) (e : Ev → Store → R Val) (ρ : Ev) : ∀ (k i : Nat) (acc : List Val) (S : Store), compN ⟨m, g, fin, x⟩ set c e ρ k i acc S = compN ⟨m, g, fin, y⟩ set c e ρ k i acc S := fun k => by
  induction k with
  | zero => intro i acc S; rfl
  | succ k ih =>
    intro i acc S
    simp only [compN, ih]
theorem compN_only (iv : IV) (set : Val → Ev → Option Ev) (c : Ev → Store → R Bool) (e : Ev → Store → R Val) (ρ : Ev) : ∀ (k i : Nat) (acc : List Val) (S : Store), compN iv set c e ρ k i acc S = .bad ∨ ∃ xs S', compN iv set c e ρ k i acc S = .ok xs S' := fun k => by
  induction k with
  | zero =>
    intro i acc S
    simp only [compN]
    split
    · exact .inr ⟨_, _, rfl⟩
    · exact .inl rfl
  | succ k ih =>
    intro i acc S
    simp only [compN]
    split
    · exact .inl rfl
    · split
      · exact .inl rfl
      · split
        · split
          · split
            · split
              · exact ih _ _ _
              · exact .inl rfl
            · exact .inl rfl
          · exact ih _ _ _
        · exact .inl rfl
theorem for_walk (h : a.ownF = true) (k : Nat) (tg : List Nat) (one : Bool) (ρ : Ev) (S : Store) : evalS P cf (.for_ tg one (E.walk k a) u) ρ S = .bad ∨ ∃ l kvs, S[l]? = some (.dic false kvs) ∧ (∀ iv S1, evalI P cf (.ilk k a) ρ (S.set l (.dic true kvs)) = .ok iv S1 → iv.lk = none) ∧
    evalS P cf (.for_ tg one (E.walk k a) u) ρ S = (evalS P cf (.for_ tg one (.ilk k a) u) ρ (S.set l (.dic true kvs))).unlk (some l) := by
  have e0 : ∀ (b : E) (S : Store), evalS P cf (.for_ tg one b u) ρ S = (evalI P cf b ρ S).toF ρ fun iv S1 => (forN iv (Ev.tg tg one) (fun ρ S => evalS P cf u ρ S) iv.n 0 ρ S1).unlk iv.lk := fun b S => by simp only [evalS]
  rcases it_lk (P := P) (cf := cf) (ρ := ρ) (S := S) h k with e | ⟨l, kvs, h1, h2, h3⟩
  · exact .inl (by rw [e0, e]; rfl)
  · refine .inr ⟨l, kvs, h1, fun iv S1 q => by rw [h3] at q; cases q; rfl, ?_⟩
    rw [e0, e0, h2, h3]
    simp only [R.toF]
    rw [forN_lk _ _ _ (some l) none]
    rfl
theorem ss_forV (cx : CE P N n s X W) (ho : PassesOwn (model X.prog X.w) X.A X.env X.xe) {tg : List Nat} {one : Bool} (h : PE X o (tEv P cf N X W a)) (hp : pl o = true) (hln : (apos.endLine == p2.line) = true) (ha : a.ownF = true) (hg : tgE s tg one te = true) (hb : PSs X sts (tSs P cf N X W u)) :
    PS X (.For te (.Call (.Attribute o "values" apos) [] [] p2) sts [] pos) (tSs P cf N X W (.for_ tg one (.ivals a) u)) :=
  ps_lk (C := fun ρ S => ∀ iv S1, evalI P cf (.ilk 1 a) ρ S = .ok iv S1 → iv.lk = none) (ss_for0 cx ho (i_lkV h hp hln) hg hb rfl) fun ρ S => for_walk ha 1 tg one ρ S
theorem comp_walk (h : a.ownF = true) (k : Nat) (tg own : List Nat) (one : Bool) (ρ : Ev) (S : Store) : evalL P cf (.lcomp tg one own (E.walk k a) c e) ρ S = .bad ∨ ∃ l kvs, S[l]? = some (.dic false kvs) ∧ (∀ iv S1, evalI P cf (.ilk k a) ρ (S.set l (.dic true kvs)) = .ok iv S1 → iv.lk = none) ∧
    (∀ v S1, evalL P cf (.lcomp tg one own (.ilk k a) c e) ρ (S.set l (.dic true kvs)) = .ok v S1 → ∃ xs, v = .tmp xs) ∧
    evalL P cf (.lcomp tg one own (E.walk k a) c e) ρ S = match evalL P cf (.lcomp tg one own (.ilk k a) c e) ρ (S.set l (.dic true kvs)) with | .ok v S1 => .ok v (unlk S1 (some l)) | _ => .bad := by
  rcases it_lk (P := P) (cf := cf) (ρ := ρ) (S := S) h k with e | ⟨l, kvs, h1, h2, h3⟩
  · exact .inl (by simp only [evalL, e, R.bind])
  · refine .inr ⟨l, kvs, h1, fun iv S1 q => by rw [h3] at q; cases q; rfl, ?_⟩
    simp only [evalL, h2, h3, R.bind]
    rw [compN_lk _ _ _ (some l) none]
    rcases compN_only (⟨kvs.length, fun i _ => (kvs[i]?).map (dkv k), fun _ => true, none⟩ : IV) (Ev.tg tg one) (fun ρ S => if c.isNo = true then R.ok true S else (evalE P cf c ρ S).bind fun v S => MP.ofO (truth v) S) (fun ρ S => evalE P cf e ρ S) (ρ.wipe own) kvs.length 0 [] (S.set l (.dic true kvs)) with z | ⟨xs, S', z⟩
    · simp only [R.bind] at z
      rw [z]
      exact ⟨fun v S1 q => (nomatch q), rfl⟩
    · simp only [R.bind] at z
      rw [z]
      exact ⟨fun v S1 q => by cases q; exact ⟨xs, rfl⟩, rfl⟩
theorem s_lcompI (cx : CE P N n s X W) {elts : List Expr} {kk : Nat} {tpos : Pos} {tg own : List Nat} {one : Bool} {scope : Scope} {ck : E → Expr → Bool} (h : PE X o (tEv P cf N X W a)) (hpo : pl o = true) (hln : (apos.endLine == p2.line) = true) (ha : a.ownF = true)
    (hg : tgE (blkSc s scope) tg one (.Tuple elts kk tpos) = true) (hs : (tg.all fun i => decide (i ∈ own)) = true) (hb : blkC s.N s.sc scope (ownP s own) = true)
    (hc : ∀ {Y : Cx} {x : Expr}, CE P N n (blkSc s scope) Y W0 → ck c x = true → PT Y x (tCt P cf N Y W0 c)) (hf : ifsB ck c ifs = true) (he : ∀ {Y : Cx}, CE P N n (blkSc s scope) Y W0 → PE Y elt (tEv P cf N Y W0 e)) :
    PE X (.ListComp elt [⟨.Tuple elts kk tpos, .Call (.Attribute o "items" apos) [] [] p2, ifs, 0⟩] scope pos) (tL P cf N X W (.lcomp tg one own (.iitems a) c e)) :=
  pe_lk (C := fun ρ S => ∀ iv S1, evalI P cf (.ilk 2 a) ρ S = .ok iv S1 → iv.lk = none) (s_lcomp0 cx (i_lkI h hpo hln) rfl hg hs hb hc hf he) fun ρ S => comp_walk ha 2 tg own one ρ S
theorem unlk_app {S : Store} {l : Nat} {xs : List Val} : unlk (S ++ [.lst xs]) (some l) = unlk S (some l) ++ [.lst xs] ∧ (unlk S (some l)).length = S.length := by
  cases h : S[l]? with
  | none =>
    have hl : S.length ≤ l := List.getElem?_eq_none_iff.mp h
    have e : (S ++ [Ob.lst xs])[l]? = none ∨ (S ++ [Ob.lst xs])[l]? = some (.lst xs) := by
      by_cases q : l = S.length
      · subst q; exact .inr (by simp)
      · exact .inl (List.getElem?_eq_none_iff.mpr (by simp; omega))
    refine ⟨?_, by simp [unlk, h]⟩
    rcases e with e | e <;> simp [unlk, h, e]
  | some ob =>
    have hl : l < S.length := (List.getElem?_eq_some_iff.mp h).1
    have e : (S ++ [Ob.lst xs])[l]? = some ob := by rw [List.getElem?_append_left hl]; exact h
    cases ob with
    | dic lk kvs =>
      cases lk with
      | true => exact ⟨by simp only [unlk, h, e]; exact List.set_append_left _ _ hl, by simp [unlk, h]⟩
      | false => simp [unlk, h, e]
    | _ => simp [unlk, h, e]
theorem set_walk (h : a.ownF = true) (k : Nat) (tg own : List Nat) (one : Bool) (i : Nat) (ρ : Ev) (S : Store) : evalS P cf (.asg (.name i) (.list (.lcomp tg one own (E.walk k a) c e))) ρ S = .bad ∨ ∃ l kvs, S[l]? = some (.dic false kvs) ∧ (∀ iv S1, evalI P cf (.ilk k a) ρ (S.set l (.dic true kvs)) = .ok iv S1 → iv.lk = none) ∧
    evalS P cf (.asg (.name i) (.list (.lcomp tg one own (E.walk k a) c e))) ρ S = (evalS P cf (.asg (.name i) (.list (.lcomp tg one own (.ilk k a) c e))) ρ (S.set l (.dic true kvs))).unlk (some l) := by
  rcases comp_walk (P := P) (cf := cf) (c := c) (e := e) h k tg own one ρ S with q | ⟨l, kvs, h1, h2, h3, h4⟩
  · exact .inl (by simp only [evalS, evalE, q, R.bind, R.toF])
  · refine .inr ⟨l, kvs, h1, h2, ?_⟩
    simp only [evalS, evalE, h4]
    cases r : evalL P cf (.lcomp tg one own (.ilk k a) c e) ρ (S.set l (.dic true kvs)) with
    | bad => rfl
    | exc c1 d1 S1 => rfl
    | ok v S1 =>
      obtain ⟨xs, rfl⟩ := h3 v S1 r
      obtain ⟨u1, u2⟩ := unlk_app (S := S1) (l := l) (xs := xs)
      simp only [R.bind, R.toF, evalT, u2]
      split
      · simp only [F.unlk, u1]
      · rfl
theorem ss_setLcK (cx : CE P N n s X W) {tg own : List Nat} {one : Bool} {scope : Scope} {ck : E → Expr → Bool} {i : Nat} {y : Str} {spos : Pos} (h : PE X ite (tEv P cf N X W a)) (ha : a.ownF = true) (hp : pl ite = true) (hg : tgE (blkSc s scope) tg one te = true) (hs : (tg.all fun i => decide (i ∈ own)) = true) (hb : blkC s.N s.sc scope (ownP s own) = true)
    (hc : ∀ {Y : Cx} {x : Expr}, CE P N n (blkSc s scope) Y W0 → ck c x = true → PT Y x (tCt P cf N Y W0 c)) (hf : ifsB ck c ifs = true) (he : ∀ {Y : Cx}, CE P N n (blkSc s scope) Y W0 → PE Y elt (tEv P cf N Y W0 e))
    (hy : s.N[i]? = some y) (hyl : s.sc.names.lookup y = some .local) (hk : s.sc.kind = .function) (hline : (p2.line == pos.line) = true) (hno : (scope.names.any fun (n, k) => n == y && (k == .local || k == .cell)) = false) :
    PS X (.Assign [.Name y p2] (.ListComp elt [⟨te, ite, ifs, 0⟩] scope pos) spos) (tS X.K N W (evalS P cf (.asg (.name i) (.list (.lcomp tg one own (.ikeys a) c e))))) :=
  ps_lk (C := fun ρ S => ∀ iv S1, evalI P cf (.ilk 0 a) ρ S = .ok iv S1 → iv.lk = none) (ss_setLc0 cx (i_lkK h) hp hg hs hb hc hf he hy hyl hk hline hno) fun ρ S => set_walk ha 0 tg own one i ρ S
/-! sorted -/
theorem keys_ok {K : PySem.W.Frag} {π : List Addr} {H : Hp} : ∀ {kvs : List (Key × Val)} {ys : List (L2.Key × V)} {is : List Int}, RK K N π H kvs ys → intKeys kvs = some is → ys.map (·.1) = is.map Sum.inl
  | [], _, _, .nil, h => by cases h; rfl
  | (.inl i, v) :: r, _, is, .cons q t, h => by
    simp only [intKeys] at h
    obtain ⟨js, h1, rfl⟩ := Option.map_eq_some_iff.mp h
    simp only [List.map_cons, keys_ok t h1, q.1]
  | (.inr x, v) :: r, _, _, _, h => by simp [intKeys] at h
theorem s_lsortD (cx : CE P N n s X W) (h : PE X e1 (tEv P cf N X W a)) (hp : pl e1 = true) (hg : glB s.sc "sorted" = true) (hf : N.frees.contains "sorted" = true) : PE X (.Call (.Name "sorted" p2) [e1] [] pos) (tL P cf N X W (.lsortD a)) := by
  refine PE.mono (pe_callB (call_sortedDI cx.calm) (gl_of cx.hsc hg) (cx.md.free _ hf) PyProof.Rows.boot_sorted (pa_cons h pa_nil (pl_star hp [] X.env)) (by decide +kernel) (by decide +kernel) (pl_star hp [] X.env) rfl) fun σ H Q ⟨π, S, ρ, hS, hE, g⟩ => ⟨π, S, ρ, hS, hE, ?_⟩
  simp only [evalL] at g
  refine g.seq fun v S1 π1 H1 x1 q1 g1 x rx => ?_
  cases rx with
  | ref hl =>
    obtain ⟨ob, hs, ro⟩ := q1.addr hl
    simp only [hs] at g1
    cases ob with
    | dic lk kvs =>
      cases lk with
      | true => exact g1.elim
      | false =>
        simp only at g1
        split at g1
        · rename_i is hi
          split at g1
          · rename_i hlen
            obtain ⟨ys, hd, rk⟩ := ro
            refine ⟨_, ys, is, rfl, .inl hd, keys_ok rk hi, hlen, fun ns p' hperm hsort hnew => ?_⟩
            have e2 : ns = sortI is := List.Perm.eq_of_pairwise (fun a b _ _ h1 h2 => Int.le_antisymm h1 h2) hsort (sortI_sorted is) (hperm.trans (sortI_perm is).symm)
            subst e2
            obtain ⟨y1, y2, y3⟩ := RL.new (xs := (sortI is).map Val.int) (ys := (sortI is).map V.int) q1 hnew RVs.ints
            exact g1 _ _ y1 y2 _ y3 fun a e => by cases e; exact x1.back q1 hnew
          · exact g1.elim
        · exact g1.elim
    | _ => exact g1.elim
  | _ => exact g1.elim
end
/-- sorted(xs), xs tuples of whole numbers -/
def leR (x y : V × List Int) : Bool := decide (x.2 ≤ y.2)
def rSortedR (K : PySem.W.Frag) : List V → Hp → VK → Prop := fun vs H Q => ∃ (a : Addr) (bs : List (V × List Int)), vs = [V.ref a] ∧ SqL K H a (bs.map (·.1)) ∧ (∀ b ∈ bs, b.2 ≠ [] ∧ ∃ t, b.1 = V.ref t ∧ SqT K H t (b.2.map V.int)) ∧
  ∀ p, H p = none → Q (.ref p) (upd H p (.lst ((bs.mergeSort leR).map (·.1))))
theorem each_vals {β : Type} {g : β → V} : ∀ {bs : List β} {us : List Value}, Vals (bs.map g) us → PySem.W.EachIs (fun u b => RelV (g b) u) us bs
  | [], [], _ => .nil
  | [], _ :: _, r => by cases r
  | b :: bs, [], r => by cases r
  | b :: bs, u :: us, r => by cases r with | cons h t => exact .cons h (each_vals t)
theorem vals_each {β : Type} {g : β → V} : ∀ {bs : List β} {us : List Value}, PySem.W.EachIs (fun u b => RelV (g b) u) us bs → Vals (bs.map g) us
  | _, _, .nil => .nil
  | _, _, .cons h t => .cons h (vals_each t)
theorem reads_ints {h : Heap} : ∀ {is : List Int} {us : List Value}, Vals (is.map V.int) us → ReadsAll h us (is.map .int) []
  | [], [], _ => .nil
  | [], _ :: _, r => by cases r
  | _ :: _, [], r => by cases r
  | i :: is, u :: us, r => by
    cases r with
    | cons h t =>
      obtain ⟨tk, rfl⟩ := h
      exact ReadsAll.cons (as := []) (bs := []) (.int i tk) (reads_ints t)
theorem depth_ints0 : ∀ is : List Int, PyData.depthAll (is.map .int) = 0 := PySem.W.depth_ints
theorem dataLe_tups {β : Type} (x : β → List Int) : PySem.W.dataLe false (fun b => .tuple ((x b).map .int)) = fun p q => decide (x p ≤ x q) := by
  funext p q
  show (!PySem.W.dataLt (.tuple ((x q).map .int)) (.tuple ((x p).map .int))) = _
  rw [PySem.W.dataLt_tuple]
  show (!PySem.W.rowLt ((x q).map .int) ((x p).map .int)) = _
  rw [PySem.W.dataLt_ints]
  by_cases h : x q < x p
  · have h' : ¬ x p ≤ x q := fun r => List.not_lt.mpr r h
    simp [h, h']
  · have h' : x p ≤ x q := List.not_lt.mp h
    simp [h, h']
theorem cr_sortedR {X : Cx} (hu : X.A.units + 64 < cLine) : CallR X (.builtin "sorted") (rSortedR X.K) := by
  intro pins s σ H vs us Q I r h
  obtain ⟨a, bs, rfl, hs, hb, q⟩ := h
  obtain ⟨its, rv, hl, hz⟩ := I.list hs
  obtain ⟨u, rfl, ru⟩ := vals1 r
  obtain rfl : u = Value.ref a := ru
  have e := each_vals rv
  have er : PySem.W.EachIs (fun v (b : V × List Int) => ∃ as, Reads s.heap v (.tuple (b.2.map .int)) as) its bs := (PySem.W.each_mem e).mono fun v b ⟨h1, h2⟩ => by
    obtain ⟨_, t, e1, ht⟩ := hb b h2
    rw [e1] at h1
    obtain rfl : v = Value.ref t := h1
    obtain ⟨js, r2, ⟨o, ho, hc, n, hd⟩, _⟩ := I.tuple ht
    exact ⟨[], .tuple ho hc hd (reads_ints (by simpa using r2))⟩
  have hlen : bs.length ≤ sizeLine := by simpa using hz
  refine PySem.W.sorted_data (R := fun u (b : V × List Int) => RelV b.1 u) (enc := fun b => .tuple (b.2.map .int)) hl.isList e er (PySem.W.AllAlike.of fun b b' => by simpa [PySem.W.alike] using PySem.W.alike_ints b.2 b'.2) (.inl fun d hd => by
    obtain ⟨b, h1, rfl⟩ := List.mem_map.mp hd
    have hn := (hb b h1).1
    cases e2 : b.2 with
    | nil => exact absurd e2 hn
    | cons i r => exact ⟨.int i, r.map .int, rfl⟩) hlen (fun b hb => ?_) fun out hl2 ho => ?_
  · have : PyData.depth (.tuple (b.2.map .int)) ≤ 1 := by
      simp [PyData.depth, depth_ints0]
    omega
  · rw [dataLe_tups (fun b : V × List Int => b.2)] at ho
    have hv : Vals ((bs.mergeSort leR).map (·.1)) out := vals_each ho
    obtain ⟨ep, he'⟩ := PyProof.Rows.sortedAll_at s.heap its out.toArray
    refine ⟨.ref _, upd H (s.heap.objs.size + 1) (.lst ((bs.mergeSort leR).map (·.1))), I.laid (t' := s.toks) (fun _ _ => PyProof.Rows.sortedAll_old) (Nat.le_succ _) ⟨?_, out, ep, hv, he'⟩, rfl, q _ (I.hok.fresh (Nat.le_succ _))⟩
    rw [List.length_map, List.length_mergeSort]
    exact hlen
theorem rows_of {K : PySem.W.Frag} {N : Nms} {π : List Addr} {H : Hp} : ∀ {vs : List Val} {ys : List V} {rs : List (List Int)}, RVs K N π H vs ys → intRows vs = some rs → ∃ bs : List (V × List Int), bs.map (·.1) = ys ∧ bs.map (·.2) = rs ∧ ∀ b ∈ bs, b.2 ≠ [] ∧ (∃ t, b.1 = V.ref t ∧ SqT K H t (b.2.map V.int)) ∧ RV K N π H (.tup (b.2.map .int)) b.1
  | [], _, _, .nil, h => by cases h; exact ⟨[], rfl, rfl, by simp⟩
  | v :: vs, y :: ys, rs, .cons r t, h => by
    cases v with
    | tup ws =>
      cases ws with
      | nil => simp [intRows] at h
      | cons w ws =>
        simp only [intRows] at h
        split at h
        · rename_i is js h1 h2
          cases h
          obtain ⟨bs, b1, b2, b3⟩ := rows_of t h2
          cases r with
          | tup ht rr =>
            have e := ints_ok rr h1
            subst e
            have rr2 : RVs K N π H (is.map Val.int) (is.map V.int) := RVs.ints
            rename_i ta
            refine ⟨(V.ref ta, is) :: bs, by simp [b1], by simp [b2], fun b hb => ?_⟩
            rcases List.mem_cons.mp hb with z | z
            · subst z
              refine ⟨fun z => ?_, ⟨_, rfl, ht.sq⟩, .tup ht rr2⟩
              have hl := rr.length
              rw [show is = [] from z] at hl
              simp at hl
            · exact b3 b z
        · cases h
    | _ => simp [intRows] at h
theorem rvs_map {K : PySem.W.Frag} {N : Nms} {π : List Addr} {H : Hp} {β : Type} {f : β → Val} {g : β → V} : ∀ {bs : List β}, (∀ b ∈ bs, RV K N π H (f b) (g b)) → RVs K N π H (bs.map f) (bs.map g)
  | [], _ => .nil
  | b :: bs, h => .cons (h b (by simp)) (rvs_map fun c hc => h c (by simp [hc]))
section
variable {P : Prog} {cf : Nat → List Val → Store → R Val} {N : Nms} {n : Nat} {s : Sc} {X : Cx} {W : WX} {pos p2 : Pos} {e1 : Expr} {a : E}
theorem s_lsortT (cx : CE P N n s X W) (h : PE X e1 (tL P cf N X W a)) (hp : pl e1 = true) (hg : glB s.sc "sorted" = true) (hf : N.frees.contains "sorted" = true) : PE X (.Call (.Name "sorted" p2) [e1] [] pos) (tL P cf N X W (.lsortT a)) := by
  refine PE.mono (pe_callB (cr_sortedR (by have := cx.room.un; omega)) (gl_of cx.hsc hg) (cx.md.free _ hf) PyProof.Rows.boot_sorted (pa_cons h pa_nil (pl_star hp [] X.env)) (by decide +kernel) (by decide +kernel) (pl_star hp [] X.env) rfl) fun σ H Q ⟨π, S, ρ, hS, hE, g⟩ => ⟨π, S, ρ, hS, hE, ?_⟩
  simp only [evalL] at g
  refine g.seq fun v S1 π1 H1 x1 q1 g1 x rx nx => ?_
  split at g1
  · rename_i rs hi
    split at hi
    · cases hi
    · rename_i ht
      split at g1
      · rename_i hl
        obtain ⟨xs, h1, h2⟩ := Option.bind_eq_some_iff.mp hi
        obtain ⟨p, ys, rfl, r2, sq⟩ := rx.now q1 h1
        obtain ⟨bs, b1, b2, b3⟩ := rows_of r2 h2
        rcases sq with sq | sq
        · refine ⟨p, bs, rfl, by rw [b1]; exact sq.1, fun b hb => ⟨(b3 b hb).1, (b3 b hb).2.1⟩, fun p' hnew => ?_⟩
          have e : (bs.mergeSort leR).map (·.2) = sortR rs := by
            rw [← b2]
            exact PySem.W.sort_maps (s := fun a b => decide (a ≤ b)) (fun b : V × List Int => b.2) fun _ _ _ _ => rfl
          have rr : RVs X.K N π1 H1 ((sortR rs).map fun r => Val.tup (r.map .int)) ((bs.mergeSort leR).map (·.1)) := by
            rw [← e, List.map_map]
            exact rvs_map fun b hb => (b3 b (List.mem_mergeSort.mp hb)).2.2
          obtain ⟨y1, y2, y3⟩ := RL.new q1 hnew rr
          exact g1 _ _ y1 y2 _ y3 fun a e => by cases e; exact x1.back q1 hnew
        · rw [sq.2] at ht
          exact absurd rfl ht
      · exact g1.elim
  · exact g1.elim
end
end MP
/-! zip of a list or a tuple with a list or a tuple. -/
namespace MP
open PySem PySem.Spec PyProof.Rows L2
/-- true: a tuple, false: a list -/
def SqB (k : Bool) (K : PySem.W.Frag) (H : Hp) (a : Addr) (xs : List V) : Prop := match k with
  | true => SqT K H a xs
  | false => SqL K H a xs
def HIs (k : Bool) (h : Heap) (a : Addr) (its : Array Value) : Prop := match k with
  | true => h.IsTuple a its
  | false => h.IsList a its
def HIt (k : Bool) (h : Heap) (it a : Addr) (i : Nat) : Prop := match k with
  | true => h.IsTupleIter it a i
  | false => h.IsListIter it a i
def itO (k : Bool) (a : Addr) : Obj := match k with
  | true => { cls := .type "tuple_iterator", data := .fields #[.ref a, .int 0 0] }
  | false => { cls := .type "list_iterator", data := .fields #[.ref a, .int 0 0] }
theorem HIt.at_ {k : Bool} {h h' : Heap} {it a : Addr} {i : Nat} (x : HIt k h it a i) (e : ∀ o, h.get? it = some o → h'.get? it = some o) : HIt k h' it a i := by
  cases k
  · exact Heap.IsListIter.at x e
  · exact Heap.IsTupleIter.at x e
theorem HIt.obj {k : Bool} {h : Heap} {it a : Addr} {i : Nat} (x : HIt k h it a i) : ∃ o, h.get? it = some o ∧ ∀ v, o.data ≠ .cell v := by
  cases k
  · obtain ⟨o, e, _, d⟩ := x
    exact ⟨o, e, fun v q => by rw [d] at q; cases q⟩
  · obtain ⟨o, e, _, d⟩ := x
    exact ⟨o, e, fun v q => by rw [d] at q; cases q⟩
theorem begins_k (k : Bool) (a : Addr) (its : Array Value) : Begins (.ref a) (itO k a) fun h => HIs k h a its := by
  cases k
  · exact begins_list a its
  · exact begins_tuple a its
theorem it0 {k : Bool} {h : Heap} {it a : Addr} (e : h.get? it = some (itO k a)) : HIt k h it a 0 := by
  cases k
  · exact ⟨_, e, rfl, rfl⟩
  · exact ⟨_, e, rfl, rfl⟩
theorem inv_k {X : Cx} {pins : List (Addr × Obj)} {σ : L2.St} {H : Hp} {s : Shared} {k : Bool} {a : Addr} {xs : List V} (I : Inv X pins σ H s) (h : SqB k X.K H a xs) : ∃ its : List Value, Vals xs its ∧ HIs k s.heap a its.toArray ∧ a < s.heap.objs.size := by
  cases k
  · obtain ⟨its, rv, p, _⟩ := I.list h
    exact ⟨its, rv, p.isList, p.lt⟩
  · obtain ⟨its, rv, p, _⟩ := I.tuple h
    obtain ⟨o, ho, _⟩ := _root_.id p
    exact ⟨its, rv, p, Heap.lt_size ho⟩
theorem inj_k {X : Cx} {pins : List (Addr × Obj)} {σ : L2.St} {H : Hp} {s : Shared} {k : Bool} {a : Addr} {xs ys : List V} (I : Inv X pins σ H s) (h : SqB k X.K H a xs) (h' : SqB k X.K H a ys) : xs = ys := by
  cases k
  · exact I.list_inj h h'
  · exact I.tuple_inj h h'
theorem draws_k {prog : Program} {w : World} {A : Around} (hh : A.handled = none) (k : Bool) (it l : Addr) (hne : l ≠ it) (items : Array Value) :
    Draws prog w A it [it, l] items.size (fun i v => items[i]? = some v) (fun i h => HIt k h it l i ∧ HIs k h l items) := by
  cases k
  · exact Draws.list hh it l hne items
  · exact Draws.tuple hh it l hne items
/-- at its end, however far -/
theorem ends_k {prog : Program} {w : World} {A : Around} (hh : A.handled = none) (k : Bool) (it l : Addr) (items : Array Value) (i : Nat) (hi : items[i]? = none) :
    Draws prog w A it [it, l] i (fun i v => items[i]? = some v) (fun j h => j = i ∧ HIt k h it l i ∧ HIs k h l items) where
  live := fun _ _ st => let ⟨o, ho, _⟩ := st.2.1.obj; ⟨o, ho⟩
  frame := fun _ _ _ st hk => ⟨st.1, st.2.1.at_ fun o e => hk it (by simp) o e, by
    cases k
    · exact Heap.IsList.at st.2.2 fun o e => hk l (by simp) o e
    · exact Heap.IsTuple.at st.2.2 fun o e => hk l (by simp) o e⟩
  item := fun j s Q E hj st hQ => absurd st.1 (by omega)
  done := fun s Q E st hE => by
    cases k
    · exact wpAny_nextOf_list_end hh st.2.1 st.2.2 hi hE
    · exact wpAny_nextOf_tuple_end hh st.2.1 st.2.2 hi hE
def ItzG (k k' : Bool) (K : PySem.W.Frag) (a b : Addr) : It :=
  ⟨fun i H => ∃ (xs ys : List V) (x y : V), SqB k K H a xs ∧ SqB k' K H b ys ∧ xs[i]? = some x ∧ ys[i]? = some y,
    fun i H v H' => ∃ T x y, v = .ref T ∧ H T = none ∧ H' = upd H T (.tup [x, y]) ∧ (∀ xs, SqB k K H a xs → xs[i]? = some x) ∧ ∀ ys, SqB k' K H b ys → ys[i]? = some y,
    fun i H => ∃ xs ys : List V, SqB k K H a xs ∧ SqB k' K H b ys ∧ (xs.length ≤ i ∨ ys.length ≤ i)⟩
/-- where a zip's cells lie -/
structure Cells (z TI TO i1 i2 a b : Addr) : Prop where
  sep : ZipSep2 z TI TO i1 i2 [i1, a] [i2, b]
  a1 : a ≠ i1
  b2 : b ≠ i2
theorem cells_new {n a b : Nat} (ha : a < n) (hb : b < n) : Cells (n + 4) (n + 2) (n + 3) n (n + 1) a b := by
  have d : ∀ x y : Nat, x < y ∨ y < x → ¬ (x = y) := fun x y h => by omega
  have nm : ∀ x y z : Nat, ¬ (x = y) → ¬ (x = z) → x ∉ [y, z] := fun x y z h1 h2 h => by
    rcases List.mem_cons.mp h with q | q
    · exact h1 q
    · exact h2 (List.mem_singleton.mp q)
  exact ⟨⟨d _ _ (by omega), d _ _ (by omega), d _ _ (by omega), d _ _ (by omega), List.mem_cons_self .., nm _ _ _ (d _ _ (by omega)) (d _ _ (by omega)), nm _ _ _ (d _ _ (by omega)) (d _ _ (by omega)), d _ _ (by omega), List.mem_cons_self .., nm _ _ _ (d _ _ (by omega)) (d _ _ (by omega)), nm _ _ _ (d _ _ (by omega)) (d _ _ (by omega)), nm _ _ _ (d _ _ (by omega)) (d _ _ (by omega)), nm _ _ _ (d _ _ (by omega)) (d _ _ (by omega))⟩, d _ _ (by omega), d _ _ (by omega)⟩
section
variable {P : Program} {w : World} {K : PySem.W.Frag} {elts : List Expr} {kk : Nat} {tpos : Pos} {a b z TI TO i1 i2 : Addr} {k k' : Bool}
theorem turn_zipG (D : Cells z TI TO i1 i2 a b) :
    Turn P w K (.Tuple elts kk tpos) (ItzG k k' K a b) [z, TI, TO, i1, i2] z (fun i h => IsZip h z TI TO .none ∧ IsPair h TI (.ref i1) (.ref i2) ∧ (∃ x y, IsPair h TO x y) ∧ HIt k h i1 a i ∧ HIt k' h i2 b i) where
  mem := by simp
  obj := fun i h st c hc => by
    obtain ⟨hz, hTI, ⟨x, y, hTO⟩, h1, h2⟩ := st
    have e' : c = z ∨ c = TI ∨ c = TO ∨ c = i1 ∨ c = i2 := by simpa using hc
    rcases e' with q | q | q | q | q
    · subst q; exact ⟨_, hz, fun v q => nomatch q⟩
    · subst q; exact ⟨_, hTI, fun v q => nomatch q⟩
    · subst q; exact ⟨_, hTO, fun v q => nomatch q⟩
    · subst q; exact h1.obj
    · subst q; exact h2.obj
  keep := fun i h h' st q => ⟨q z (by simp) _ st.1, q TI (by simp) _ st.2.1, let ⟨x, y, e⟩ := st.2.2.1; ⟨x, y, q TO (by simp) _ e⟩, st.2.2.2.1.at_ fun o e => q i1 (by simp) o e, st.2.2.2.2.at_ fun o e => q i2 (by simp) o e⟩
  item := by
    intro X hP hw hK hc i pins s σ H E I hf st hg
    subst hP hw hK
    have hh : X.A.in1.handled = none := I.ok.hd hc
    obtain ⟨hz, hTI, ⟨x0, y0, hTO⟩, h1, h2⟩ := st
    obtain ⟨xs, ys, x, y, hqx, hqy, hx, hy⟩ := hg
    obtain ⟨its, rv, p, _⟩ := inv_k I hqx
    obtain ⟨its2, rv2, p2, _⟩ := inv_k I hqy
    obtain ⟨u, hu, ru⟩ := rv.get hx
    obtain ⟨u2, hu2, ru2⟩ := rv2.get hy
    have hzl : z < s.heap.objs.size := Heap.lt_size hz
    have hl1 : i < its.toArray.size := by simpa using (List.getElem?_eq_some_iff.mp hu).1
    have hl2 : i < its2.toArray.size := by simpa using (List.getElem?_eq_some_iff.mp hu2).1
    refine wpAny_pyNext_zipD2_item D.sep (draws_k hh k i1 a D.a1 its.toArray) (draws_k hh k' i2 b D.b2 its2.toArray) hz hTI hTO ⟨h1, p⟩ ⟨h2, p2⟩ hl1 hl2 fun v1 v2 h' tk y1 y2 z' TO' s1 s2 hT hsz hk => ?_
    have ev1 : v1 = u := by
      have : its.toArray[i]? = some u := by simpa using hu
      rw [this] at y1; exact (Option.some.inj y1).symm
    have ev2 : v2 = u2 := by
      have : its2.toArray[i]? = some u2 := by simpa using hu2
      rw [this] at y2; exact (Option.some.inj y2).symm
    subst ev1; subst ev2
    refine ⟨_, rfl, wpAny_letOwnedTupleGo_zip (s := { s with heap := h', toks := tk }) z' fun h'' z'' sb => ?_⟩
    have hT2 : h''.get? s.heap.objs.size = some { cls := .type "tuple", data := .seq #[v1, v2] } := (sb.2 _ (Nat.ne_of_gt hzl)).trans hT
    have new : ObjOk X.prog X.w (upd H s.heap.objs.size (.tup [x, y])) h'' s.heap.objs.size (.tup [x, y]) :=
      ⟨by show 2 ≤ sizeLine; decide, [v1, v2], .cons ru (.cons ru2 .nil), ⟨_, hT2, rfl, _, rfl⟩⟩
    have I1 : Inv X pins σ (upd H s.heap.objs.size (.tup [x, y])) { s with heap := h'', toks := tk } :=
      I.turnedNew (t' := tk) (ch := [z, TI, TO, i1, i2]) (fun c o hb q => (sb.2 c (fun q' => hb (by simp [q']))).trans (hk c o (fun q' => hb (by simp [q'])) (fun q' => hb (by simp [q'])) (fun q' => hb (by simp [q'])) (fun q' => hb (by simp [q'])) q)) hf (Nat.le_refl _) new
    refine ⟨.ref s.heap.objs.size, _, I1, rfl, ⟨_, x, y, rfl, I.hok.fresh (Nat.le_refl _), rfl, fun l hl => by rw [inj_k I hl hqx]; exact hx, fun l hl => by rw [inj_k I hl hqy]; exact hy⟩, ⟨z'', ?_, ⟨v1, v2, ?_⟩, ?_, ?_⟩, fun c hcm => ?_⟩
    · exact (sb.2 _ D.sep.TIz).trans (hk _ _ D.sep.TIz D.sep.TITO D.sep.TIi1 D.sep.TIi2 hTI)
    · exact (sb.2 _ D.sep.TOz).trans TO'
    · exact s1.1.at_ fun o q => (sb.2 _ D.sep.zi1.symm).trans q
    · exact s2.1.at_ fun o q => (sb.2 _ D.sep.zi2.symm).trans q
    · have hlt : c < s.heap.objs.size := by
        have e' : c = z ∨ c = TI ∨ c = TO ∨ c = i1 ∨ c = i2 := by simpa using hcm
        rcases e' with q | q | q | q | q
        · rw [q]; exact hzl
        · rw [q]; exact Heap.lt_size hTI
        · rw [q]; exact Heap.lt_size hTO
        · rw [q]; obtain ⟨_, e1, _⟩ := h1.obj; exact Heap.lt_size e1
        · rw [q]; obtain ⟨_, e2, _⟩ := h2.obj; exact Heap.lt_size e2
      rw [upd_ne (Nat.ne_of_lt hlt)]
      exact (hf c hcm).1
  done := by
    intro X hP hw hK hc i pins s σ H E I hf st hg
    subst hP hw hK
    have hh : X.A.in1.handled = none := I.ok.hd hc
    obtain ⟨hz, hTI, ⟨x0, y0, hTO⟩, h1, h2⟩ := st
    obtain ⟨xs, ys, hqx, hqy, hend⟩ := hg
    obtain ⟨its, rv, p, _⟩ := inv_k I hqx
    obtain ⟨its2, rv2, p2, _⟩ := inv_k I hqy
    have l1 := rv.length
    have l2 := rv2.length
    have fin : ∀ h' tk, (∀ c o, c ≠ z → c ≠ TO → c ≠ i1 → c ≠ i2 → s.heap.get? c = some o → h'.get? c = some o) → (none : Option Value) = none ∧ Inv X pins σ H { s with heap := h', toks := tk } := fun h' tk hk => ⟨rfl, I.turnedL (t' := tk) (ch := [z, TI, TO, i1, i2]) (fun c o hb q =>
      hk c o (fun q' => hb (by simp [q'])) (fun q' => hb (by simp [q'])) (fun q' => hb (by simp [q'])) (fun q' => hb (by simp [q'])) q) hf⟩
    by_cases c1 : its.toArray.size ≤ i
    · by_cases c2 : its2.toArray.size ≤ i
      · exact wpAny_pyNext_zipD2_end D.sep (ends_k hh k i1 a its.toArray i (by simpa using c1)) (ends_k hh k' i2 b its2.toArray i (by simpa using c2)) hz hTI hTO ⟨rfl, h1, p⟩ ⟨rfl, h2, p2⟩ (Nat.le_refl _) (Nat.le_refl _) (.inl rfl) fun h' tk hk => fin h' tk hk
      · exact wpAny_pyNext_zipD2_end D.sep (ends_k hh k i1 a its.toArray i (by simpa using c1)) (draws_k hh k' i2 b D.b2 its2.toArray) hz hTI hTO ⟨rfl, h1, p⟩ ⟨h2, p2⟩ (Nat.le_refl _) (by omega) (.inl rfl) fun h' tk hk => fin h' tk hk
    · have c2 : its2.toArray.size ≤ i := by
        rcases hend with q | q
        · exact absurd (by simp; omega) c1
        · simp; omega
      exact wpAny_pyNext_zipD2_end D.sep (draws_k hh k i1 a D.a1 its.toArray) (ends_k hh k' i2 b its2.toArray i (by simpa using c2)) hz hTI hTO ⟨h1, p⟩ ⟨rfl, h2, p2⟩ (by omega) (Nat.le_refl _) (.inr rfl) fun h' tk hk => fin h' tk hk
  self := fun A i s Q E st h => wpAny_pyIter_zip st.1 h
end
def iZipG (K : PySem.W.Frag) (ta : TA) : TI := fun σ H R => ta σ H fun vs H1 => ∃ a b xs ys k k', vs = [.ref a, .ref b] ∧ SqB k K H1 a xs ∧ SqB k' K H1 b ys ∧ R (ItzG k k' K a b) H1
theorem pi_zipG {X : Cx} {e e2 : Expr} {ta : TA} {p pos tpos : Pos} {elts : List Expr} {kk : Nat} (hg : Gl X "zip") (hm : X.mg "zip" = none) (ha : PA X [e, e2] ta)
    (hs : starEach [e, e2] X.env = (false, eval e X.env) :: starEach [e2] X.env := by rfl) (hpl : (backTo pos (starEach [e2] X.env)).any (·.1) = false := by rfl) :
    PI X (.Tuple elts kk tpos) (.Call (.Name "zip" p) [e, e2] [] pos) (iZipG X.K ta) := by
  refine ⟨fun pins s σ H R I h => ?_⟩
  refine Call_ (ld_blt I hg hm PyProof.Rows.boot_zip (PyProof.Rows.callWith_type1 (thn (ha.run pos pins s σ H _ I h) fun us s1 ⟨vs, H1, I1, r1, q1⟩ => ?_) hs hpl))
  obtain ⟨a, b, xs, ys, k, k', ex, hqx, hqy, q⟩ := q1
  subst ex
  cases r1 with
  | cons r rr =>
    cases rr with
    | cons r' rr =>
      cases rr
      cases r
      cases r'
      have fresh : ∀ c, c ∈ [s1.heap.objs.size + 4, s1.heap.objs.size + 2, s1.heap.objs.size + 3, s1.heap.objs.size, s1.heap.objs.size + 1] → FpOk X pins H1 c := fun c hcm => by
        have hle : s1.heap.objs.size ≤ c := by simp at hcm; omega
        exact I1.fpOk hle (I1.hok.fresh hle)
      obtain ⟨its, rv, p1, la⟩ := inv_k I1 hqx
      obtain ⟨its2, rv2, p2, lb⟩ := inv_k I1 hqy
      refine zip_begins2 (begins_k k a its.toArray) (begins_k k' b its2.toArray) p1 p2 fun h' hz hTI hTO h1 h2 hsz hk => wpAny_pyIter_zip hz ?_
      have I2 : Inv X pins σ H1 { s1 with heap := h' } := I1.kept (t' := s1.toks) hk
      exact ⟨s1.heap.objs.size + 4, [s1.heap.objs.size + 4, s1.heap.objs.size + 2, s1.heap.objs.size + 3, s1.heap.objs.size, s1.heap.objs.size + 1], _, _, H1, rfl, I2, turn_zipG (cells_new la lb), ⟨hz, hTI, ⟨_, _, hTO⟩, it0 h1, it0 h2⟩, fresh, q⟩
section
variable {K : PySem.W.Frag} {N : Nms} {π0 π : List Addr} {H0 H : Hp} {S : Store}
theorem later_k {v : LV} {a : Addr} {zs : List Val} (r : RL K N π0 H0 v (.ref a)) (x : Ext π0 H0 π H) (hS : RS K N π S H) (z : v.now S = some zs) : ∃ us, RVs K N π H zs us ∧ SqB v.isT K H a us := by
  obtain ⟨us, a1, a2, a3⟩ := r.later x hS z
  refine ⟨us, a1, ?_⟩
  cases h : v.isT with
  | false => exact a2 h
  | true => exact a3 h
end
section
variable {P : Prog} {cf : Nat → List Val → Store → R Val} {N : Nms} {n : Nat} {s : Sc} {X : Cx} {W : WX} {pos p2 : Pos} {e1 e2 : Expr} {a b : E} {elts : List Expr} {kk : Nat}
theorem i_zip {tpos : Pos} (cx : CE P N n s X W) (h : PE X e1 (tL P cf N X W a)) (h' : PE X e2 (tL P cf N X W b)) (hp : pl e1 = true) (hp' : pl e2 = true) (hg : glB s.sc "zip" = true) (hf : N.frees.contains "zip" = true) : PI X (.Tuple elts kk tpos) (.Call (.Name "zip" p2) [e1, e2] [] pos) (tI P cf N X W (.izip a b)) := by
  refine PI.mono (pi_zipG (gl_of cx.hsc hg) (cx.md.free _ hf) (pa_cons h (row1 h' hp') (pl_star hp _ X.env)) (pl_star hp _ X.env) (no_star1 hp' pos X.env)) fun σ H R ⟨π, S, ρ, hS, hE, g⟩ => ⟨π, S, ρ, hS, hE, ?_⟩
  simp only [evalI] at g
  refine g.seq fun v S1 π1 H1 x1 q1 g1 x rx nx => ⟨π1, S1, ρ, q1, hE.ext x1, ?_⟩
  refine g1.seq fun w S2 π2 H2 x2 q2 g2 y ry ny => ?_
  have rx := rx.ext x2
  split at g2
  · rename_i xs ys hx hy
    have q := G.ok g2 q2
    obtain ⟨a, rfl⟩ := rx.ref
    obtain ⟨b, rfl⟩ := ry.ref
    obtain ⟨us, k1, k2⟩ := later_k rx Ext.refl q2 hx
    obtain ⟨ws, l1, l2⟩ := later_k ry Ext.refl q2 hy
    exact ⟨a, b, us, ws, v.isT, w.isT, rfl, k2, l2, q _ (ok_z0 (Sq := SqB v.isT X.K) (Sq' := SqB w.isT X.K) rx ry hx hy (fun x hS z => later_k rx x hS z) (fun x hS z => later_k ry x hS z) (fun _ _ z => z) (fun _ _ _ _ z => z) (fun _ _ z => z))⟩
  · exact g2.elim
end
end MP
/-! sorted(xs, key=f), f a def of the text whose calls give whole numbers and may lay new objects. -/
namespace MP
open PySem PySem.Spec PySem.Calls PyProof.Rows PySem.W
section
variable {prog : Program} {w : World} {A : Around} {E : Value → Shared → Prop} {s : Shared} {a kS : Addr} {vs : List Value} {e1 : Nat} {P : PySem.Fin → Shared → Prop} {kz : List Int}
/-- h' has all of h but what lies at a and at b -/
def But2 (a b : Addr) (h h' : Heap) : Prop := ∀ c o, c ≠ a → c ≠ b → h.get? c = some o → h'.get? c = some o
theorem snoc_each {R : Value → Int → Prop} : ∀ {us : List Value} {ks : List Int} {v : Value} {k : Int}, EachIs R us ks → R v k → EachIs R (us ++ [v]) (ks ++ [k])
  | _, _, _, _, .nil, h => .cons h .nil
  | _, _, _, _, .cons g t, h => .cons g (snoc_each t h)
theorem each_data {h : Heap} : ∀ {us : List Value} {ks : List Int}, EachIs (fun v k => ∃ t, v = Value.int k t) us ks → EachIs (fun v d => ∃ as, Reads h v d as) us (ks.map PyData.int)
  | _, _, .nil => .nil
  | _, _, .cons ⟨t, e⟩ r => .cons ⟨[], by rw [e]; exact .int _ _⟩ (each_data r)
theorem keyJ_rest {f : Value} {J : Nat → Shared → Prop} (h0 : J 0 s) (nk : s.heap.get? kS = some (seqObj "list" #[] 0)) (na : s.heap.get? a = some (seqObj "list" #[] e1)) (hka : kS ≠ a)
    (hlen : kz.length = vs.length) (hZ : vs.length ≤ sizeLine) (hu : A.units + 1 < cLine)
    (turn : ∀ j v k s', vs[j]? = some v → kz[j]? = some k → J j s' → ∀ kA e, s'.heap.get? kS = some (seqObj "list" kA e) → s'.heap.get? a = some (seqObj "list" #[] e1) →
      wpAny (model prog w) A (call f [v]) (fun u s2 => (∃ t, u = .int k t) ∧ J (j + 1) s2 ∧ s2.heap.get? kS = some (seqObj "list" kA e) ∧ s2.heap.get? a = some (seqObj "list" #[] e1)) (fun _ _ => False) s')
    (push : ∀ j s' h' tk, J j s' → (∀ c o, c ≠ kS → s'.heap.get? c = some o → h'.get? c = some o) → J j { s' with heap := h', toks := tk })
    (h : ∀ s' h' tk out c, J vs.length s' → But2 a kS s'.heap h' → h'.get? a = some (seqObj "list" (List.toArray out) c) → KeyedOut false (kz.map PyData.int) vs out → P (.done (.ret .none)) { s' with heap := h', toks := tk }) :
    wpAny (model prog w) A (ksk_rest a f false vs.toArray e1 (.ref kS)) P E s := by
  unfold ksk_rest
  refine wpAny_bind (wpAny_rule ?_)
  first
    | rw [List.forIn_toArray]
    | (rw [← Array.forIn_toList]; simp only [List.toList_toArray])
    | rw [← Array.forIn_toList]
  refine wpAny_bind (ksk_fold (fun i s' => ∃ kA e, J i s' ∧ s'.heap.get? kS = some (seqObj "list" kA e) ∧ s'.heap.get? a = some (seqObj "list" #[] e1) ∧ EachIs (fun v k => ∃ t, v = Value.int k t) kA.toList (kz.take i)) vs 0 s
    ⟨#[], 0, h0, nk, na, by rw [List.take_zero]; exact .nil⟩ ?step ?done)
  case step =>
    rintro j x s' hx ⟨kA, e, hJ, nk', na', hk⟩
    simp only [Nat.zero_add] at hk hJ ⊢
    have hj : j < vs.length := (List.getElem?_eq_some_iff.mp hx).1
    obtain ⟨k, hkj⟩ : ∃ k, kz[j]? = some k := ⟨_, List.getElem?_eq_getElem (by omega)⟩
    have hz : kA.size ≤ vs.length := by
      have h1 := hk.length
      rw [Array.length_toList, List.length_take] at h1
      omega
    refine wpAny_bind (wpAny_attempt (wpAny_mono (turn j x k s' hx hkj hJ kA e nk' na') (fun v s2 he => ?_) fun _ _ hF => hF.elim))
    obtain ⟨ht, hJ2, nk2, na2⟩ := he
    try dsimp only
    obtain ⟨c2, hc2⟩ : ∃ c2, (s2.heap.update kS (Obj.mapSeq (·.push v))).get? kS = some (seqObj "list" (kA.push v) c2) := ⟨_, get?_update_seq nk2 (·.push v)⟩
    have s1 := Heap.SameBut.update s2.heap kS (Obj.mapSeq (·.push v))
    have ek : kz.take (j + 1) = kz.take j ++ [k] := by rw [List.take_add_one, hkj]; simp
    have ea : (kA.push v).toList = kA.toList ++ [v] := by simp
    refine wpAny_bind (listUpdate_at nk2 rfl ?_ (Nat.le_trans hz hZ) (Nat.le_trans (Nat.le_of_eq (Array.size_push ..)) (Nat.succ_le_succ (Nat.le_trans hz hZ))))
    refine wpAny_pure ⟨rfl, kA.push v, c2, push _ s2 _ _ hJ2 fun c o hc q => (s1.2 c hc).trans q, hc2, (s1.2 a hka.symm).trans na2, ?_⟩
    rw [ea, ek]
    exact snoc_each hk ht
  case done =>
    rintro s' ⟨kA, e, hJ, nk', na', hk⟩
    have e3 : kz.take (0 + vs.length) = kz := List.take_of_length_le (by omega)
    rw [e3] at hk
    rw [Nat.zero_add] at hJ
    have hk' := each_data (h := s'.heap) hk
    have hsz : kA.size = vs.length := by
      have h1 := hk.length
      rw [Array.length_toList] at h1
      omega
    try dsimp only
    refine wpAny_bind (listItems_at nk' rfl ?_)
    have hal : AllAlike (kz.map PyData.int) := AllAlike.of fun _ _ => by simp [alike]
    have hsk : Sortable (kz.map PyData.int) := Sortable.others fun b => ⟨(fun z => nomatch z), fun xs z => nomatch z⟩
    have hd : ∀ d, d ∈ kz.map PyData.int → A.units + d.depth < cLine := fun d hd => by
      obtain ⟨k, _, rfl⟩ := List.mem_map.mp hd
      have : (PyData.int k).depth = 0 := by simp [PyData.depth]
      omega
    obtain ⟨G, g1, g2⟩ := L2.restrict s'.heap fun b => !(b == kS)
    have hG : KeepsBut a G s'.heap := fun b o _ q => by
      by_cases hb : b = kS
      · rw [hb, g2 kS (by simp)] at q; cases q
      · rwa [g1 b (by simp [hb])] at q
    exact keyH_end (κ := dataKind s'.heap (kz.map PyData.int)) (h₁ := G) (s := s') hG (g2 kS (by simp)) nk' na' hka (SortsAt.data (s := s') hk' hal hsk hd) hsz hZ fun h3 tk3 c k3 n3 => h s' h3 tk3 _ c hJ (fun b o hb hk q => k3 b o hb ((g1 b (by simp [hk])).trans q)) n3 ⟨s'.heap, kA.toList, hal, rfl, hk'⟩
theorem sorted_keyJ {l : Addr} {f : Addr} {Q : Value → Shared → Prop} {J : Addr → Addr → Nat → Shared → Prop} (hl : s.heap.IsList l vs.toArray) (hlen : kz.length = vs.length) (hZ : vs.length ≤ sizeLine) (hu : A.units + 3 < cLine)
    (start : ∀ a kS h', kS ≠ a → s.heap.objs.size ≤ a → s.heap.objs.size ≤ kS → (∀ b o, s.heap.get? b = some o → h'.get? b = some o) → J a kS 0 { s with heap := h' })
    (turn : ∀ a kS e1 j v k s', vs[j]? = some v → kz[j]? = some k → J a kS j s' → ∀ kA e, s'.heap.get? kS = some (seqObj "list" kA e) → s'.heap.get? a = some (seqObj "list" #[] e1) →
      wpAny (model prog w) A.in1.in1 (call (.ref f) [v]) (fun u s2 => (∃ t, u = .int k t) ∧ J a kS (j + 1) s2 ∧ s2.heap.get? kS = some (seqObj "list" kA e) ∧ s2.heap.get? a = some (seqObj "list" #[] e1)) (fun _ _ => False) s')
    (push : ∀ a kS j s' h' tk, J a kS j s' → (∀ c o, c ≠ kS → s'.heap.get? c = some o → h'.get? c = some o) → J a kS j { s' with heap := h', toks := tk })
    (h : ∀ a kS s' h' tk out c, J a kS vs.length s' → But2 a kS s'.heap h' → h'.get? a = some (seqObj "list" (List.toArray out) c) → KeyedOut false (kz.map PyData.int) vs out → Q (.ref a) { s' with heap := h', toks := tk }) :
    wpAny (model prog w) A (call (.builtin "sorted") [.ref l] [(Str.ofString "key", .ref f)]) Q E s := by
  refine sorted_of_sort hl hZ (ksk_s1 _ _) (fun _ => ksk_l1 _ _) fun E' => ?_
  rw [ksk_t1]
  obtain ⟨B, hB⟩ : ∃ B, copyHeap s.heap vs = B := ⟨_, rfl⟩
  obtain ⟨a, haa⟩ : ∃ a, s.heap.objs.size + 1 = a := ⟨_, rfl⟩
  have ho : B.get? a = some (seqObj "list" vs.toArray 0) := by rw [← hB, ← haa]; exact copyHeap_at s.heap vs
  have up : ∀ b o, s.heap.get? b = some o → B.get? b = some o := fun b o e => by rw [← hB]; exact copyHeap_old e
  rw [hB, haa]
  have hsza : s.heap.objs.size ≤ a := by omega
  have ha : a < B.objs.size := Heap.lt_size ho
  obtain ⟨e1, ho1⟩ : ∃ e1, (B.update a (Obj.mapSeq fun _ => (#[] : Array Value))).get? a = some (seqObj "list" #[] e1) := ⟨_, get?_update_seq ho fun _ => #[]⟩
  obtain ⟨C, hC⟩ : ∃ C, (B.update a (Obj.mapSeq fun _ => (#[] : Array Value))).push (seqObj "tuple" vs.toArray 0) = C := ⟨_, rfl⟩
  have hkS : C.objs.size = B.objs.size + 1 := by rw [← hC, size_push', Heap.size_update]
  have hCa : C.get? a = some (seqObj "list" #[] e1) := by rw [← hC]; exact Heap.get?_push_of_some _ ho1
  unfold ksk_tree
  refine wpAny_bind (listItems_at (s := { s with heap := B }) ho rfl ?_)
  refine wpAny_bind (listUpdate_at (s := { s with heap := B }) ho rfl ?_ (by rw [List.size_toArray]; exact hZ) (Nat.zero_le _))
  refine wpAny_bind (seqEpoch_at (s := { s with heap := B.update a (Obj.mapSeq fun _ => (#[] : Array Value)) }) ho1 rfl ?_)
  refine wpAny_bind (wpAny_newTuple ?_ (by show vs.length ≤ _; exact hZ))
  refine wpAny_bind (wpAny_newList ?_ (Nat.zero_le _))
  refine wpAny_holding ?_
  rw [hC]
  have upB : ∀ b o, s.heap.get? b = some o → (C.push (seqObj "list" #[] 0)).get? b = some o := fun b o e => by
    have hb : b ≠ a := Nat.ne_of_lt (Nat.lt_of_lt_of_le (Heap.lt_size e) hsza)
    rw [← hC]; exact Heap.get?_push_of_some _ (Heap.get?_push_of_some _ ((Heap.get?_update_ne _ _ _ _ hb).trans (up b o e)))
  have hka : C.objs.size ≠ a := Nat.ne_of_gt (Nat.lt_of_lt_of_le (show a < B.objs.size from ha) (by rw [hkS]; exact Nat.le_succ _))
  refine keyJ_rest (kz := kz) (s := { s with heap := C.push (seqObj "list" #[] 0) }) (kS := C.objs.size) (J := J a C.objs.size)
    (start a _ _ hka hsza (by have h1 : a < B.objs.size := ha; have h2 : s.heap.objs.size + 1 = a := haa; have h3 : C.objs.size = B.objs.size + 1 := hkS; omega) upB) (Heap.get?_push_size _ rfl) (Heap.get?_push_of_some _ hCa) hka hlen hZ (by show A.units + 1 + 1 + 1 < _; omega) (fun j v k s' h1 h2 h3 kA e h4 h5 => turn a _ e1 j v k s' h1 h2 h3 kA e h4 h5) (push a _) fun s' h' tk out c h1 h2 h3 h4 => ⟨rfl, h a _ s' h' tk out c h1 h2 h3 h4⟩
end
open L2
section
variable {X : Cx} {pins : List (Addr × Obj)} {σ : L2.St} {H : Hp} {s : Shared} {a kS : Addr} {o : HO}
theorem fp_upd (f : FpOk X pins H a) {H' : Hp} (h : H' a = none) : FpOk X pins H' a := ⟨h, f.2⟩
/-- an object of our own is tracked from now on -/
theorem inv_adopt (I : Inv X pins σ H s) (f : FpOk X pins H a) (new : ObjOk X.prog X.w (upd H a o) s.heap a o) : Inv X pins σ (upd H a o) s := by
  obtain ⟨f0, f1, f2, f3, f4, f5⟩ := f
  have old : ∀ b u, H b = some u → b ≠ a := fun b u e z => by rw [z, f0] at e; cases e
  have nn : ∀ b, b ≠ a → upd H a o b = H b := fun b hb => upd_ne hb
  refine ⟨I.ok, I.os, I.bare, ⟨I.base.keep, I.base.slot, fun b ob e n x => ?_, I.base.there, fun b xs e => ?_, fun b ob u e => ?_, fun b ps e => ?_⟩, I.loc, I.cell, ?_, fun x c e => ?_, fun p hp => ?_, fun b u e => ?_, I.len⟩
  · have hb : b ≠ a := fun z => by
      rcases f3 with f3 | f3
      · exact x (by rw [z]; exact f3)
      · have h1 := Heap.lt_size e; rw [z] at h1; exact absurd (Nat.lt_of_lt_of_le h1 f3) (Nat.lt_irrefl _)
    rw [nn b hb]; exact I.base.free b ob e n x
  · have := I.base.tups b xs e
    rw [nn b (old b _ this)]; exact this
  · have := I.base.frzs b ob u e
    rw [nn b (old b _ this)]; exact this
  · obtain ⟨m, this⟩ := I.base.tbls b ps e
    exact ⟨m, by rw [nn b (old b _ this)]; exact this⟩
  · rw [nn _ (Ne.symm f1)]; exact I.free
  · rw [nn c (f4 x c e)]; exact I.freeC x c e
  · obtain ⟨p1, p2, p3⟩ := I.pin p hp
    exact ⟨p1, by rw [nn _ (f5 p hp)]; exact p2, p3⟩
  · by_cases hb : b = a
    · subst hb; rw [upd_same] at e; cases e; exact new
    · rw [nn b hb] at e
      exact (I.hok b u e).stay (fun _ _ _ q => q) (fun c q => by rw [nn c (old c _ q)]; exact q) fun c xs q => by rw [nn c (old c _ q)]; exact q
/-- two objects of our own have changed -/
theorem inv_turned2 {h' : Heap} {t' : Nat} (I : Inv X pins σ H s) (k : But2 a kS s.heap h') (fa : FpOk X pins H a) (fk : FpOk X pins H kS) : Inv X pins σ H { s with heap := h', toks := t' } := by
  obtain ⟨G, g1, g2⟩ := L2.restrict s.heap fun b => !(b == kS)
  have I1 : Inv X pins σ H { s with heap := G, toks := t' } := I.turned (it := kS) (fun b o hb e => (g1 b (by simp [hb])).trans e) fk.1 fk.2.1 fk.2.2.2.1 fk.2.2.2.2.1 fk.2.2.2.2.2
  exact Inv.turned (s := { s with heap := G, toks := t' }) (it := a) (h' := h') (t' := t') I1 (fun b o hb e => by
    have e : G.get? b = some o := e
    by_cases hk : b = kS
    · rw [hk, g2 kS (by simp)] at e; cases e
    · exact k b o hb hk (by rwa [g1 b (by simp [hk])] at e)) fa.1 fa.2.1 fa.2.2.2.1 fa.2.2.2.2.1 fa.2.2.2.2.2
/-- a call of a def that raises nothing, deeper in a built-in's -/
theorem run_fn2 {k : Nat} {f : Addr} {fd : FuncData} {ps : List Str} {sp : Sp} {dvs : List V} {ds : List Value} {A : Around} {Q : VK} {us : List Value} {vs : List V} (F : FnOk X.prog X.w X.K X.mg X.base (L2N.CX X.prog X.w) k f fd ps sp) (hr : Room k A) (hb : Binds X.K fd ps ds) (hd : Vals dvs ds)
    (I : Inv X pins σ H s) (e0 : Env0 X.prog X.w X.K X.mg X.base A X.stack s H) (r : Vals vs us) (h : sp (vs ++ dvs) H Q (fun _ _ _ => False)) : wpAny (model X.prog X.w) A (call (.ref f) us) (EP X pins σ Q) (fun _ _ => False) s := by
  have r2 : Vals (vs ++ dvs) (us ++ ds) := r.append hd
  have hl : (us ++ ds).length = ps.length := by rw [← r2.length]; exact F.len _ _ _ _ h
  refine wpAny_call (codeAny_mono (F.run A X.stack s H ⟨us, []⟩ (us ++ ds) (vs ++ dvs) Q (fun _ _ _ => False) hr e0 (hb s us I.kIn hl) r2 h) fun r s' hq => ?_)
  cases r with
  | error e =>
    obtain ⟨_, _, _, _, _, _, _, _, _, _, _, _, q⟩ := hq
    exact q.elim
  | ok fl =>
    cases fl with
    | ret u => exact I.after hq
    | next => exact False.elim hq
    | brk => exact False.elim hq
    | cont => exact False.elim hq
end
theorem keysN_len {cf : Nat → List Val → Store → R Val} {f : Nat} {ds : List Val} : ∀ {xs : List Val} {S : Store} {ks : List Int} {S' : Store}, keysN cf f ds xs S = some (ks, S') → ks.length = xs.length
  | [], S, ks, S', h => by simp [keysN] at h; rw [h.1]; rfl
  | x :: xs, S, ks, S', h => by
    unfold keysN at h
    split at h
    · obtain ⟨p, h1, h2⟩ := Option.map_eq_some_iff.mp h
      cases h2
      have := keysN_len (ks := p.1) (S' := p.2) h1
      simp [this]
    · cases h
theorem rvs_mem {K : PySem.W.Frag} {N : Nms} {π : List Addr} {H : Hp} : ∀ {xs : List Val} {ys : List V} {ks : List Int}, RVs K N π H xs ys → ∀ t ∈ (xs.zip ks).zip ys, RV K N π H t.1.1 t.2
  | _, _, _, .nil, t, h => by simp at h
  | x :: xs, y :: ys, [], .cons r s, t, h => by simp at h
  | x :: xs, y :: ys, k :: ks, .cons r s, t, h => by
    simp only [List.zip_cons_cons, List.mem_cons] at h
    rcases h with rfl | h
    · exact r
    · exact rvs_mem s t h
def rSortK (P : Prog) (K : PySem.W.Frag) (N : Nms) (n f : Nat) (fa : Addr) : List V → List V → Hp → VK → Prop := fun vs zs H Q => ∃ (q : Addr) (ys : List V) (π1 : List Addr) (S1 : Store) (xs : List Val) (ks : List Int) (Sm : Store), vs = [V.ref q] ∧ zs = [V.ref fa] ∧ SqL K H q ys ∧ RS K N π1 S1 H ∧ RVs K N π1 H xs ys ∧ keysN (callN P n) f (P.dfl f) xs S1 = some (ks, Sm) ∧
  ∀ π' H' p zs', Ext π1 H π' H' → RS K N π' Sm H' → H' p = none → RVs K N π' H' (sortK ks xs) zs' → Q (.ref p) (upd H' p (.lst zs'))
section
variable {P : Prog} {N : Nms} {n : Nat} {s : Sc} {X : Cx} {W : WX} {f : Nat} {fa : Addr}
theorem cr_sortK (cx : CE P N n s X W) (F : Cal P N X.prog X.w X.K X.mg X.base n f fa) : CallRK X (.builtin "sorted") [Str.ofString "key"] (rSortK P X.K N n f fa) := by
  obtain ⟨fd, ps, F, hk⟩ := F
  obtain ⟨dvs, dss, hb, hd, hr⟩ := hk 0
  intro pins s' σ H vs zs us ws Q I r rz h
  obtain ⟨q, ys, π1, S1, xs, ks, Sm, rfl, rfl, sq, hS, rv, hks, hQ⟩ := h
  obtain rfl := Vals.ref1 r
  obtain ⟨w1, rfl, e1⟩ := vals1 rz
  obtain rfl : w1 = Value.ref fa := e1
  obtain ⟨its, ri, hl, hz⟩ := I.list sq
  have l1 := ri.length
  have l2 := rv.length
  have l3 := keysN_len hks
  have room : Room (2 * n + 2) X.A.in1.in1 := ⟨cx.room.hd, by have := cx.room.dp; show X.A.depth + 3 * (2 * n + 2) + 5 < _; omega, by have := cx.room.un; show X.A.units + 1 + 1 + 16 * (2 * n + 2) + 200 < _; omega⟩
  show wpAny _ _ (call (.builtin "sorted") [.ref q] [(Str.ofString "key", .ref fa)]) _ _ _
  refine sorted_keyJ (kz := ks) (vs := its) (J := fun a kS j s2 => ∃ π' S' H', Ext π1 H π' H' ∧ RS X.K N π' S' H' ∧ Inv X pins σ H' s2 ∧ FpOk X pins H' a ∧ FpOk X pins H' kS ∧ kS ≠ a ∧ keysN (callN P n) f (P.dfl f) (xs.drop j) S' = some (ks.drop j, Sm))
    hl.isList (by omega) (by omega) (by have := cx.room.un; omega) ?start ?turn ?push ?fin
  case start =>
    intro a kS h' nka ha hkS up
    exact ⟨π1, S1, H, Ext.refl, hS, I.kept (t' := s'.toks) up, I.fpOk ha (I.hok.fresh ha), I.fpOk hkS (I.hok.fresh hkS), nka, by simpa using hks⟩
  case push =>
    rintro a kS j s2 h' tk ⟨π', S', H', ex, hS', I', fa', fk', nka, hks⟩ k
    exact ⟨π', S', H', ex, hS', I'.turned (it := kS) k fk'.1 fk'.2.1 fk'.2.2.2.1 fk'.2.2.2.2.1 fk'.2.2.2.2.2, fa', fk', nka, hks⟩
  case turn =>
    rintro a kS e1 j v k s2 hv hkj ⟨π', S', H', ex, hS', I', fa', fk', nka, hks⟩ kA e nk na
    have hjl : j < its.length := (List.getElem?_eq_some_iff.mp hv).1
    have hjx : j < xs.length := by omega
    have hjk : j < ks.length := by omega
    obtain ⟨y, hy, rx⟩ := rv.get (List.getElem?_eq_getElem hjx)
    obtain ⟨v', hv', ry⟩ := ri.get hy
    rw [hv] at hv'; cases hv'
    rw [List.getElem?_eq_getElem hjk] at hkj; cases hkj
    rw [List.drop_eq_getElem_cons hjx, List.drop_eq_getElem_cons hjk] at hks
    unfold keysN at hks
    split at hks
    · rename_i k S'' hcf
      obtain ⟨p, h1, h2⟩ := Option.map_eq_some_iff.mp hks
      have hkk : k = ks[j] := (List.cons.inj (Prod.mk.inj h2).1).1
      have hp1 : p = (ks.drop (j+1), Sm) := Prod.ext (List.cons.inj (Prod.mk.inj h2).1).2 (Prod.mk.inj h2).2
      subst hkk; subst hp1
      have I2 := I'.pinned (fp := [kS, a]) (fun b hb => by
        simp only [List.mem_cons, List.not_mem_nil, or_false] at hb
        rcases hb with rfl | rfl
        · exact fk'
        · exact fa') (fun b hb => by
        simp only [List.mem_cons, List.not_mem_nil, or_false] at hb
        rcases hb with rfl | rfl
        · exact ⟨_, nk, fun v z => nomatch z⟩
        · exact ⟨_, na, fun v z => nomatch z⟩)
      have m1 : (kS, seqObj "list" kA e) ∈ pinsAt [kS, a] s2.heap := mem_pinsAt (by simp) nk
      have m2 : (a, seqObj "list" #[] e1) ∈ pinsAt [kS, a] s2.heap := mem_pinsAt (by simp) na
      refine wpAny_mono (run_fn2 (A := X.A.in1.in1) (us := [v]) (vs := [y]) (Q := fun z H2 => z = .int ks[j] ∧ ∃ π2, Ext π' H' π2 H2 ∧ RS X.K N π2 S'' H2) F room hb hd I2 I2.env0.in1.in1 (.cons ry .nil) ⟨π', S', [xs[j]] ++ (P.dfl f).drop 0, hS', RVs.append (.cons (rx.ext ex) .nil) (hr π' H'), ?_⟩) (fun u s3 he => ?_) (fun _ _ e => e)
      · show G X.K N π' H' (callN P n f (xs[j] :: P.dfl f) S') _ _
        rw [hcf]
        intro π2 H2 ex2 hS2 z rz
        cases rz
        exact ⟨rfl, π2, ex2, hS2⟩
      · obtain ⟨y3, H3, I3, ru, rfl, π2, ex2, hS2⟩ := he
        have p1 := I3.pin _ (List.mem_append_right _ (List.mem_append_right _ m1))
        have p2 := I3.pin _ (List.mem_append_right _ (List.mem_append_right _ m2))
        exact ⟨ru, ⟨π2, S'', H3, ex.trans ex2, hS2, I3.unpinned, fp_upd fa' p2.2.1, fp_upd fk' p1.2.1, nka, h1⟩, p1.1, p2.1⟩
    · cases hks
  case fin =>
    rintro a kS s2 h' tk out c ⟨π', S', H', ex, hS', I', fa', fk', nka, hks⟩ b2 hat ko
    have hS2 : S' = Sm := by
      rw [List.drop_eq_nil_of_le (by omega), keysN] at hks
      exact (Prod.mk.inj (Option.some.inj hks)).2
    subst hS2
    obtain ⟨ts, hts⟩ : ∃ ts, (xs.zip ks).zip ys = ts := ⟨_, rfl⟩
    have t1 : ts.map (·.1) = xs.zip ks := by rw [← hts]; exact List.map_fst_zip (by rw [List.length_zip]; omega)
    have t2 : ts.map (·.2) = ys := by rw [← hts]; exact List.map_snd_zip (by rw [List.length_zip]; omega)
    have t3 : ts.map (fun t => PyData.int t.1.2) = ks.map PyData.int := by
      have : ts.map (fun t => PyData.int t.1.2) = (ts.map (·.1)).map fun p => PyData.int p.2 := by rw [List.map_map]; rfl
      rw [this, t1]
      have : (xs.zip ks).map (fun p => PyData.int p.2) = ((xs.zip ks).map (·.2)).map PyData.int := by rw [List.map_map]; rfl
      rw [this, List.map_snd_zip (by omega)]
    rw [← t3] at ko
    have hR : PySem.W.EachIs (fun u (t : (Val × Int) × V) => RelV t.2 u) its ts := each_vals (g := fun t : (Val × Int) × V => t.2) (by rw [t2]; exact ri)
    have eo := PySem.W.keyedOut_each (fun t : (Val × Int) × V => PyData.int t.1.2) ko hR
    rw [PySem.W.dataLe_int (fun t : (Val × Int) × V => t.1.2)] at eo
    obtain ⟨us, hus⟩ : ∃ us, ts.mergeSort (fun a b => decide (a.1.2 ≤ b.1.2)) = us := ⟨_, rfl⟩
    rw [hus] at eo
    have hv : Vals (us.map (·.2)) out := vals_each eo
    have hso : sortK ks xs = us.map fun t => t.1.1 := by
      unfold sortK
      rw [← t1, ← PySem.W.sort_maps (r := fun a b => decide (a.1.2 ≤ b.1.2)) (s := fun p q : Val × Int => decide (p.2 ≤ q.2)) (fun t : (Val × Int) × V => t.1) (fun _ _ _ _ => rfl), hus, List.map_map]
      rfl
    have hul : us.length = ys.length := by
      rw [← hus, List.length_mergeSort, ← t2, List.length_map]
    have rr : RVs X.K N π' H' (sortK ks xs) (us.map (·.2)) := by
      rw [hso]
      refine rvs_map fun b hb => ?_
      rw [← hus] at hb
      have := List.mem_mergeSort.mp hb
      rw [← hts] at this
      exact (rvs_mem rv _ this).ext ex
    have I3 := inv_turned2 (t' := tk) I' b2 fa' fk'
    have I4 := inv_adopt (o := .lst (us.map (·.2))) I3 fa' ⟨by rw [List.length_map]; omega, out, c, hv, hat⟩
    exact ⟨.ref a, upd H' a (.lst (us.map (·.2))), I4, rfl, hQ π' H' a _ ex hS' fa'.1 rr⟩
end
section
variable {P : Prog} {N : Nms} {n : Nat} {s : Sc} {X : Cx} {W : WX} {f : Nat} {pos p2 p3 kp : Pos} {e1 : Expr} {a : E}
theorem s_lsortK (cx : CE P N n s X W) (h : PE X e1 (tL P (callN P n) N X W a)) (hp : pl e1 = true) (hg : glB s.sc "sorted" = true) (hf : N.frees.contains "sorted" = true) (hF : N.isF f = true) (hgf : glB s.sc (N.fn f) = true) (ho : okName (N.fn f) = true) :
    PE X (.Call (.Name "sorted" p2) [e1] [⟨some "key", .Name (N.fn f) p3, kp⟩] pos) (tL P (callN P n) N X W (.lsortK a f)) := by
  obtain ⟨fa, h1, h2, F⟩ := cx.md.call f hF
  have hb : backTo pos (starEach [e1] X.env) = (false, eval e1 X.env) :: backTo pos (starEach [] X.env) := by
    rw [pl_star hp [] X.env]; rfl
  refine PE.mono (pe_callBK (cr_sortK cx F) (gl_of cx.hsc hg) (cx.md.free _ hf) PyProof.Rows.boot_sorted (pa_cons h pa_nil (pl_star hp [] X.env)) (pk_cons (pe_glob (v := .ref fa) (gl_of cx.hsc hgf) h1 rfl (okName_of ho).1) pk_nil) (by decide +kernel) (by decide +kernel) hb (by rw [hb]; rfl) rfl rfl rfl) fun σ H Q ⟨π, S, ρ, hS, hE, g⟩ => ⟨π, S, ρ, hS, hE, ?_⟩
  simp only [evalL] at g
  refine g.seq fun v S1 π1 H1 x1 q1 g1 x rx nx => ?_
  split at g1
  · rename_i xs hi
    split at hi
    · cases hi
    · rename_i ht
      split at g1
      · rename_i pr hk
        obtain ⟨p, ys, rfl, r2, sq⟩ := rx.now q1 hi
        rcases sq with sq | sq
        · refine ⟨p, ys, π1, S1, xs, pr.1, pr.2, rfl, rfl, sq.1, q1, r2, hk, fun π' H' p' zs' ex hS' hn rr => ?_⟩
          obtain ⟨y1, y2, y3⟩ := RL.new hS' hn rr
          exact g1 _ _ (ex.trans y1) y2 _ y3 fun a e => by cases e; exact (x1.trans ex).back hS' hn
        · rw [sq.2] at ht
          exact absurd rfl ht
      · exact g1.elim
  · exact g1.elim
end
end MP
/-! The check of terms against the program's expressions. -/
namespace MP
open PySem L2
structure Ck where
  E : Sc → E → Expr → Bool
  T : Sc → MP.E → Expr → Bool
  A : Sc → MP.E → List Expr → Bool
  An : Sc → MP.E → List Expr → Bool
  Or : Sc → MP.E → List Expr → Bool
  TA : Sc → MP.E → List Expr → Bool
  TO : Sc → MP.E → List Expr → Bool
  L : Sc → MP.E → Expr → Bool
  I : Sc → MP.E → Expr → Expr → Bool
  P : Sc → MP.E → Option Expr → Bool
def bmB (o : Expr) (xs : List Expr) (q p : Pos) : Bool := pl o && xs.all pl && decide (xs.length < 30) && (q.endLine == p.line)
theorem bmB_ok {o : Expr} {xs : List Expr} {q p : Pos} (h : bmB o xs q p = true) : pl o = true ∧ xs.all pl = true ∧ xs.length < 30 ∧ (q.endLine == p.line) = true := by
  unfold bmB at h
  simp only [Bool.and_eq_true, decide_eq_true_eq] at h
  exact ⟨h.1.1.1, h.1.1.2, h.1.2, h.2⟩
def isBlt (N : Nms) (s : Sc) (x : Str) : Bool := glB s.sc x && N.frees.contains x
def Ty.isCls : Ty → Bool
  | .cls _ => true
  | .verr => true
  | _ => false
def tyB (N : Nms) (s : Sc) (t : Ty) (y : Str) : Bool := match t with
  | .cls h => decide (y = N.cls h) && (N.isC h || N.isE h) && glB s.sc y && okName y
  | .verr => decide (y = "ValueError") && isBlt N s y && okName y
  | t => decide (y = Str.ofString (tyN t)) && isBlt N s y
def initB (N : Nms) (P : Prog) (f : Nat) (x : Str) : Bool := (List.range 64).any fun c => decide (N.cls c = x) && decide (P.init c = some f)
theorem initB_ok {N : Nms} {P : Prog} {f : Nat} {x : Str} (h : initB N P f x = true) : ∃ c, x = N.cls c ∧ P.init c = some f := by
  obtain ⟨c, _, h⟩ := List.any_eq_true.mp h
  simp only [Bool.and_eq_true, decide_eq_true_eq] at h
  exact ⟨c, h.1.symm, h.2⟩
variable (N : Nms) (P : Prog) (c : Ck)
def stE (s : Sc) : E → Expr → Bool
  | .noPart, _ => true
  | .var i, .Name x _ => decide (s.N[i]? = some x) && visB s.sc x && okName x
  | .int i, .Constant (.int j) _ _ => decide (i = j)
  | .bl i, .Constant (.bool j) _ _ => decide (i = j)
  | .non, .Constant .none _ _ => true
  | .str i, .Constant (.str j) _ _ => decide (i = j)
  | .glob g, .Name x _ => decide (x = N.glb g) && N.isG g && glB s.sc x && okName x
  | .bin o a b, .BinOp l p r _ => decide (p = opOf o) && c.E s a l && c.E s b r
  | .neg a, .UnaryOp .USub l _ => c.E s a l
  | .cmp o a b, .Compare l [p] [r] _ => decide (p = cmpOf o) && c.E s a l && c.E s b r && pl r
  | .chain o o' a b d, .Compare l [p, p'] [r, r'] _ => decide (p = cmpOf o) && decide (p' = cmpOf o') && c.E s a l && c.E s b r && c.E s d r' && pl r'
  | .isN a, .Compare l [.Is] [.Constant .none _ _] _ => c.E s a l
  | .notN a, .Compare l [.IsNot] [.Constant .none _ _] _ => c.E s a l
  | .and es, .BoolOp .And xs _ => c.An s es xs
  | .or es, .BoolOp .Or xs _ => c.Or s es xs
  | .not a, .UnaryOp .Not l _ => c.E s a l
  | .tup es, .Tuple xs _ _ => c.A s es xs
  | .dict [] .nil, .Dict [] [] _ => true
  | .dict ks es, .Dict (k :: keys) vals _ => dictB (c.E s) ks es (k :: keys) vals && decide (ks.length ≤ 15)
  | .list l, ex => c.L s l ex
  | .ix a i, .Subscript l r _ => c.E s a l && c.E s i r && pl r
  | .ixL a i, .Subscript l r _ => c.L s a l && c.E s i r && pl r
  | .sl a lo hi, .Subscript l (.Slice x y none _) _ => c.E s a l && c.P s lo x && c.P s hi y
  | .call f es _, .Call (.Name x _) xs [] _ => decide (x = N.fn f) && N.isF f && glB s.sc x && okName x && xs.all plA && c.A s es xs
  | .new d es _, .Call (.Name x _) xs [] _ => decide (x = N.cls d) && (P.init d).isSome && glB s.sc x && okName x && xs.all plA && c.A s es xs
  | .meth o m es _, .Call (.Attribute l y q) xs [] p => decide (y = N.mth m) && pl l && xs.all plA && decide (xs.length < 30) && (q.endLine == p.line) && c.E s o l && c.A s es xs
  | .isinst a t, .Call (.Name x _) [l, .Name y _] [] _ => decide (x = "isinstance") && tyB N s t y && isBlt N s "isinstance" && pl l && c.E s a l
  | .call f es _, .Call (.Attribute (.Name x _) y q) xs [] p => decide (y = "__init__") && initB N P f x && glB s.sc x && okName x && xs.all plA && decide (xs.length < 30) && (q.endLine == p.line) && c.A s es xs
  | .bl1 .len a, .Call (.Name x _) [l] [] _ => decide (x = "len") && isBlt N s "len" && pl l && c.E s a l
  | .bl1 .int a, .Call (.Name x _) [l] [] _ => decide (x = "int") && isBlt N s "int" && pl l && c.E s a l
  | .bl1 .str a, .Call (.Name x _) [l] [] _ => decide (x = "str") && isBlt N s "str" && pl l && c.E s a l
  | .bl2 .max a b, .Call (.Name x _) [l, r] [] _ => decide (x = "max") && isBlt N s "max" && pl l && pl r && c.E s a l && c.E s b r
  | .bl2 .min a b, .Call (.Name x _) [l, r] [] _ => decide (x = "min") && isBlt N s "min" && pl l && pl r && c.E s a l && c.E s b r
  | .bl2 .divmod a b, .Call (.Name x _) [l, r] [] _ => decide (x = "divmod") && isBlt N s "divmod" && pl l && pl r && c.E s a l && c.E s b r
  | .fld a f, .Attribute o y _ => decide (y = N.fld f) && N.isA f && pl o && c.E s a o
  | .inL a l, .Compare x [.In] [y] _ => c.E s a x && c.L s l y && pl y
  | .notinL a l, .Compare x [.NotIn] [y] _ => c.E s a x && c.L s l y && pl y
  | .tupL l, .Call (.Name x _) [y] [] _ => decide (x = "tuple") && isBlt N s "tuple" && pl y && c.L s l y
  | .lenL l, .Call (.Name x _) [y] [] _ => decide (x = "len") && isBlt N s "len" && pl y && c.L s l y
  | .maxL l, .Call (.Name x _) [y] [] _ => decide (x = "max") && isBlt N s "max" && pl y && c.L s l y
  | .join a l, .Call (.Attribute o y q) [x] [] p => decide (y = "join") && pl o && pl x && (q.endLine == p.line) && c.E s a o && c.L s l x
  | .extend a l, .Call (.Attribute o y q) [x] [] p => decide (y = "extend") && pl o && pl x && (q.endLine == p.line) && c.E s a o && c.L s l x
  | .bm .append eo es, .Call (.Attribute o y q) xs [] p => decide (y = "append") && bmB o xs q p && c.E s eo o && c.A s es xs
  | .bm .clear eo es, .Call (.Attribute o y q) xs [] p => decide (y = "clear") && bmB o xs q p && c.E s eo o && c.A s es xs
  | .bm .startswith eo es, .Call (.Attribute o y q) xs [] p => decide (y = "startswith") && bmB o xs q p && c.E s eo o && c.A s es xs
  | .bm .endswith eo es, .Call (.Attribute o y q) xs [] p => decide (y = "endswith") && bmB o xs q p && c.E s eo o && c.A s es xs
  | .bm .zfill eo es, .Call (.Attribute o y q) xs [] p => decide (y = "zfill") && bmB o xs q p && c.E s eo o && c.A s es xs
  | .bm .get1 eo es, .Call (.Attribute o y q) xs [] p => decide (y = "get") && bmB o xs q p && c.E s eo o && c.A s es xs
  | .bm .get2 eo es, .Call (.Attribute o y q) xs [] p => decide (y = "get") && bmB o xs q p && c.E s eo o && c.A s es xs
  | .bm .popk eo es, .Call (.Attribute o y q) xs [] p => decide (y = "pop") && bmB o xs q p && c.E s eo o && c.A s es xs
  | .bm .update eo es, .Call (.Attribute o y q) xs [] p => decide (y = "update") && bmB o xs q p && c.E s eo o && c.A s es xs
  | .bm .sindex eo es, .Call (.Attribute o y q) xs [] p => decide (y = "index") && bmB o xs q p && c.E s eo o && c.A s es xs
  | .bm .index eo es, .Call (.Attribute o y q) xs [] p => decide (y = "index") && bmB o xs q p && c.E s eo o && c.A s es xs
  | .bm .lstrip eo es, .Call (.Attribute o y q) xs [] p => decide (y = "lstrip") && bmB o xs q p && c.E s eo o && c.A s es xs
  | .bm .partition eo es, .Call (.Attribute o y q) xs [] p => decide (y = "partition") && bmB o xs q p && c.E s eo o && c.A s es xs
  | .bm .upper eo es, .Call (.Attribute o y q) xs [] p => decide (y = "upper") && bmB o xs q p && c.E s eo o && c.A s es xs
  | _, _ => false
def stT (s : Sc) : E → Expr → Bool
  | .cmp o a b, .Compare l [p] [r] _ => decide (p = cmpOf o) && c.E s a l && c.E s b r && pl r
  | .chain o o' a b d, .Compare l [p, p'] [r, r'] _ => decide (p = cmpOf o) && decide (p' = cmpOf o') && c.E s a l && c.E s b r && c.E s d r' && pl r'
  | .isN a, .Compare l [.Is] [.Constant .none _ _] _ => c.E s a l
  | .notN a, .Compare l [.IsNot] [.Constant .none _ _] _ => c.E s a l
  | .and es, .BoolOp .And xs _ => c.TA s es xs
  | .or es, .BoolOp .Or xs _ => c.TO s es xs
  | .not a, .UnaryOp .Not l _ => c.T s a l
  | .inL a l, .Compare x [.In] [y] _ => c.E s a x && c.L s l y && pl y
  | .notinL a l, .Compare x [.NotIn] [y] _ => c.E s a x && c.L s l y && pl y
  | e, ex => noTest ex && c.E s e ex
def stA (s : Sc) : E → List Expr → Bool
  | .nil, [] => true
  | .cons a b, x :: xs => c.E s a x && plA x && c.A s b xs
  | _, _ => false
def stAn (s : Sc) : E → List Expr → Bool
  | .cons a .nil, [x] => c.E s a x
  | .cons a b, x :: y :: xs => c.E s a x && !b.isNil && c.An s b (y :: xs)
  | _, _ => false
def stOr (s : Sc) : E → List Expr → Bool
  | .cons a .nil, [x] => c.E s a x
  | .cons a b, x :: y :: xs => c.E s a x && !b.isNil && c.Or s b (y :: xs)
  | _, _ => false
def stTA (s : Sc) : E → List Expr → Bool
  | .cons a .nil, [x] => c.T s a x
  | .cons a b, x :: y :: xs => c.T s a x && !b.isNil && c.TA s b (y :: xs)
  | _, _ => false
def stTO (s : Sc) : E → List Expr → Bool
  | .cons a .nil, [x] => c.T s a x
  | .cons a b, x :: y :: xs => c.T s a x && !b.isNil && c.TO s b (y :: xs)
  | _, _ => false
def stL (s : Sc) : E → Expr → Bool
  | .lof e, ex => c.E s e ex
  | .llit es, .List xs _ => c.A s es xs
  | .lsl a lo hi, .Subscript l (.Slice x y none _) _ => c.L s a l && c.P s lo x && c.P s hi y
  | .lcat a b, .BinOp l .Add r _ => c.L s a l && c.L s b r
  | .lcopy l, .Call (.Name x _) [y] [] _ => decide (x = "list") && isBlt N s "list" && pl y && c.L s l y
  | .lsortI l, .Call (.Name x _) [y] [] _ => decide (x = "sorted") && isBlt N s "sorted" && pl y && c.L s l y
  | .lsortD a, .Call (.Name x _) [y] [] _ => decide (x = "sorted") && isBlt N s "sorted" && pl y && c.E s a y
  | .lsortT l, .Call (.Name x _) [y] [] _ => decide (x = "sorted") && isBlt N s "sorted" && pl y && c.L s l y
  | .lsortK l f, .Call (.Name x _) [y] [⟨some k, .Name z _, _⟩] _ => decide (x = "sorted") && decide (k = "key") && decide (z = N.fn f) && isBlt N s "sorted" && N.isF f && glB s.sc (N.fn f) && okName (N.fn f) && pl y && c.L s l y
  | .lsplit a, .Call (.Attribute o y q) [] [] p => decide (y = "split") && pl o && (q.endLine == p.line) && c.E s a o
  | .lsplitc a z, .Call (.Attribute o y q) [.Constant (.str z') _ _] [] p => decide (y = "split") && decide (z = z') && pl o && (q.endLine == p.line) && c.E s a o
  | .lcomp tg one own (.iitems a) d e, .ListComp x [⟨.Tuple els kk tp, .Call (.Attribute o y q) [] [] p, ifs, as⟩] sc _ => decide (as = 0) && decide (y = "items") && a.ownF && pl o && (q.endLine == p.line) && tgE (blkSc s sc) tg one (.Tuple els kk tp) && (tg.all fun i => decide (i ∈ own)) && blkC s.N s.sc sc (ownP s own) && ifsB (c.T (blkSc s sc)) d ifs && c.E s a o && c.E (blkSc s sc) e x
  | .lcomp tg one own b d e, .ListComp x [⟨te, ie, ifs, as⟩] sc _ => decide (as = 0) && pl ie && tgE (blkSc s sc) tg one te && (tg.all fun i => decide (i ∈ own)) && blkC s.N s.sc sc (ownP s own) && !b.lkE && ifsB (c.T (blkSc s sc)) d ifs && c.I s b te ie && c.E (blkSc s sc) e x
  | _, _ => false
def stI (s : Sc) : E → Expr → Expr → Bool
  | .iof l, _, ex => c.L s l ex
  | .ienum l, .Tuple _ _ _, .Call (.Name x _) [r] [] _ => decide (x = "enumerate") && isBlt N s "enumerate" && pl r && c.L s l r
  | .izip a b, .Tuple _ _ _, .Call (.Name x _) [l, r] [] _ => decide (x = "zip") && isBlt N s "zip" && pl l && pl r && c.L s a l && c.L s b r
  | .irng1 a, _, .Call (.Name x _) [r] [] _ => decide (x = "range") && isBlt N s "range" && pl r && c.E s a r
  | .irng2 a b, _, .Call (.Name x _) [l, r] [] _ => decide (x = "range") && isBlt N s "range" && pl l && pl r && c.E s a l && c.E s b r
  | .irev l, _, .Call (.Name x _) [r] [] _ => decide (x = "reversed") && isBlt N s "reversed" && pl r && c.L s l r
  | .ichars e, _, ex => c.E s e ex
  | _, _, _ => false
def stP (s : Sc) : E → Option Expr → Bool
  | .noPart, none => true
  | e, some ex => !e.isNo && c.E s e ex
  | _, _ => false
def Ck.no : Ck := ⟨fun _ _ _ => false, fun _ _ _ => false, fun _ _ _ => false, fun _ _ _ => false, fun _ _ _ => false, fun _ _ _ => false, fun _ _ _ => false, fun _ _ _ => false, fun _ _ _ _ => false, fun _ _ _ => false⟩
def Ck.step : Ck := ⟨stE N P c, stT c, stA c, stAn c, stOr c, stTA c, stTO c, stL N c, stI N c, stP c⟩
structure Ok (n : Nat) : Prop where
  E : ∀ {s X W e ex}, CE P N n s X W → c.E s e ex = true → PE X ex (tEv P (callN P n) N X W e)
  T : ∀ {s X W e ex}, CE P N n s X W → c.T s e ex = true → PT X ex (tCt P (callN P n) N X W e)
  A : ∀ {s X W e xs}, CE P N n s X W → c.A s e xs = true → PA X xs (tRw P (callN P n) N X W e) ∧ rowsOk xs e
  An : ∀ {s X W e xs}, CE P N n s X W → c.An s e xs = true → ∀ pos, PE X (.BoolOp .And xs pos) (tAn P (callN P n) N X W e)
  Or : ∀ {s X W e xs}, CE P N n s X W → c.Or s e xs = true → ∀ pos, PE X (.BoolOp .Or xs pos) (tOn P (callN P n) N X W e)
  TA : ∀ {s X W e xs}, CE P N n s X W → c.TA s e xs = true → ∀ pos, PW X (.BoolOp .And xs pos) (tAt P (callN P n) N X W e)
  TO : ∀ {s X W e xs}, CE P N n s X W → c.TO s e xs = true → ∀ pos, PW X (.BoolOp .Or xs pos) (tOt P (callN P n) N X W e)
  L : ∀ {s X W e ex}, CE P N n s X W → c.L s e ex = true → PE X ex (tL P (callN P n) N X W e)
  I : ∀ {s X W e te ex}, CE P N n s X W → c.I s e te ex = true → PI X te ex (tI P (callN P n) N X W e)
  P : ∀ {s X W e o}, CE P N n s X W → c.P s e o = true → POm X o (tPt P (callN P n) N X W e)
theorem Ck.no_ok (n : Nat) : Ok N P Ck.no n := by
  constructor <;> intros <;> exact absurd ‹_ = true› Bool.false_ne_true
section
variable {N P c} {n : Nat} {s : Sc} {X : Cx} {W : WX} {e : E} {ex te : Expr} {xs : List Expr} {o : Option Expr}
theorem blt_of {x : Str} (h : isBlt N s x = true) : glB s.sc x = true ∧ N.frees.contains x = true := by
  unfold isBlt at h
  exact Bool.and_eq_true_iff.mp h
theorem ty_boot {t : Ty} (h : t.isCls = false) : bootBuiltins (Str.ofString (tyN t)) = some (.type (tyN t)) ∧ okName (Str.ofString (tyN t)) = true := by
  cases t with
  | cls c => cases h
  | verr => cases h
  | int => exact ⟨by decide +kernel, by decide +kernel⟩
  | bool => exact ⟨by decide +kernel, by decide +kernel⟩
  | str => exact ⟨by decide +kernel, by decide +kernel⟩
  | tup => exact ⟨by decide +kernel, by decide +kernel⟩
  | list => exact ⟨by decide +kernel, by decide +kernel⟩
theorem s_never {cf : Nat → List Val → Store → R Val} : PE X ex (tEv P cf N X W .noPart) := ⟨fun pins s σ H Q I ⟨π, S, ρ, _, _, g⟩ => by
  simp only [evalE] at g
  exact g.elim⟩
theorem stE_ok (k : Ok N P c n) (cx : CE P N n s X W) (h : stE N P c s e ex = true) : PE X ex (tEv P (callN P n) N X W e) := by
  unfold stE at h
  split at h <;> try simp only [Bool.and_eq_true, decide_eq_true_eq, Bool.not_eq_true'] at h
  · exact s_never
  · exact s_var cx h.1.1 h.1.2 h.2
  · subst h; exact s_int
  · subst h; exact s_bl
  · exact s_non
  · subst h; exact s_str
  · obtain ⟨⟨⟨rfl, h2⟩, h3⟩, h4⟩ := h
    exact s_glob cx h2 h3 h4
  · obtain ⟨⟨rfl, h2⟩, h3⟩ := h
    exact s_bin (k.E cx h2) (k.E cx h3)
  · exact s_neg (k.E cx h)
  · obtain ⟨⟨⟨rfl, h2⟩, h3⟩, h4⟩ := h
    exact s_cmp cx (k.E cx h2) (k.E cx h3) h4
  · obtain ⟨⟨⟨⟨⟨rfl, rfl⟩, h2⟩, h3⟩, h4⟩, h5⟩ := h
    exact s_chain cx (k.E cx h2) (k.E cx h3) (k.E cx h4) h5
  · exact s_isN (k.E cx h)
  · exact s_notN (k.E cx h)
  · exact s_and (k.An cx h _)
  · exact s_or (k.Or cx h _)
  · exact s_not (k.E cx h)
  · exact s_tup (k.A cx h).1
  · exact s_dict0
  · exact s_dict (fun a x q => k.E cx q) h.1 (by simp) h.2
  · exact s_list (k.L cx h)
  · exact s_ix cx (k.E cx h.1.1) (k.E cx h.1.2) h.2
  · exact s_ixL (k.L cx h.1.1) (k.E cx h.1.2) h.2
  · exact s_sl (k.E cx h.1.1) (k.P cx h.1.2) (k.P cx h.2)
  · obtain ⟨⟨⟨⟨⟨rfl, h1⟩, h2⟩, h3⟩, h4⟩, h5⟩ := h
    obtain ⟨a1, a2⟩ := k.A cx h5
    exact s_call cx a1 h4 a2 h1 h2 h3
  · obtain ⟨⟨⟨⟨⟨rfl, h1⟩, h2⟩, h3⟩, h4⟩, h5⟩ := h
    obtain ⟨a1, a2⟩ := k.A cx h5
    obtain ⟨f, hf⟩ := Option.isSome_iff_exists.mp h1
    exact s_new cx a1 h4 a2 hf h2 h3
  · obtain ⟨⟨⟨⟨⟨⟨rfl, h1⟩, h2⟩, h3⟩, h4⟩, h5⟩, h6⟩ := h
    obtain ⟨a1, a2⟩ := k.A cx h6
    exact s_meth cx (k.E cx h5) a1 h1 h2 h3 h4 a2
  · rename_i a t x _ l y _ _
    obtain ⟨⟨⟨⟨rfl, h0⟩, h1⟩, h3⟩, h4⟩ := h
    obtain ⟨b1, b2⟩ := blt_of h1
    cases t with
    | cls d =>
      simp only [tyB, Bool.and_eq_true, decide_eq_true_eq, Bool.or_eq_true] at h0
      obtain ⟨⟨⟨rfl, h5⟩, h6⟩, h7⟩ := h0
      exact s_isCls cx (k.E cx h4) h3 b1 b2 h6 h7 (.inl ⟨d, rfl, rfl, h5⟩)
    | verr =>
      simp only [tyB, Bool.and_eq_true, decide_eq_true_eq] at h0
      obtain ⟨⟨rfl, h5⟩, h6⟩ := h0
      obtain ⟨b3, b4⟩ := blt_of h5
      exact s_isCls cx (k.E cx h4) h3 b1 b2 b3 h6 (.inr ⟨rfl, rfl, b4⟩)
    | int =>
      simp only [tyB, Bool.and_eq_true, decide_eq_true_eq] at h0
      obtain ⟨rfl, h5⟩ := h0
      obtain ⟨b3, b4⟩ := blt_of h5
      obtain ⟨c1, c2⟩ := ty_boot (t := .int) rfl
      exact s_isB cx (k.E cx h4) h3 b1 b2 b3 b4 c1 c2 (fun c z => nomatch z) (fun z => nomatch z)
    | bool =>
      simp only [tyB, Bool.and_eq_true, decide_eq_true_eq] at h0
      obtain ⟨rfl, h5⟩ := h0
      obtain ⟨b3, b4⟩ := blt_of h5
      obtain ⟨c1, c2⟩ := ty_boot (t := .bool) rfl
      exact s_isB cx (k.E cx h4) h3 b1 b2 b3 b4 c1 c2 (fun c z => nomatch z) (fun z => nomatch z)
    | str =>
      simp only [tyB, Bool.and_eq_true, decide_eq_true_eq] at h0
      obtain ⟨rfl, h5⟩ := h0
      obtain ⟨b3, b4⟩ := blt_of h5
      obtain ⟨c1, c2⟩ := ty_boot (t := .str) rfl
      exact s_isB cx (k.E cx h4) h3 b1 b2 b3 b4 c1 c2 (fun c z => nomatch z) (fun z => nomatch z)
    | tup =>
      simp only [tyB, Bool.and_eq_true, decide_eq_true_eq] at h0
      obtain ⟨rfl, h5⟩ := h0
      obtain ⟨b3, b4⟩ := blt_of h5
      obtain ⟨c1, c2⟩ := ty_boot (t := .tup) rfl
      exact s_isB cx (k.E cx h4) h3 b1 b2 b3 b4 c1 c2 (fun c z => nomatch z) (fun z => nomatch z)
    | list =>
      simp only [tyB, Bool.and_eq_true, decide_eq_true_eq] at h0
      obtain ⟨rfl, h5⟩ := h0
      obtain ⟨b3, b4⟩ := blt_of h5
      obtain ⟨c1, c2⟩ := ty_boot (t := .list) rfl
      exact s_isB cx (k.E cx h4) h3 b1 b2 b3 b4 c1 c2 (fun c z => nomatch z) (fun z => nomatch z)
  · obtain ⟨⟨⟨⟨⟨⟨⟨rfl, h1⟩, h2⟩, h3⟩, h4⟩, h5⟩, h6⟩, h7⟩ := h
    obtain ⟨d, rfl, hd⟩ := initB_ok h1
    obtain ⟨a1, a2⟩ := k.A cx h7
    exact s_initC cx a1 h4 a2 hd h2 h3 h5 h6
  · obtain ⟨⟨⟨rfl, h1⟩, h2⟩, h3⟩ := h
    exact s_len cx (k.E cx h3) h2 (blt_of h1).1 (blt_of h1).2
  · obtain ⟨⟨⟨rfl, h1⟩, h2⟩, h3⟩ := h
    exact s_toInt cx (k.E cx h3) h2 (blt_of h1).1 (blt_of h1).2
  · obtain ⟨⟨⟨rfl, h1⟩, h2⟩, h3⟩ := h
    exact s_toStr cx (k.E cx h3) h2 (blt_of h1).1 (blt_of h1).2
  · obtain ⟨⟨⟨⟨⟨rfl, h1⟩, h2⟩, h3⟩, h4⟩, h5⟩ := h
    exact s_max2 cx (k.E cx h4) (k.E cx h5) h2 h3 (blt_of h1).1 (blt_of h1).2
  · obtain ⟨⟨⟨⟨⟨rfl, h1⟩, h2⟩, h3⟩, h4⟩, h5⟩ := h
    exact s_min2 cx (k.E cx h4) (k.E cx h5) h2 h3 (blt_of h1).1 (blt_of h1).2
  · obtain ⟨⟨⟨⟨⟨rfl, h1⟩, h2⟩, h3⟩, h4⟩, h5⟩ := h
    exact s_divmod cx (k.E cx h4) (k.E cx h5) h2 h3 (blt_of h1).1 (blt_of h1).2
  · obtain ⟨⟨⟨rfl, h1⟩, h2⟩, h3⟩ := h
    exact s_fld cx (k.E cx h3) h2 h1
  · exact s_inL (k.E cx h.1.1) (k.L cx h.1.2) h.2
  · exact s_notinL (k.E cx h.1.1) (k.L cx h.1.2) h.2
  · obtain ⟨⟨⟨rfl, h1⟩, h2⟩, h3⟩ := h
    exact s_tupL cx (k.L cx h3) h2 (blt_of h1).1 (blt_of h1).2
  · obtain ⟨⟨⟨rfl, h1⟩, h2⟩, h3⟩ := h
    exact s_lenL cx (k.L cx h3) h2 (blt_of h1).1 (blt_of h1).2
  · obtain ⟨⟨⟨rfl, h1⟩, h2⟩, h3⟩ := h
    exact s_maxL cx (k.L cx h3) h2 (blt_of h1).1 (blt_of h1).2
  · obtain ⟨⟨⟨⟨⟨rfl, h1⟩, h2⟩, h3⟩, h4⟩, h5⟩ := h
    exact s_join (k.E cx h4) (k.L cx h5) h1 h2 h3
  · obtain ⟨⟨⟨⟨⟨rfl, h1⟩, h2⟩, h3⟩, h4⟩, h5⟩ := h
    exact s_extend (k.E cx h4) (k.L cx h5) h1 h2 h3
  · obtain ⟨⟨⟨rfl, h1⟩, h2⟩, h3⟩ := h
    obtain ⟨b1, b2, b3, b4⟩ := bmB_ok h1
    exact s_append (k.E cx h2) (k.A cx h3).1 (k.A cx h3).2 b1 b2 b3 b4
  · obtain ⟨⟨⟨rfl, h1⟩, h2⟩, h3⟩ := h
    obtain ⟨b1, b2, b3, b4⟩ := bmB_ok h1
    exact s_clear (k.E cx h2) (k.A cx h3).1 (k.A cx h3).2 b1 b2 b3 b4
  · obtain ⟨⟨⟨rfl, h1⟩, h2⟩, h3⟩ := h
    obtain ⟨b1, b2, b3, b4⟩ := bmB_ok h1
    exact s_startswith (k.E cx h2) (k.A cx h3).1 (k.A cx h3).2 b1 b2 b3 b4
  · obtain ⟨⟨⟨rfl, h1⟩, h2⟩, h3⟩ := h
    obtain ⟨b1, b2, b3, b4⟩ := bmB_ok h1
    exact s_endswith (k.E cx h2) (k.A cx h3).1 (k.A cx h3).2 b1 b2 b3 b4
  · obtain ⟨⟨⟨rfl, h1⟩, h2⟩, h3⟩ := h
    obtain ⟨b1, b2, b3, b4⟩ := bmB_ok h1
    exact s_zfill (k.E cx h2) (k.A cx h3).1 (k.A cx h3).2 b1 b2 b3 b4
  · obtain ⟨⟨⟨rfl, h1⟩, h2⟩, h3⟩ := h
    obtain ⟨b1, b2, b3, b4⟩ := bmB_ok h1
    exact s_get1 cx (k.E cx h2) (k.A cx h3).1 (k.A cx h3).2 b1 b2 b3 b4
  · obtain ⟨⟨⟨rfl, h1⟩, h2⟩, h3⟩ := h
    obtain ⟨b1, b2, b3, b4⟩ := bmB_ok h1
    exact s_get2 cx (k.E cx h2) (k.A cx h3).1 (k.A cx h3).2 b1 b2 b3 b4
  · obtain ⟨⟨⟨rfl, h1⟩, h2⟩, h3⟩ := h
    obtain ⟨b1, b2, b3, b4⟩ := bmB_ok h1
    exact s_popk (k.E cx h2) (k.A cx h3).1 (k.A cx h3).2 b1 b2 b3 b4
  · obtain ⟨⟨⟨rfl, h1⟩, h2⟩, h3⟩ := h
    obtain ⟨b1, b2, b3, b4⟩ := bmB_ok h1
    exact s_update (k.E cx h2) (k.A cx h3).1 (k.A cx h3).2 b1 b2 b3 b4
  · obtain ⟨⟨⟨rfl, h1⟩, h2⟩, h3⟩ := h
    obtain ⟨b1, b2, b3, b4⟩ := bmB_ok h1
    exact s_sindex cx (k.E cx h2) (k.A cx h3).1 (k.A cx h3).2 b1 b2 b3 b4
  · obtain ⟨⟨⟨rfl, h1⟩, h2⟩, h3⟩ := h
    obtain ⟨b1, b2, b3, b4⟩ := bmB_ok h1
    exact s_index (k.E cx h2) (k.A cx h3).1 (k.A cx h3).2 b1 b2 b3 b4
  · obtain ⟨⟨⟨rfl, h1⟩, h2⟩, h3⟩ := h
    obtain ⟨b1, b2, b3, b4⟩ := bmB_ok h1
    exact s_lstrip (k.E cx h2) (k.A cx h3).1 (k.A cx h3).2 b1 b2 b3 b4
  · obtain ⟨⟨⟨rfl, h1⟩, h2⟩, h3⟩ := h
    obtain ⟨b1, b2, b3, b4⟩ := bmB_ok h1
    exact s_partition (k.E cx h2) (k.A cx h3).1 (k.A cx h3).2 b1 b2 b3 b4
  · obtain ⟨⟨⟨rfl, h1⟩, h2⟩, h3⟩ := h
    obtain ⟨b1, b2, b3, b4⟩ := bmB_ok h1
    exact s_upper (k.E cx h2) (k.A cx h3).1 (k.A cx h3).2 b1 b2 b3 b4
  · cases h
theorem stT_ok (k : Ok N P c n) (cx : CE P N n s X W) (h : stT c s e ex = true) : PT X ex (tCt P (callN P n) N X W e) := by
  unfold stT at h
  split at h <;> try simp only [Bool.and_eq_true, decide_eq_true_eq, Bool.not_eq_true'] at h
  · obtain ⟨⟨⟨rfl, h2⟩, h3⟩, h4⟩ := h
    exact st_cmp cx (k.E cx h2) (k.E cx h3) h4
  · obtain ⟨⟨⟨⟨⟨rfl, rfl⟩, h2⟩, h3⟩, h4⟩, h5⟩ := h
    exact st_chain cx (k.E cx h2) (k.E cx h3) (k.E cx h4) h5
  · exact st_isN (k.E cx h)
  · exact st_notN (k.E cx h)
  · exact st_and (k.TA cx h _)
  · exact st_or (k.TO cx h _)
  · exact st_not (k.T cx h)
  · exact st_inL (k.E cx h.1.1) (k.L cx h.1.2) h.2
  · exact st_notinL (k.E cx h.1.1) (k.L cx h.1.2) h.2
  · exact s_test (k.E cx h.2) h.1
theorem stA_ok (k : Ok N P c n) (cx : CE P N n s X W) (h : stA c s e xs = true) : PA X xs (tRw P (callN P n) N X W e) ∧ rowsOk xs e := by
  unfold stA at h
  split at h <;> try simp only [Bool.and_eq_true, decide_eq_true_eq, Bool.not_eq_true'] at h
  · exact ⟨s_nil, fun _ => rfl⟩
  · exact ⟨s_consA (k.E cx h.1.1) (k.A cx h.2).1 h.1.2, fun z => nomatch z⟩
  · cases h
theorem stAn_ok (k : Ok N P c n) (cx : CE P N n s X W) (h : stAn c s e xs = true) (pos : Pos) : PE X (.BoolOp .And xs pos) (tAn P (callN P n) N X W e) := by
  unfold stAn at h
  split at h <;> try simp only [Bool.and_eq_true, decide_eq_true_eq, Bool.not_eq_true'] at h
  · exact s_and1 (k.E cx h)
  · exact s_and2 (k.E cx h.1.1) (k.An cx h.2 pos) h.1.2
  · cases h
theorem stOr_ok (k : Ok N P c n) (cx : CE P N n s X W) (h : stOr c s e xs = true) (pos : Pos) : PE X (.BoolOp .Or xs pos) (tOn P (callN P n) N X W e) := by
  unfold stOr at h
  split at h <;> try simp only [Bool.and_eq_true, decide_eq_true_eq, Bool.not_eq_true'] at h
  · exact s_or1 (k.E cx h)
  · exact s_or2 (k.E cx h.1.1) (k.Or cx h.2 pos) h.1.2
  · cases h
theorem stTA_ok (k : Ok N P c n) (cx : CE P N n s X W) (h : stTA c s e xs = true) (pos : Pos) : PW X (.BoolOp .And xs pos) (tAt P (callN P n) N X W e) := by
  unfold stTA at h
  split at h <;> try simp only [Bool.and_eq_true, decide_eq_true_eq, Bool.not_eq_true'] at h
  · exact st_and1 (k.T cx h)
  · exact st_and2 (k.T cx h.1.1) (k.TA cx h.2 pos) h.1.2
  · cases h
theorem stTO_ok (k : Ok N P c n) (cx : CE P N n s X W) (h : stTO c s e xs = true) (pos : Pos) : PW X (.BoolOp .Or xs pos) (tOt P (callN P n) N X W e) := by
  unfold stTO at h
  split at h <;> try simp only [Bool.and_eq_true, decide_eq_true_eq, Bool.not_eq_true'] at h
  · exact st_or1 (k.T cx h)
  · exact st_or2 (k.T cx h.1.1) (k.TO cx h.2 pos) h.1.2
  · cases h
theorem stL_ok (k : Ok N P c n) (cx : CE P N n s X W) (h : stL N c s e ex = true) : PE X ex (tL P (callN P n) N X W e) := by
  unfold stL at h
  split at h <;> try simp only [Bool.and_eq_true, decide_eq_true_eq, Bool.not_eq_true'] at h
  · exact s_lof (k.E cx h)
  · exact s_llit (k.A cx h).1
  · exact s_lsl (k.L cx h.1.1) (k.P cx h.1.2) (k.P cx h.2)
  · exact s_lcat (k.L cx h.1) (k.L cx h.2)
  · obtain ⟨⟨⟨rfl, h1⟩, h2⟩, h3⟩ := h
    exact s_lcopy cx (k.L cx h3) h2 (blt_of h1).1 (blt_of h1).2
  · obtain ⟨⟨⟨rfl, h1⟩, h2⟩, h3⟩ := h
    exact s_lsortI cx (k.L cx h3) h2 (blt_of h1).1 (blt_of h1).2
  · obtain ⟨⟨⟨rfl, h1⟩, h2⟩, h3⟩ := h
    exact s_lsortD cx (k.E cx h3) h2 (blt_of h1).1 (blt_of h1).2
  · obtain ⟨⟨⟨rfl, h1⟩, h2⟩, h3⟩ := h
    exact s_lsortT cx (k.L cx h3) h2 (blt_of h1).1 (blt_of h1).2
  · obtain ⟨⟨⟨⟨⟨⟨⟨⟨rfl, rfl⟩, rfl⟩, h1⟩, h4⟩, h5⟩, h6⟩, h2⟩, h3⟩ := h
    exact s_lsortK cx (k.L cx h3) h2 (blt_of h1).1 (blt_of h1).2 h4 h5 h6
  · obtain ⟨⟨⟨rfl, h1⟩, h2⟩, h3⟩ := h
    exact s_lsplit (k.E cx h3) h1 h2
  · obtain ⟨⟨⟨⟨rfl, rfl⟩, h1⟩, h2⟩, h3⟩ := h
    exact s_lsplitc (k.E cx h3) h1 h2
  · obtain ⟨⟨⟨⟨⟨⟨⟨⟨⟨⟨rfl, rfl⟩, h1⟩, h2⟩, h3⟩, h4⟩, h5⟩, h6⟩, h7⟩, h8⟩, h9⟩ := h
    exact s_lcompI cx (k.E cx h8) h2 h3 h1 h4 h5 h6 (fun cy hx => k.T cy hx) h7 (fun cy => k.E cy h9)
  · obtain ⟨⟨⟨⟨⟨⟨⟨⟨rfl, h1⟩, h2⟩, h3⟩, h4⟩, h5⟩, h6⟩, h7⟩, h8⟩ := h
    exact s_lcomp cx (k.I cx h7) h1 h2 h3 h4 h5 (fun cy hx => k.T cy hx) h6 (fun cy => k.E cy h8)
  · cases h
theorem stI_ok (k : Ok N P c n) (cx : CE P N n s X W) (h : stI N c s e te ex = true) : PI X te ex (tI P (callN P n) N X W e) := by
  unfold stI at h
  split at h <;> try simp only [Bool.and_eq_true, decide_eq_true_eq, Bool.not_eq_true'] at h
  · exact i_of (k.L cx h)
  · obtain ⟨⟨⟨rfl, h1⟩, h2⟩, h3⟩ := h
    exact i_enum cx (k.L cx h3) h2 (blt_of h1).1 (blt_of h1).2
  · obtain ⟨⟨⟨⟨⟨rfl, h1⟩, h2⟩, h3⟩, h4⟩, h5⟩ := h
    exact i_zip cx (k.L cx h4) (k.L cx h5) h2 h3 (blt_of h1).1 (blt_of h1).2
  · obtain ⟨⟨⟨rfl, h1⟩, h2⟩, h3⟩ := h
    exact i_rng1 cx (k.E cx h3) h2 (blt_of h1).1 (blt_of h1).2
  · obtain ⟨⟨⟨⟨⟨rfl, h1⟩, h2⟩, h3⟩, h4⟩, h5⟩ := h
    exact i_rng2 cx (k.E cx h4) (k.E cx h5) h2 h3 (blt_of h1).1 (blt_of h1).2
  · obtain ⟨⟨⟨rfl, h1⟩, h2⟩, h3⟩ := h
    exact i_rev cx (k.L cx h3) h2 (blt_of h1).1 (blt_of h1).2
  · exact i_chars (k.E cx h)
  · cases h
theorem stP_ok (k : Ok N P c n) (cx : CE P N n s X W) (h : stP c s e o = true) : POm X o (tPt P (callN P n) N X W e) := by
  unfold stP at h
  split at h <;> try simp only [Bool.and_eq_true, decide_eq_true_eq, Bool.not_eq_true'] at h
  · exact s_noPart
  · exact s_part (k.E cx h.2) h.1
  · cases h
end
theorem Ck.step_ok {n : Nat} (k : Ok N P c n) : Ok N P (Ck.step N P c) n := ⟨stE_ok k, stT_ok k, stA_ok k, stAn_ok k, stOr_ok k, stTA_ok k, stTO_ok k, stL_ok k, stI_ok k, stP_ok k⟩
def ckN : Nat → Ck
  | 0 => .no
  | d + 1 => Ck.step N P (ckN d)
theorem ckN_ok (n : Nat) : ∀ d, Ok N P (ckN N P d) n
  | 0 => Ck.no_ok N P n
  | d + 1 => Ck.step_ok N P _ (ckN_ok n d)
end MP
/-! The check of terms against the program's statements; defs keep their promises. -/
namespace MP
open PySem L2
structure Cs where
  S : Sc → S → Stmt → Bool
  Ss : Sc → MP.S → List Stmt → Bool
variable (N : Nms) (P : Prog) (c : Ck) (d : Cs)
def noTup : Expr → Bool
  | .Tuple .. => false
  | _ => true
theorem noTup_sw {e : Expr} (h : noTup e = true) (es : List Expr) (kk : Nat) (p : Pos) (env : Env) : swappedStores [.Tuple es kk p] e env = pure none := by
  cases e <;> first | rfl | cases h
def augB : BOp → Bool
  | .add => true
  | .sub => true
  | _ => false
theorem augB_ok {op : BOp} (h : augB op = true) : op = .add ∨ op = .sub := by
  cases op <;> first | exact .inl rfl | exact .inr rfl | cases h
def foldT : Expr → Bool
  | .Tuple vs _ _ => vs.all (foldedForSure 8)
  | _ => false
theorem foldT_sw {e : Expr} (h : foldT e = true) (es : List Expr) (kk : Nat) (p : Pos) (env : Env) : swappedStores [.Tuple es kk p] e env = pure none := by
  cases e <;> try cases h
  rename_i vs k2 p2
  have h : vs.all (foldedForSure 8) = true := h
  unfold swappedStores
  simp only [pure_bind, h, if_true]
  split
  · rfl
  · split
    · rfl
    · split <;> rfl
def stS (s : Sc) : S → Stmt → Bool
  | .hnil, _ => true
  | .pass, .Pass _ => true
  | .pass, .Expr (.Constant (.str _) _ _) _ => true
  | .brk, .Break _ => true
  | .cnt, .Continue _ => true
  | .ret e, .Return (some ex) _ => c.E s e ex
  | .retN, .Return none _ => true
  | .ex e, .Expr ex _ => noComp ex && c.E s e ex
  | .ite e u v, .If ex a b _ => c.T s e ex && d.Ss s u a && d.Ss s v b
  | .asg (.name i) (.list (.lcomp tg one own (.ikeys a) v e)), .Assign [.Name y p] (.ListComp x [⟨te, ie, ifs, as⟩] sc q) _ => decide (as = 0) && pl ie && tgE (blkSc s sc) tg one te && (tg.all fun i => decide (i ∈ own)) && blkC s.N s.sc sc (ownP s own) && a.ownF && ifsB (c.T (blkSc s sc)) v ifs && c.E s a ie && c.E (blkSc s sc) e x &&
    decide (s.N[i]? = some y) && decide (s.sc.names.lookup y = some .local) && decide (s.sc.kind = .function) && (p.line == q.line) && !(sc.names.any fun (n, k) => n == y && (k == .local || k == .cell))
  | .asg (.name i) (.list (.lcomp tg one own b v e)), .Assign [.Name y p] (.ListComp x [⟨te, ie, ifs, as⟩] sc q) _ => decide (as = 0) && pl ie && tgE (blkSc s sc) tg one te && (tg.all fun i => decide (i ∈ own)) && blkC s.N s.sc sc (ownP s own) && !b.lkE && ifsB (c.T (blkSc s sc)) v ifs && c.I s b te ie && c.E (blkSc s sc) e x &&
    decide (s.N[i]? = some y) && decide (s.sc.names.lookup y = some .local) && decide (s.sc.kind = .function) && (p.line == q.line) && !(sc.names.any fun (n, k) => n == y && (k == .local || k == .cell))
  | .asg (.fld a f) e, .Assign [.Attribute o y _] ex _ => decide (y = N.fld f) && N.isA f && c.E s e ex && c.E s a o
  | .asg (.sub a i) e, .Assign [.Subscript o i' _] ex _ => pl i' && c.E s e ex && c.E s a o && c.E s i i'
  | .aug a f op e, .AugAssign (.Attribute o y _) p ex _ => decide (y = N.fld f) && decide (p = opOf op) && augB op && N.isA f && c.E s a o && c.E s e ex
  | .raise z ln, .Raise (some (.Call (.Name x _) [.Constant (.str _) _ _] [] _)) none _ => ln.isNo && decide (x = N.cls z) && N.isX z && glB s.sc x && okName x
  | .raise z ln, .Raise (some (.Call (.Name x _) [ex] [] _)) none _ => !ln.isNo && decide (x = N.cls z) && N.isO z && glB s.sc x && okName x && pl ex && c.E s ln ex
  | .try_ b hs o, .Try ys (h₀ :: hds) zs [] _ => d.Ss s b ys && d.Ss s o zs && clB N P s hs (h₀ :: hds) && !s.blk
  | .swap is e, .Assign [.Tuple ts _ _] (.Tuple es _ _) _ => c.A s e es && swOk s is ts es
  | .asg (.name i) e, .Assign [.Name x _] ex _ => noComp ex && decide (s.N[i]? = some x) && tgB s x && c.E s e ex
  | .asg (.names is) e, .Assign [.Tuple es _ _] ex _ => noComp ex && tgNames s is es && (noTup ex || (foldT ex || swNo s es ex)) && c.E s e ex
  | .for_ tg one (.ivals a) u, .For te (.Call (.Attribute o y q) [] [] p) b [] _ => decide (y = "values") && a.ownF && pl o && (q.endLine == p.line) && c.E s a o && tgE s tg one te && d.Ss s u b
  | .for_ tg one e u, .For te ie b [] _ => c.I s e te ie && tgE s tg one te && pl ie && !e.lkE && d.Ss s u b
  | .whl e u, .While ex b [] _ => c.T s e ex && d.Ss s u b
  | _, _ => false
def stSs (s : Sc) : S → List Stmt → Bool
  | .nil, [] => true
  | .cons u v, x :: r => d.S s u x && d.Ss s v r
  | _, _ => false
structure OkS (n : Nat) : Prop where
  S : ∀ {s X W e ex}, CB P N n s X W → d.S s e ex = true → PS X ex (tSs P (callN P n) N X W e)
  Ss : ∀ {s X W e ex}, CB P N n s X W → d.Ss s e ex = true → PSs X ex (tSs P (callN P n) N X W e)
section
variable {N P c d} {n : Nat} {s : Sc} {X : Cx} {W : WX} {u : S} {st : Stmt} {sts : List Stmt}
theorem ss_never {cf : Nat → List Val → Store → R Val} : PS X st (tSs P cf N X W .hnil) := ⟨fun pins s σ H D I ⟨π, S, ρ, _, _, g⟩ => by
  simp only [evalS] at g
  exact g.elim⟩
theorem stS_ok (k : Ok N P c n) (k' : OkS N P d n) (cb : CB P N n s X W) (h : stS N P c d s u st = true) : PS X st (tSs P (callN P n) N X W u) := by
  have cx := cb.ce
  unfold stS at h
  split at h <;> try simp only [Bool.and_eq_true, decide_eq_true_eq, Bool.not_eq_true'] at h
  · exact ss_never
  · exact ss_pass
  · exact ss_doc
  · exact ss_brk
  · exact ss_cnt
  · exact ss_ret (k.E cx h)
  · exact ss_retN
  · exact ss_ex (k.E cx h.2) h.1
  · exact ss_if (k.T cx h.1.1) (k'.Ss cb h.1.2) (k'.Ss cb h.2)
  · obtain ⟨⟨⟨⟨⟨⟨⟨⟨⟨⟨⟨⟨⟨rfl, h1⟩, h2⟩, h3⟩, h4⟩, h5⟩, h6⟩, h7⟩, h8⟩, h9⟩, h10⟩, h11⟩, h12⟩, h13⟩ := h
    exact ss_setLcK cx (k.E cx h7) h5 h1 h2 h3 h4 (fun cy hx => k.T cy hx) h6 (fun cy => k.E cy h8) h9 h10 h11 h12 h13
  · obtain ⟨⟨⟨⟨⟨⟨⟨⟨⟨⟨⟨⟨⟨rfl, h1⟩, h2⟩, h3⟩, h4⟩, h5⟩, h6⟩, h7⟩, h8⟩, h9⟩, h10⟩, h11⟩, h12⟩, h13⟩ := h
    exact ss_setLc cx (k.I cx h7) h1 h2 h3 h4 h5 (fun cy hx => k.T cy hx) h6 (fun cy => k.E cy h8) h9 h10 h11 h12 h13
  · obtain ⟨⟨⟨rfl, h1⟩, h2⟩, h3⟩ := h
    exact ss_fld cx (k.E cx h2) (k.E cx h3) h1
  · exact ss_sub cx (k.E cx h.1.1.2) (k.E cx h.1.2) (k.E cx h.2) h.1.1.1
  · obtain ⟨⟨⟨⟨⟨rfl, rfl⟩, h1⟩, h2⟩, h3⟩, h4⟩ := h
    exact ss_aug cx (augB_ok h1) (k.E cx h3) (k.E cx h4) h2
  · obtain ⟨⟨⟨⟨h0, rfl⟩, h1⟩, h2⟩, h3⟩ := h
    exact ss_raise cx h0 h1 h2 h3
  · obtain ⟨⟨⟨⟨⟨⟨h0, rfl⟩, h1⟩, h2⟩, h3⟩, h4⟩, h5⟩ := h
    exact ss_raiseL cx h0 h1 (k.E cx h5) h4 h2 h3
  · obtain ⟨⟨⟨h1, h2⟩, h3⟩, h4⟩ := h
    exact ss_try cb (fun W' pn xe cb' => k'.Ss cb' h1) (k'.Ss cb h2) h3
  · exact ss_swap cx (k.A cx h.1).1 h.2
  · exact ss_set cx (k.E cx h.2) h.1.1.1 h.1.1.2 h.1.2
  · refine ss_names cx (k.E cx h.2) h.1.1.1 h.1.1.2 ?_
    rcases Bool.or_eq_true_iff.mp h.1.2 with q | q
    · exact noTup_sw q _ _ _ _
    · rcases Bool.or_eq_true_iff.mp q with q | q
      · exact foldT_sw q _ _ _ _
      · exact swNo_ok q cx.hsc
  · obtain ⟨⟨⟨⟨⟨⟨rfl, h1⟩, h2⟩, h3⟩, h4⟩, h5⟩, h6⟩ := h
    exact ss_forV cx cb.own (k.E cx h4) h2 h3 h1 h5 (k'.Ss cb h6)
  · obtain ⟨⟨⟨⟨h1, h2⟩, h3⟩, h4⟩, h5⟩ := h
    exact ss_for cx cb.own (k.I cx h1) h2 (k'.Ss cb h5) h3 h4
  · exact ss_whl cx cb.own (k.T cx h.1) (k'.Ss cb h.2)
  · cases h
theorem stSs_ok (k' : OkS N P d n) (cb : CB P N n s X W) (h : stSs d s u sts = true) : PSs X sts (tSs P (callN P n) N X W u) := by
  unfold stSs at h
  split at h <;> try simp only [Bool.and_eq_true, decide_eq_true_eq, Bool.not_eq_true'] at h
  · exact ss_nil
  · exact ss_cons (k'.S cb h.1) (k'.Ss cb h.2)
  · cases h
end
def csN (c : Ck) : Nat → Cs
  | 0 => ⟨fun _ _ _ => false, fun _ _ _ => false⟩
  | m + 1 => ⟨stS N P c (csN c m), stSs (csN c m)⟩
theorem csN_ok {n : Nat} (k : Ok N P c n) : ∀ m, OkS N P (csN N P c m) n
  | 0 => ⟨fun _ h => absurd h Bool.false_ne_true, fun _ h => absurd h Bool.false_ne_true⟩
  | m + 1 => ⟨stS_ok k (csN_ok k m), stSs_ok (csN_ok k m)⟩
/-! ### a def -/
/-- what is known of a def: where it stands, that its text is its term -/
structure DSt (K : PySem.W.Frag) (f : Nat) (df : Def) (a : Addr) : Prop where
  ex : ∃ (fd : FuncData) (x qual : Str) (params : Arguments) (body : List Stmt) (scope : Scope) (dvs : List V) (kws : List (Str × V)) (Ns ps : List Str) (m m' : Nat),
    FunD K x qual params body scope dvs kws a fd ∧ FnScope Ns ps scope ∧ ps.length = df.np ∧ Ns.length = df.ns ∧ (csN N P (ckN N P m) m').Ss ⟨Ns, scope, false⟩ df.body body = true ∧
    ∀ k, ∃ us dss, Binds K fd ps dss ∧ Vals us dss ∧ ∀ π H, RVs K N π H ((P.dfl f).drop k) us
/-- a def that may be called from an except clause -/
structure HSt (K : PySem.W.Frag) (f : Nat) (df : Def) (a : Addr) : Prop where
  ex : ∃ (fd : FuncData) (x qual : Str) (params : Arguments) (body : List Stmt) (scope : Scope) (Ns ps : List Str),
    FunD K x qual params body scope [] [] a fd ∧ FnScope Ns ps scope ∧ ps.length = df.np ∧ Ns.length = df.ns ∧ htSs N P false ⟨Ns, scope, false⟩ df.body body = true ∧ Binds K fd ps []
/-- the __init__ of an exception class made with a line -/
structure OSt (K : PySem.W.Frag) (mg : Str → Option Value) (C : Addr) : Prop where
  ex : ∃ (a B : Addr) (fd : FuncData) (x qual bn : Str) (params : Arguments) (body : List Stmt) (scope : Scope) (Ns ps : List Str),
    FunD K x qual params body scope [] [] a fd ∧ FnScope Ns ps scope ∧ ps.length = 2 ∧ OexC K C ∧ PySem.W.findIn K (.ref C) "line" = some none ∧ PySem.W.findIn K (.ref C) "__init__" = some (some (.ref a)) ∧ PySem.W.typeIn K (.ref a) = some (.type "function") ∧
    Bi K B (.builtin "ValueError.__init__") ∧ mg bn = some (.ref B) ∧ oeB N ⟨Ns, scope, false⟩ bn body = true ∧ Binds K fd ps []
/-- what the module holds, all but that the defs keep their promises -/
structure MSt (K : PySem.W.Frag) (mg : Str → Option Value) : Prop where
  defs : ∀ f df, P.defs f = some df → ∃ a, DSt N P K f df a
  glob : ∀ g, N.isG g = true → ∃ u y, mg (N.glb g) = some u ∧ RelV y u ∧ ∀ π H, RV K N π H (P.glob g) y
  free : ∀ x, N.frees.contains x = true → mg x = none
  call : ∀ f, N.isF f = true → ∃ a df, mg (N.fn f) = some (.ref a) ∧ PySem.W.keepIn K (.ref a) = true ∧ P.defs f = some df ∧ DSt N P K f df a
  meth : ∀ c m f, P.meth c m = some f → ∃ a df, Meth K (He.ga K (N.cls c)) (N.mth m) a ∧ P.defs f = some df ∧ DSt N P K f df a ∧ (∀ g, N.isA g = true → N.mth m ≠ N.fld g)
  init : ∀ c f, P.init c = some f → N.isC c = true ∧ ∃ a df, mg (N.cls c) = some (.ref (He.ga K (N.cls c))) ∧ Mk K (He.ga K (N.cls c)) a ∧ P.defs f = some df ∧ DSt N P K f df a ∧ Bi K (He.ga K (N.cls c)) (.ref a)
  cls : ∀ c, N.isC c = true → Cls K (He.ga K (N.cls c)) ∧ ∀ f, N.isA f = true → NoAttr K (He.ga K (N.cls c)) (N.fld f)
  inj : ∀ f g, N.isA f = true → N.isA g = true → N.fld f = N.fld g → f = g
  exc : ∀ c, N.isX c = true → N.isE c = true ∧ mg (N.cls c) = some (.ref (He.ga K (N.cls c))) ∧ PySem.W.excIn K (He.ga K (N.cls c)) He.veBase "ValueError.__new__" = true ∧ PySem.W.keepIn K (.ref (He.ga K (N.cls c))) = true ∧ PySem.W.subIn K (.ref (He.ga K (N.cls c))) (.type "BaseException") = some true ∧ PySem.W.typeIn K (.ref (He.ga K (N.cls c))) = some (.type "type")
  fx : Fx P N K mg
  hot : ∀ f, N.isH f = true → ∃ a df, mg (N.fn f) = some (.ref a) ∧ PySem.W.keepIn K (.ref a) = true ∧ P.defs f = some df ∧ HSt N P K f df a
  own : ∀ c, N.isO c = true → N.isE c = true ∧ OSt N K mg (He.ga K (N.cls c))
section
variable {N P} {Pr : Program} {w : World} {K : PySem.W.Frag} {mg : Str → Option Value} {base : Heap} {n : Nat}
theorem RE.start {π : List Addr} {H : Hp} {vs : List Val} {xs : List V} {Ns : List Str} (r : RVs K N π H vs xs) : RE K N π H (MP.env0 Ns.length vs) (L2.start Ns xs) := by
  have hl := r.length
  refine ⟨by simp [MP.env0, L2.start, hl], fun i v h => ?_⟩
  unfold MP.env0 at h
  by_cases hi : i < vs.length
  · rw [List.getElem?_append_left (by simpa using hi), List.getElem?_map] at h
    obtain ⟨v', h1, h2⟩ := Option.map_eq_some_iff.mp h
    cases h2
    obtain ⟨y, y1, y2⟩ := r.get h1
    refine ⟨y, ?_, y2⟩
    unfold L2.start
    rw [List.getElem?_append_left (by simpa [← hl] using hi), List.getElem?_map, y1]
    rfl
  · rw [List.getElem?_append_right (by simpa using hi), List.getElem?_replicate] at h
    split at h <;> cases h
/-- what a body comes to, as its end -/
theorem GF.fin {π : List Addr} {H : Hp} {r : F} {Q : VK} {E : XK} {B : Nat → List Val → Store → List Addr → Hp → Prop} (g : G K N π H r.fin (fun v _ π' H' => ∀ x, RV K N π' H' v x → Q x H') (fun c ds _ π' H' => ∀ cls d, RX K N π' H' c ds cls d → E cls d H')) :
    GF K N π H r (fun cls d _ H => E cls d H) { nx := fun _ H' => Q .non H', rt := Q } := by
  cases r with
  | nx ρ S => exact fun π' H' σ x q e => g π' H' x q .non .non
  | rt v S => exact fun π' H' y x q r => g π' H' x q y r
  | exc c ds ρ S => exact fun π' H' σ x q e => g π' H' x q
  | _ => exact g.elim
theorem bind_exc {α β : Type} {r : R α} {k : α → Store → R β} {c : Nat} {ds : List Val} {S : Store} (h : r.bind k = .exc c ds S) : r = .exc c ds S ∨ ∃ a S1, r = .ok a S1 ∧ k a S1 = .exc c ds S := by
  cases r with
  | ok a S1 => exact .inr ⟨a, S1, rfl, h⟩
  | exc c' ds' S1 =>
    have h : (R.exc c' ds' S1 : R β) = .exc c ds S := h
    cases h
    exact .inl rfl
  | bad => cases h
theorem toF_exc {α : Type} {r : R α} {ρ ρ1 : Ev} {k : α → Store → F} {c : Nat} {ds : List Val} {S : Store} (h : r.toF ρ k = .exc c ds ρ1 S) : r = .exc c ds S ∨ ∃ a S1, r = .ok a S1 ∧ k a S1 = .exc c ds ρ1 S := by
  cases r with
  | ok a S1 => exact .inr ⟨a, S1, rfl, h⟩
  | exc c' ds' S1 => cases h; exact .inl rfl
  | bad => cases h
theorem ofO_exc {α : Type} {o : Option α} {S S1 : Store} {c : Nat} {ds : List Val} (h : ofO o S = .exc c ds S1) : False := by
  cases o <;> cases h
mutual
theorem htE_nx {s : Sc} {cf : Nat → List Val → Store → R Val} : ∀ {m : Nat} {e : E} {ex : Expr}, htE N P false s m e ex = true → ∀ (ρ : Ev) (S S1 : Store) (c : Nat) (ds : List Val), evalE P cf e ρ S = .exc c ds S1 → False
  | 0, _, _, h => absurd h (by unfold htE; exact Bool.false_ne_true)
  | m + 1, e, ex, h => fun ρ S S1 c ds g => by
    unfold htE at h
    split at h <;> try simp only [Bool.and_eq_true, decide_eq_true_eq] at h
    · rename_i q; cases q
    · simp only [evalE] at g
      split at g <;> cases g
    · simp only [evalE] at g; cases g
    · simp only [evalE] at g; cases g
    · simp only [evalE] at g; cases g
    · simp only [evalE] at g; cases g
    · rename_i m' _ _ _ _ _ q
      cases q
      simp only [evalE] at g
      rcases bind_exc g with g | ⟨v, S2, _, g⟩
      · exact htE_nx h.1.1 _ _ _ _ _ g
      · rcases bind_exc g with g | ⟨w, S3, _, g⟩
        · exact htE_nx h.1.2 _ _ _ _ _ g
        · exact ofO_exc g
    · rename_i m' _ _ _ _ q
      cases q
      simp only [evalE] at g
      rcases bind_exc g with g | ⟨v, S2, _, g⟩
      · exact htA_nx h _ _ _ _ _ g
      · split at g <;> cases g
    · exact Bool.false_ne_true h.1.1.1.1.1.1.1
    · cases h
theorem htA_nx {s : Sc} {cf : Nat → List Val → Store → R Val} : ∀ {m : Nat} {e : E} {xs : List Expr}, htA N P false s m e xs = true → ∀ (ρ : Ev) (S S1 : Store) (c : Nat) (ds : List Val), evalEs P cf e ρ S = .exc c ds S1 → False
  | 0, _, _, h => absurd h (by unfold htA; exact Bool.false_ne_true)
  | m + 1, e, xs, h => fun ρ S S1 c ds g => by
    unfold htA at h
    split at h <;> try simp only [Bool.and_eq_true, decide_eq_true_eq] at h
    · rename_i q; cases q
    · simp only [evalEs] at g; cases g
    · rename_i m' _ _ _ _ q
      cases q
      simp only [evalEs] at g
      rcases bind_exc g with g | ⟨v, S2, _, g⟩
      · exact htE_nx h.1.1 _ _ _ _ _ g
      · rcases bind_exc g with g | ⟨w, S3, _, g⟩
        · exact htA_nx h.2 _ _ _ _ _ g
        · cases g
    · cases h
end
theorem htSs_nx {s : Sc} {cf : Nat → List Val → Store → R Val} : ∀ {u : S} {sts : List Stmt}, htSs N P false s u sts = true → ∀ {ρ ρ1 : Ev} {S S1 : Store} {c : Nat} {ds : List Val}, evalS P cf u ρ S = .exc c ds ρ1 S1 → False := by
  intro u sts
  induction sts generalizing u with
  | nil =>
    intro h ρ ρ1 S S1 c ds g
    unfold htSs at h
    split at h
    · simp only [evalS] at g; cases g
    · rename_i q; cases q
    · cases h
  | cons st r ih =>
    intro h ρ ρ1 S S1 c ds g
    unfold htSs at h
    split at h
    · rename_i q; cases q
    · rename_i u v x r' q
      cases q
      simp only [Bool.and_eq_true] at h
      simp only [evalS] at g
      have h1 := h.1
      unfold htS at h1
      cases e : evalS P cf u ρ S with
      | exc c' ds' ρ2 S2 =>
        split at h1 <;> try simp only [Bool.and_eq_true, decide_eq_true_eq] at h1
        · simp only [evalS] at e
          rcases toF_exc e with e | ⟨a, S3, _, e⟩
          · exact htE_nx h1 _ _ _ _ _ e
          · cases e
        · simp only [evalS] at e
          rcases toF_exc e with e | ⟨a, S3, _, e⟩
          · exact htE_nx h1.2 _ _ _ _ _ e
          · simp only [evalT] at e
            split at e <;> cases e
        · cases h1
      | nx ρ2 S2 => rw [e] at g; exact ih h.2 g
      | rt v' S2 => rw [e] at g; cases g
      | bk ρ2 S2 => rw [e] at g; cases g
      | ct ρ2 S2 => rw [e] at g; cases g
      | bad => rw [e] at g; cases g
    · cases h
/-- what a def comes to that raises nothing -/
theorem GF.fin0 {π : List Addr} {H : Hp} {r : F} {Q : VK} {E : XK} (no : ∀ c ds ρ S, r = .exc c ds ρ S → False) (g : G K N π H r.fin (fun v _ π' H' => ∀ x, RV K N π' H' v x → Q x H') (fun c ds _ π' H' => ∀ cls d, RX K N π' H' c ds cls d → E cls d H')) : GF K N π H r W0 { nx := fun _ H' => Q .non H', rt := Q } := by
  cases r with
  | nx ρ S => exact fun π' H' σ x q e => g π' H' x q .non .non
  | rt v S => exact fun π' H' y x q r => g π' H' x q y r
  | exc c ds ρ S => exact (no _ _ _ _ rfl).elim
  | _ => exact g.elim
theorem def_fn {f : Nat} {df : Def} {a : Addr} {fd : FuncData} {x qual : Str} {params : Arguments} {body : List Stmt} {scope : Scope} {dvs : List V} {kws : List (Str × V)} {Ns ps : List Str} {m m' : Nat} (hd : P.defs f = some df) (F : FunD K x qual params body scope dvs kws a fd) (S : FnScope Ns ps scope) (hp : ps.length = df.np) (hn : Ns.length = df.ns)
    (hk : (csN N P (ckN N P m) m').Ss ⟨Ns, scope, false⟩ df.body body = true) (md : Md P N Pr w K mg base n) : FnOk Pr w K mg base (L2N.CX Pr w) (2 * (n + 1) + 2) a fd ps (spN P N K (n + 1) f) := by
  have len : ∀ vs H Q E, spN P N K (n + 1) f vs H Q E → vs.length = ps.length := fun vs H Q E h => by
    obtain ⟨π, S', args, h1, h2, h3⟩ := h
    simp only [callN, hd] at h3
    split at h3
    · rename_i hl
      rw [← h2.length, hl, hp]
    · exact h3.elim
  refine F.ok (k := 2 * n + 3) S len fun cdv A outer s0 H vs Q E hr h => ?_
  have tk := L2N.takes_of (X := cxOf (L2N.CX Pr w) Pr w K mg base Ns qual scope a cdv A outer s0 H E) rfl rfl rfl rfl
  have cb : CB P N n ⟨Ns, scope, false⟩ (cxOf (L2N.CX Pr w) Pr w K mg base Ns qual scope a cdv A outer s0 H E) (fun cls d _ H => E cls d H) :=
    ⟨⟨rfl, S.nd, rfl, fun _ _ => rfl, rfl, hr, tk, md⟩, PassesOwn.leaving, rfl, rfl, rfl, rfl⟩
  refine ⟨_, (csN_ok N P _ (ckN_ok N P n m) m').Ss cb hk, ?_⟩
  obtain ⟨π, S', args, h1, h2, h3⟩ := h
  simp only [callN, hd] at h3
  split at h3
  · refine ⟨π, S', _, h1, RE.start h2, ?_⟩
    rw [← hn] at h3
    exact GF.fin (B := fun _ _ _ _ _ => True) h3
  · exact h3.elim
theorem def_ok {f : Nat} {df : Def} {a : Addr} (hd : P.defs f = some df) (D : DSt N P K f df a) (md : Md P N Pr w K mg base n) : Cal P N Pr w K mg base (n + 1) f a := by
  obtain ⟨fd, x, qual, params, body, scope, dvs, kws, Ns, ps, m, m', F, S, hp, hn, hk, hb⟩ := D.ex
  exact ⟨fd, ps, def_fn hd F S hp hn hk md, hb⟩
theorem cal0 {f : Nat} {df : Def} {a : Addr} (D : DSt N P K f df a) : Cal P N Pr w K mg base 0 f a := by
  obtain ⟨fd, x, qual, params, body, scope, dvs, kws, Ns, ps, m, m', F, S, hp, hn, hk, hb⟩ := D.ex
  have no : ∀ vs H Q E, ¬ spN P N K 0 f vs H Q E := fun vs H Q E ⟨π, S', args, h1, h2, h3⟩ => h3
  exact ⟨fd, ps, ⟨fun vs H Q E h => absurd h (no vs H Q E), fun A outer s H args us vs Q E _ _ _ _ h => absurd h (no vs H Q E)⟩, hb⟩
theorem hot_ok {f : Nat} {df : Def} {a : Addr} (hd : P.defs f = some df) (h : HSt N P K f df a) (md : Md P N Pr w K mg base n) : ∃ fd ps, L2H.FnH Pr w K mg base (L2N.CX Pr w) 1 a fd ps (spN P N K (n + 1) f) ∧ Binds K fd ps [] := by
  obtain ⟨fd, x, qual, params, body, scope, Ns, ps, F, S, hp, hn, hk, hb⟩ := h.ex
  have len : ∀ vs H Q E, spN P N K (n + 1) f vs H Q E → vs.length = ps.length := fun vs H Q E h => by
    obtain ⟨π, S', args, h1, h2, h3⟩ := h
    simp only [callN, hd] at h3
    split at h3
    · rename_i hl
      rw [← h2.length, hl, hp]
    · exact h3.elim
  obtain ⟨oc, od, dV, kV, doc, pm, an, cdv, ct, osl, rfl, lk, hcd, _, _⟩ := F.ex
  refine ⟨_, ps, L2H.fn_ofH (k := 0) lk hcd S len fun A outer s0 H vs Q E p hot hr h => ?_, hb⟩
  have cy : CH false P N n ⟨Ns, scope, false⟩ (L2H.cxH (L2N.CX Pr w) Pr w K mg base Ns qual scope a cdv A outer s0 H E p) :=
    ⟨rfl, S.nd, rfl, fun _ => rfl, (fun z => nomatch z), (by have := hr.un; show (A.deeper _).units + 1 < cLine; omega), ⟨p, hot, List.mem_cons_self⟩, md⟩
  refine ⟨_, htSs_ok cy hk, ?_⟩
  obtain ⟨π, S', args, h1, h2, h3⟩ := h
  simp only [callN, hd] at h3
  split at h3
  · refine ⟨π, S', _, h1, RE.start h2, ?_⟩
    rw [← hn] at h3
    exact GF.fin0 (fun _ _ _ _ e => htSs_nx hk e) h3
  · exact h3.elim
theorem hot0 {f : Nat} {df : Def} {a : Addr} (h : HSt N P K f df a) : ∃ fd ps, L2H.FnH Pr w K mg base (L2N.CX Pr w) 1 a fd ps (spN P N K 0 f) ∧ Binds K fd ps [] := by
  obtain ⟨fd, x, qual, params, body, scope, Ns, ps, F, S, hp, hn, hk, hb⟩ := h.ex
  have no : ∀ vs H Q E, ¬ spN P N K 0 f vs H Q E := fun vs H Q E ⟨π, S', args, h1, h2, h3⟩ => h3
  exact ⟨fd, ps, ⟨fun vs H Q E h => absurd h (no vs H Q E), fun A outer s H args us vs Q E p _ _ _ _ _ _ h => absurd h (no vs H Q E)⟩, hb⟩
theorem own_ok {c : Nat} (M : MSt N P K mg) (hc : N.isO c = true) : N.isE c = true ∧ ∃ fI fd ps, OexC K (He.ga K (N.cls c)) ∧ PySem.W.findIn K (.ref (He.ga K (N.cls c))) "__init__" = some (some (.ref fI)) ∧ PySem.W.typeIn K (.ref fI) = some (.type "function") ∧
    FnOk Pr w K mg base (L2N.CX Pr w) 1 fI fd ps (spO K (He.ga K (N.cls c))) ∧ Binds K fd ps [] := by
  obtain ⟨h0, h⟩ := M.own c hc
  obtain ⟨a, B, fd, x, qual, bn, params, body, scope, Ns, ps, F, S, hp, T, hl, hi, ht, hB, hm, hk, hb⟩ := h.ex
  exact ⟨h0, a, fd, ps, T, hi, ht, oe_ok (P := P) F S hp T hl hB hm hk, hb⟩
theorem cal_ok (M : MSt N P K mg) : ∀ n {f df a}, P.defs f = some df → DSt N P K f df a → Cal P N Pr w K mg base n f a ∧ Md P N Pr w K mg base n
  | 0, f, df, a, hd, D => ⟨cal0 D, M.glob, M.free, fun f hf => by
      obtain ⟨a, df, h1, h2, h3, h4⟩ := M.call f hf
      exact ⟨a, h1, h2, cal0 h4⟩, fun c m f h => by
      obtain ⟨a, df, h1, h2, h3, h4⟩ := M.meth c m f h
      exact ⟨a, h1, cal0 h3, h4⟩, fun c f h => by
      obtain ⟨h0, a, df, h1, h2, h3, h4, h5⟩ := M.init c f h
      exact ⟨h0, a, h1, h2, cal0 h4, h5⟩, M.cls, M.inj, M.exc, M.fx, fun f hf => by
      obtain ⟨a, df, h1, h2, h3, h4⟩ := M.hot f hf
      obtain ⟨fd, ps, k1, k2⟩ := hot0 (Pr := Pr) (w := w) (mg := mg) (base := base) h4
      exact ⟨a, fd, ps, h1, h2, k1, k2⟩, fun c hc => own_ok M hc⟩
  | n + 1, f, df, a, hd, D => by
      have ih := fun {f df a} => cal_ok M n (f := f) (df := df) (a := a)
      have md := (ih hd D).2
      refine ⟨def_ok hd D md, M.glob, M.free, fun f hf => ?_, fun c m f h => ?_, fun c f h => ?_, M.cls, M.inj, M.exc, M.fx, fun f hf => ?_, fun c hc => own_ok M hc⟩
      · obtain ⟨a, df, h1, h2, h3, h4⟩ := M.call f hf
        exact ⟨a, h1, h2, def_ok h3 h4 md⟩
      · obtain ⟨a, df, h1, h2, h3, h4⟩ := M.meth c m f h
        exact ⟨a, h1, def_ok h2 h3 md, h4⟩
      · obtain ⟨h0, a, df, h1, h2, h3, h4, h5⟩ := M.init c f h
        exact ⟨h0, a, h1, h2, def_ok h3 h4 md, h5⟩
      · obtain ⟨a, df, h1, h2, h3, h4⟩ := M.hot f hf
        obtain ⟨fd, ps, k1, k2⟩ := hot_ok h3 h4 md
        exact ⟨a, fd, ps, h1, h2, k1, k2⟩
end
end MP
/-! A law's text as data; what the module says; the head. -/
namespace MP
open PySem L2
structure DI where
  at_ : Str × Option Str
  st : Stmt
  qual : Str
  N : List Str
  np : Nat
  body : S
  dfl : List Val := []
structure CI where
  name : Str
  init : Option Nat
  meths : List (Nat × Nat)
  sups : List Nat
  exc : Bool
  own : Option (Nat × Str) := none
structure Src where
  defs : List DI
  cls : List CI
  globs : List (Str × Val)
  flds : List Str
  mths : List Str
  frees : List Str
  fuel : Nat
  dep : Nat
  hots : List Nat := []
def DI.name (d : DI) : Str := match d.at_.2 with
  | some m => m
  | none => d.at_.1
def dvOf (p : Str × Option Str) (i : Nat) : Val → He.Dv
  | .bl b => .bl b
  | .int j => .int j
  | .str x => .str x
  | .tup _ => .adr (He.dflAt p i)
  | _ => .non
def dvsOf (p : Str × Option Str) : Nat → List Val → List He.Dv
  | _, [] => []
  | i, v :: r => dvOf p i v :: dvsOf p (i + 1) r
def DI.dd (d : DI) : He.DefD := ⟨d.at_, d.name, d.qual, defArgs d.st, defBody d.st, defScope d.st, dvsOf d.at_ 0 d.dfl, []⟩
namespace Src
variable (s : Src)
def prog : Prog where
  defs := fun f => (s.defs[f]?).map fun d => ⟨d.np, d.N.length, d.body⟩
  dfl := fun f => (s.defs[f]?).elim [] (·.dfl)
  glob := fun g => (s.globs[g]?).elim .non (·.2)
  meth := fun c m => (s.cls[c]?).bind fun k => k.meths.lookup m
  init := fun c => (s.cls[c]?).bind (·.init)
  sub := fun c d => (s.cls[c]?).elim false fun k => k.sups.contains d
  line := fun f => decide (s.flds[f]? = some "line")
  fuel := s.fuel
def nms : Nms where
  cls := fun c => (s.cls[c]?).elim "" (·.name)
  fld := fun f => (s.flds[f]?).getD ""
  mth := fun m => (s.mths[m]?).getD ""
  fn := fun f => (s.defs[f]?).elim "" (·.at_.1)
  glb := fun g => (s.globs[g]?).elim "" (·.1)
  isG := fun g => decide (g < s.globs.length)
  isF := fun f => (s.defs[f]?).elim false fun d => d.at_.2.isNone
  isC := fun c => (s.cls[c]?).elim false fun k => !k.exc
  isA := fun f => decide (f < s.flds.length)
  isX := fun c => (s.cls[c]?).elim false fun k => k.exc && k.own.isNone
  isE := fun c => (s.cls[c]?).elim false fun k => k.exc
  isO := fun c => (s.cls[c]?).elim false fun k => k.exc && k.own.isSome
  isH := fun f => s.hots.contains f
  frees := s.frees
end Src
/-! ### values of the written part -/
mutual
def rvB (K : PySem.W.Frag) : Val → Value → Bool
  | .non, .none => true
  | .bl a, .bool b => decide (a = b)
  | .int i, .int j _ => decide (i = j)
  | .str x, .str y _ => decide (x = y)
  | .tup xs, .ref a => match K.lookup a with
    | some ⟨.type c, _, .seq its _, _⟩ => decide (c = "tuple") && decide (its.size ≤ sizeLine) && rvBs K xs its.toList
    | _ => false
  | _, _ => false
def rvBs (K : PySem.W.Frag) : List Val → List Value → Bool
  | [], [] => true
  | v :: vs, u :: us => rvB K v u && rvBs K vs us
  | _, _ => false
end
mutual
theorem rvB_ok {K : PySem.W.Frag} : ∀ {v : Val} {u : Value}, rvB K v u = true → ∃ y, RelV y u ∧ ∀ π H, RV K N π H v y
  | .non, u, h => by
    cases u <;> simp only [rvB] at h <;> first | (exact ⟨.non, rfl, fun _ _ => .non⟩) | cases h
  | .bl a, u, h => by
    cases u <;> simp only [rvB, decide_eq_true_eq] at h <;> first | (subst h; exact ⟨.bl a, rfl, fun _ _ => .bl a⟩) | cases h
  | .int i, u, h => by
    cases u <;> simp only [rvB, decide_eq_true_eq] at h <;> first | (subst h; exact ⟨.int i, ⟨_, rfl⟩, fun _ _ => .int i⟩) | cases h
  | .str x, u, h => by
    cases u <;> simp only [rvB, decide_eq_true_eq] at h <;> first | (subst h; exact ⟨.str x, ⟨_, rfl⟩, fun _ _ => .str x⟩) | cases h
  | .tup xs, u, h => by
    cases u <;> simp only [rvB] at h <;> try (cases h; done)
    rename_i a
    split at h
    · rename_i c dd its nn sl hk
      simp only [Bool.and_eq_true, decide_eq_true_eq] at h
      obtain ⟨⟨h1, h2⟩, h3⟩ := h
      subst h1
      obtain ⟨ys, k1, k2⟩ := rvBs_ok h3
      exact ⟨.ref a, rfl, fun π H => .tup (.inr ⟨_, its, nn, hk, rfl, rfl, h2, k1⟩) (k2 π H)⟩
    · cases h
  | .ref _, u, h => by cases u <;> simp only [rvB] at h <;> cases h
  | .exc _ _, u, h => by cases u <;> simp only [rvB] at h <;> cases h
theorem rvBs_ok {K : PySem.W.Frag} : ∀ {vs : List Val} {us : List Value}, rvBs K vs us = true → ∃ ys, Vals ys us ∧ ∀ π H, RVs K N π H vs ys
  | [], [], _ => ⟨[], .nil, fun _ _ => .nil⟩
  | v :: vs, u :: us, h => by
    simp only [rvBs, Bool.and_eq_true] at h
    obtain ⟨y, a1, a2⟩ := rvB_ok h.1
    obtain ⟨ys, b1, b2⟩ := rvBs_ok h.2
    exact ⟨y :: ys, .cons a1 b1, fun π H => .cons (a2 π H) (b2 π H)⟩
  | [], _ :: _, h => by simp [rvBs] at h
  | _ :: _, [], h => by simp [rvBs] at h
end
/-- a default stands as its term says -/
def dfB (K : PySem.W.Frag) (p : Str × Option Str) : Nat → List Val → Bool
  | _, [] => true
  | i, .tup xs :: r => rvB K (.tup xs) (.ref (He.dflAt p i K)) && dfB K p (i + 1) r
  | i, v :: r => flat v && dfB K p (i + 1) r
theorem dfB_ok {K : PySem.W.Frag} {p : Str × Option Str} : ∀ {i : Nat} {vs : List Val}, dfB K p i vs = true → ∀ π H, RVs K N π H vs ((dvsOf p i vs).map (He.Dv.v K))
  | _, [], _ => fun _ _ => .nil
  | i, v :: r, h => fun π H => by
    cases v with
    | tup xs =>
      simp only [dfB, Bool.and_eq_true] at h
      obtain ⟨y, a1, a2⟩ := rvB_ok h.1
      have e : y = .ref (He.dflAt p i K) := by
        have := a2 [] (fun _ => none)
        cases this with
        | tup _ _ =>
          have a1 : Value.ref _ = Value.ref _ := a1
          cases a1
          rfl
      subst e
      exact .cons (a2 π H) (dfB_ok h.2 π H)
    | non => simp only [dfB, Bool.and_eq_true] at h; exact .cons .non (dfB_ok h.2 π H)
    | bl b => simp only [dfB, Bool.and_eq_true] at h; exact .cons (.bl b) (dfB_ok h.2 π H)
    | int b => simp only [dfB, Bool.and_eq_true] at h; exact .cons (.int b) (dfB_ok h.2 π H)
    | str b => simp only [dfB, Bool.and_eq_true] at h; exact .cons (.str b) (dfB_ok h.2 π H)
    | ref _ => simp [dfB, flat] at h
    | exc _ _ => simp [dfB, flat] at h
/-! ### a def's text -/
def scB (d : DI) : Bool := let sc := defScope d.st; let ps := d.N.take d.np
  decide (sc.kind = .function) && !sc.isCoroutine && !sc.isGenerator && decide d.N.Nodup && (ps.all fun x => decide (sc.names.lookup x = some .local) || decide (sc.names.lookup x = some .cell)) && (sc.names.all fun y => decide (y.2 ≠ .free)) && decide (d.np ≤ d.N.length)
theorem scB_ok {d : DI} (h : scB d = true) : FnScope d.N (d.N.take d.np) (defScope d.st) ∧ (d.N.take d.np).length = d.np := by
  unfold scB at h
  simp only [Bool.and_eq_true, decide_eq_true_eq, Bool.not_eq_true', List.all_eq_true, Bool.or_eq_true] at h
  obtain ⟨⟨⟨⟨⟨⟨h1, h2⟩, h3⟩, h4⟩, h5⟩, h6⟩, h7⟩ := h
  have l : (d.N.take d.np).length = d.np := by rw [List.length_take]; omega
  exact ⟨⟨h1, h2, h3, h4, by rw [l], h5, h6⟩, l⟩
def BnP (d : DI) : Prop := match d.dfl with
  | [] => ∀ (kV doc pm : Value) (an : Option Addr) (cdv ct : Value) (us : List Value), us.length = d.np → bindArgs (PySem.W.fnOf d.name d.qual (defArgs d.st) (defBody d.st) (defScope d.st) .none kV doc pm an cdv ct) ⟨us, []⟩ = pure ((d.N.take d.np).zip us)
  | v :: r => ∀ j, j ≤ (v :: r).length → (v :: r).length - j ≤ d.np ∧ ∀ (T : Addr) (kV doc pm : Value) (an : Option Addr) (cdv ct : Value) (us its : List Value), us.length = d.np - ((v :: r).length - j) → its.length = (v :: r).length →
    ∃ k, bindArgs (PySem.W.fnOf d.name d.qual (defArgs d.st) (defBody d.st) (defScope d.st) (.ref T) kV doc pm an cdv ct) ⟨us, []⟩ = seqItems? (.ref T) >>= k ∧ k (some its.toArray) = pure ((d.N.take d.np).zip (us ++ its.drop j))
theorem dvs_len {p : Str × Option Str} : ∀ {vs : List Val} {i : Nat}, (dvsOf p i vs).length = vs.length
  | [], _ => rfl
  | _ :: r, i => congrArg (· + 1) dvs_len
theorem bn_ok {d : DI} {K : PySem.W.Frag} {fd : FuncData} (b : BnP d) (l : (d.N.take d.np).length = d.np) (F : FunD K d.name d.qual (defArgs d.st) (defBody d.st) (defScope d.st) (d.dd.dvs K) [] (He.fAd K d.at_) fd) (h : dfB K d.at_ 0 d.dfl = true) (k : Nat) :
    ∃ us dss, Binds K fd (d.N.take d.np) dss ∧ Vals us dss ∧ ∀ π H, RVs K N π H (d.dfl.drop k) us := by
  have rd := dfB_ok (N := N) h
  unfold BnP at b
  split at b
  · rename_i e
    have e2 : d.dd.dvs K = [] := by
      unfold He.DefD.dvs DI.dd
      rw [e]
      rfl
    rw [e2] at F
    refine ⟨[], [], FunD.bindsN F (fun kV doc pm an cdv ct us hl => b kV doc pm an cdv ct us (hl.trans l)), .nil, fun π H => ?_⟩
    rw [e]
    simp
    exact .nil
  · rename_i v r e
    have hl : (d.dd.dvs K).length = (v :: r).length := by
      unfold He.DefD.dvs DI.dd
      rw [List.length_map, dvs_len, e]
    have hd : d.dd.dvs K ≠ [] := fun z => by rw [z] at hl; simp at hl
    have hj : min k (v :: r).length ≤ (v :: r).length := Nat.min_le_right _ _
    obtain ⟨hle, b⟩ := b _ hj
    obtain ⟨ds, k1, k2⟩ := FunD.binds1 (ps := d.N.take d.np) F (d.np - ((v :: r).length - min k (v :: r).length)) (min k (v :: r).length) hd (by rw [l, hl]; omega) (fun T kV doc pm an cdv ct us its h1 h2 => b T kV doc pm an cdv ct us its h1 (h2.trans hl))
    refine ⟨_, ds, k2, k1, fun π H => ?_⟩
    have r2 := (rd π H).drop k
    have e3 : (d.dd.dvs K).drop (min k (v :: r).length) = (d.dd.dvs K).drop k := by
      by_cases hk : k ≤ (v :: r).length
      · rw [Nat.min_eq_left hk]
      · rw [Nat.min_eq_right (by omega), List.drop_eq_nil_of_le (by omega), List.drop_eq_nil_of_le (by omega)]
    rw [e3]
    exact r2
theorem all_nil {p : DI → Prop} : ∀ d ∈ ([] : List DI), p d := fun d h => nomatch h
theorem all_cons {p : DI → Prop} {d : DI} {l : List DI} (h : p d) (r : ∀ x ∈ l, p x) : ∀ x ∈ d :: l, p x := fun x hx => by
  rcases List.mem_cons.mp hx with e | e
  · rw [e]; exact h
  · exact r x e
end MP
/-! The module's facts; the head. -/
namespace MP
open PySem L2
namespace Src
variable (s : Src)
/-- each def's text is its term (no state in sight) -/
def ckD : Bool := s.defs.all fun d => scB d && (csN s.nms s.prog (ckN s.nms s.prog s.dep) s.dep).Ss ⟨d.N, defScope d.st, false⟩ d.body (defBody d.st)
def ckM : Bool := decide s.flds.Nodup && (s.cls.all fun k => k.meths.all fun q => decide (q.1 < s.mths.length) && s.flds.all fun f => decide ((s.mths[q.1]?).getD "" ≠ f))
def ckI : Bool := s.cls.all fun k => !k.exc || (k.init.isNone && k.meths.isEmpty)
def ckH : Bool := (s.hots.all fun f => match s.defs[f]? with
  | some d => d.at_.2.isNone && (d.dfl.isEmpty && htSs s.nms s.prog false ⟨d.N, defScope d.st, false⟩ d.body (defBody d.st))
  | none => false) && (s.cls.all fun k => match k.own with
  | some (f, bn) => (match s.defs[f]? with
    | some d => decide (d.np = 2) && (decide (d.N.length = 2) && (d.dfl.isEmpty && oeB s.nms ⟨d.N, defScope d.st, false⟩ bn (defBody d.st)))
    | none => false)
  | none => true)
def at_ (K : PySem.W.Frag) (f : Nat) : Addr := (s.defs[f]?).elim 0 fun d => He.fAd K d.at_
def factG (K : PySem.W.Frag) : Bool := s.globs.all fun q => match PySem.W.nsIn K mainGlobals q.1 with
  | some (some u) => rvB K q.2 u
  | _ => false
def factD (K : PySem.W.Frag) : Bool := s.defs.all fun d => (match d.at_.2 with
  | none => (He.Fa.glo d.at_.1).ok K
  | some _ => true) && dfB K d.at_ 0 d.dfl
def factC (K : PySem.W.Frag) : Bool := s.cls.all fun k => k.exc || ((He.Fa.cls k.name).ok K && (s.flds.all fun f => (He.Fa.noat k.name f).ok K) &&
  (k.meths.all fun q => (He.Fa.meth k.name ((s.mths[q.1]?).getD "")).ok K && decide (He.ma K (He.ga K k.name) ((s.mths[q.1]?).getD "") = s.at_ K q.2) && decide (q.2 < s.defs.length)) &&
  (match k.init with
    | some f => (He.Fa.mkr k.name).ok K && (He.Fa.glo k.name).ok K && decide (He.ma K (He.ga K k.name) "__init__" = s.at_ K f) && decide (f < s.defs.length) && biB K (He.ga K k.name) (.ref (s.at_ K f))
    | none => true) && ((He.Fa.glo k.name).ok K && insCB K (He.ga K k.name)))
def factF (K : PySem.W.Frag) : Bool := s.frees.all fun x => (He.Fa.free x).ok K
def factX (K : PySem.W.Frag) : Bool := s.cls.all fun k => !k.exc || ((He.Fa.glo k.name).ok K && (excCB K (He.ga K k.name) && (decide (PySem.W.findIn K (.ref (He.ga K k.name)) "line" = some none) && (decide (PySem.W.kitOne K (.ref (He.ga K k.name)) (.type "ValueError") = some true) && (match k.own with
  | none => (He.Fa.exc k.name).ok K
  | some (f, bn) => oexB K (He.ga K k.name) && (decide (PySem.W.findIn K (.ref (He.ga K k.name)) "__init__" = some (some (.ref (s.at_ K f)))) && (decide (PySem.W.typeIn K (.ref (s.at_ K f)) = some (.type "function")) && (biB K (He.ga K bn) (.builtin "ValueError.__init__") && (He.Fa.glo bn).ok K))))))))
def factP (K : PySem.W.Frag) : Bool := (List.range s.cls.length).all fun c => (List.range s.cls.length).all fun h => decide (PySem.W.kitOne K (.ref (He.ga K (s.nms.cls c))) (.ref (He.ga K (s.nms.cls h))) = some (s.prog.sub c h)) && (!(s.nms.isE c && s.nms.isE h) || decide (PySem.W.exmOne K (.ref (He.ga K (s.nms.cls c))) (.ref (He.ga K (s.nms.cls h))) = some (s.prog.sub c h)))
def facts (K : PySem.W.Frag) : Bool := s.factG K && s.factD K && s.factC K && s.factF K && s.factX K && s.factP K
def dds : List He.DefD := s.defs.map DI.dd
end Src
theorem look_mem {α : Type} {m : Nat} {f : α} : ∀ {l : List (Nat × α)}, l.lookup m = some f → (m, f) ∈ l
  | [], h => by cases h
  | p :: r, h => by
    rw [List.lookup_cons] at h
    split at h
    · rename_i e
      cases h
      have e : m = p.1 := by simpa using e
      subst e
      exact List.mem_cons_self
    · exact List.mem_cons_of_mem _ (look_mem h)
section
variable {s : Src} {K : PySem.W.Frag} {h : Heap} {mg : Str → Option Value}
theorem src_def {f : Nat} {df : Def} (e : s.prog.defs f = some df) : ∃ d, s.defs[f]? = some d ∧ df = ⟨d.np, d.N.length, d.body⟩ := by
  obtain ⟨d, h1, h2⟩ := Option.map_eq_some_iff.mp e
  exact ⟨d, h1, h2.symm⟩
theorem src_dst (c : He.SaysD [] s.dds K) (hf : s.facts K = true) (ck : s.ckD = true) (b : ∀ d ∈ s.defs, BnP d) {f : Nat} {d : DI} (e : s.defs[f]? = some d) :
    DSt s.nms s.prog K f ⟨d.np, d.N.length, d.body⟩ (He.fAd K d.at_) ∧ PySem.W.keepIn K (.ref (He.fAd K d.at_)) = true := by
  have hm : d ∈ s.defs := List.mem_of_getElem? e
  obtain ⟨fd, F⟩ := c.defs (d := d.dd) (List.mem_map.mpr ⟨d, hm, rfl⟩)
  have k1 := List.all_eq_true.mp ck d hm
  simp only [Bool.and_eq_true] at k1
  obtain ⟨S, l⟩ := scB_ok k1.1
  unfold Src.facts at hf
  simp only [Bool.and_eq_true] at hf
  have k2 := List.all_eq_true.mp hf.1.1.1.1.2 d hm
  simp only [Bool.and_eq_true] at k2
  refine ⟨⟨fd, _, _, _, _, _, _, _, d.N, d.N.take d.np, s.dep, s.dep, F, S, l, rfl, k1.2, fun k => ?_⟩, F.kp⟩
  have e2 : s.prog.dfl f = d.dfl := by
    show (s.defs[f]?).elim [] (·.dfl) = d.dfl
    rw [e]; rfl
  rw [e2]
  exact bn_ok (b d hm) l F k2.2 k
theorem src_fun (c : He.SaysD [] s.dds K) (ck : s.ckD = true) (b : ∀ d ∈ s.defs, BnP d) {f : Nat} {d : DI} (e : s.defs[f]? = some d) (hd : d.dfl = []) : FnScope d.N (d.N.take d.np) (defScope d.st) ∧ (d.N.take d.np).length = d.np ∧
    ∃ fd, FunD K d.name d.qual (defArgs d.st) (defBody d.st) (defScope d.st) [] [] (He.fAd K d.at_) fd ∧ Binds K fd (d.N.take d.np) [] := by
  have hm : d ∈ s.defs := List.mem_of_getElem? e
  obtain ⟨fd, F⟩ := c.defs (d := d.dd) (List.mem_map.mpr ⟨d, hm, rfl⟩)
  have k1 := List.all_eq_true.mp ck d hm
  simp only [Bool.and_eq_true] at k1
  obtain ⟨S, l⟩ := scB_ok k1.1
  have F' : FunD K d.name d.qual (defArgs d.st) (defBody d.st) (defScope d.st) (d.dd.dvs K) [] (He.fAd K d.at_) fd := F
  have e2 : d.dd.dvs K = [] := by
    unfold He.DefD.dvs DI.dd
    rw [hd]
    rfl
  rw [e2] at F'
  have bb := b d hm
  unfold BnP at bb
  rw [hd] at bb
  exact ⟨S, l, fd, F', FunD.bindsN F' (fun kV doc pm an cdv ct us hl => bb kV doc pm an cdv ct us (hl.trans l))⟩
theorem src_mst (X : K.In h) (G : h.Ns mainGlobals mg) (c : He.SaysD [] s.dds K) (hf : s.facts K = true) (ck : s.ckD = true) (cm : s.ckM = true) (ci : s.ckI = true) (ch : s.ckH = true) (b : ∀ d ∈ s.defs, BnP d) : MSt s.nms s.prog K mg := by
  have hf0 := hf
  unfold Src.facts at hf
  simp only [Bool.and_eq_true] at hf
  obtain ⟨⟨⟨⟨⟨hG, hD⟩, hC⟩, hF⟩, hX⟩, hP⟩ := hf
  unfold Src.ckM at cm
  simp only [Bool.and_eq_true, decide_eq_true_eq] at cm
  obtain ⟨cm1, cm2⟩ := cm
  have dst := fun {f d} => src_dst (f := f) (d := d) c hf0 ck b
  have gd : ∀ {f : Nat} {d : DI}, s.defs[f]? = some d → s.prog.defs f = some ⟨d.np, d.N.length, d.body⟩ := fun {f d} e => by
    show (s.defs[f]?).map _ = _
    rw [e]; rfl
  have ad : ∀ {f : Nat} {d : DI}, s.defs[f]? = some d → s.at_ K f = He.fAd K d.at_ := fun {f d} e => by
    show (s.defs[f]?).elim 0 _ = _
    rw [e]; rfl
  have clsf : ∀ {c : Nat} {k : CI}, s.cls[c]? = some k → k.exc = false → (He.Fa.cls k.name).ok K = true ∧ (∀ f ∈ s.flds, (He.Fa.noat k.name f).ok K = true) ∧ (∀ q ∈ k.meths, (He.Fa.meth k.name ((s.mths[q.1]?).getD "")).ok K = true ∧ He.ma K (He.ga K k.name) ((s.mths[q.1]?).getD "") = s.at_ K q.2 ∧ q.2 < s.defs.length) ∧
      (∀ f, k.init = some f → (He.Fa.mkr k.name).ok K = true ∧ (He.Fa.glo k.name).ok K = true ∧ He.ma K (He.ga K k.name) "__init__" = s.at_ K f ∧ f < s.defs.length ∧ biB K (He.ga K k.name) (.ref (s.at_ K f)) = true) ∧ (He.Fa.glo k.name).ok K = true ∧ insCB K (He.ga K k.name) = true := fun {c k} e ex => by
    have z := List.all_eq_true.mp hC k (List.mem_of_getElem? e)
    simp only [ex, Bool.false_or, Bool.and_eq_true, List.all_eq_true, decide_eq_true_eq] at z
    obtain ⟨⟨⟨⟨z1, z2⟩, z3⟩, z4⟩, z5, z6⟩ := z
    refine ⟨z1, z2, fun q hq => ⟨(z3 q hq).1.1, (z3 q hq).1.2, (z3 q hq).2⟩, fun f hk => ?_, z5, z6⟩
    rw [hk] at z4
    simp only [Bool.and_eq_true, decide_eq_true_eq] at z4
    exact ⟨z4.1.1.1.1, z4.1.1.1.2, z4.1.1.2, z4.1.2, z4.2⟩
  have nm : ∀ {c : Nat} {k : CI}, s.cls[c]? = some k → s.nms.cls c = k.name := fun {c k} e => by
    show (s.cls[c]?).elim ("" : Str) (·.name) = _
    rw [e]; rfl
  unfold Src.ckH at ch
  simp only [Bool.and_eq_true] at ch
  have c' := c
  have excf : ∀ {c : Nat} {k : CI}, s.cls[c]? = some k → k.exc = true → (He.Fa.glo k.name).ok K = true ∧ excCB K (He.ga K k.name) = true ∧ PySem.W.findIn K (.ref (He.ga K k.name)) "line" = some none ∧ PySem.W.kitOne K (.ref (He.ga K k.name)) (.type "ValueError") = some true ∧ (match k.own with
      | none => (He.Fa.exc k.name).ok K
      | some (f, bn) => oexB K (He.ga K k.name) && (decide (PySem.W.findIn K (.ref (He.ga K k.name)) "__init__" = some (some (.ref (s.at_ K f)))) && (decide (PySem.W.typeIn K (.ref (s.at_ K f)) = some (.type "function")) && (biB K (He.ga K bn) (.builtin "ValueError.__init__") && (He.Fa.glo bn).ok K)))) = true := fun {c k} e ex => by
    have z := List.all_eq_true.mp hX k (List.mem_of_getElem? e)
    simp only [ex, Bool.not_true, Bool.false_or, Bool.and_eq_true, decide_eq_true_eq] at z
    exact z
  have isE : ∀ {c : Nat}, s.nms.isE c = true → ∃ k, s.cls[c]? = some k ∧ k.exc = true := fun {c} e => by
    have e : (s.cls[c]?).elim false (fun k => k.exc) = true := e
    cases hk : s.cls[c]? with
    | none => rw [hk] at e; cases e
    | some k => rw [hk] at e; exact ⟨k, rfl, e⟩
  have isC : ∀ {c : Nat}, s.nms.isC c = true → ∃ k, s.cls[c]? = some k ∧ k.exc = false := fun {c} e => by
    have e : (s.cls[c]?).elim false (fun k => !k.exc) = true := e
    cases hk : s.cls[c]? with
    | none => rw [hk] at e; cases e
    | some k => rw [hk] at e; exact ⟨k, rfl, by simpa using e⟩
  have lt : ∀ {c : Nat} {k : CI}, s.cls[c]? = some k → c < s.cls.length := fun {c k} e => (List.getElem?_eq_some_iff.mp e).1
  have pr : ∀ {c h : Nat}, c < s.cls.length → h < s.cls.length → PySem.W.kitOne K (.ref (He.ga K (s.nms.cls c))) (.ref (He.ga K (s.nms.cls h))) = some (s.prog.sub c h) ∧ (!(s.nms.isE c && s.nms.isE h) || decide (PySem.W.exmOne K (.ref (He.ga K (s.nms.cls c))) (.ref (He.ga K (s.nms.cls h))) = some (s.prog.sub c h))) = true := fun {c h} h1 h2 => by
    have z := List.all_eq_true.mp (List.all_eq_true.mp hP c (List.mem_range.mpr h1)) h (List.mem_range.mpr h2)
    rw [Bool.and_eq_true] at z
    exact ⟨of_decide_eq_true z.1, z.2⟩
  refine ⟨fun f df e => ?_, fun g hg => ?_, fun x hx => ?_, fun f hf => ?_, fun c m f e => ?_, fun c f e => ?_, fun c e => ?_, fun f g h1 h2 e => ?_, fun c e => ?_, ⟨fun c e => ?_, fun c h e1 e2 => ?_, fun f e => ?_, fun c e => ?_, fun c h e1 e2 => ?_⟩, fun f e => ?_, fun c e => ?_⟩
  · obtain ⟨d, h1, rfl⟩ := src_def e
    exact ⟨_, (dst h1).1⟩
  · have hg : g < s.globs.length := of_decide_eq_true hg
    have hgg : s.globs[g]? = some s.globs[g] := List.getElem?_eq_getElem hg
    have z := List.all_eq_true.mp hG s.globs[g] (List.getElem_mem hg)
    have e1 : s.nms.glb g = s.globs[g].1 := by
      show (s.globs[g]?).elim ("" : Str) (·.1) = _
      rw [hgg]; rfl
    have e2 : s.prog.glob g = s.globs[g].2 := by
      show (s.globs[g]?).elim .non (·.2) = _
      rw [hgg]; rfl
    rw [e1, e2]
    split at z
    · rename_i u hu
      obtain ⟨y, y1, y2⟩ := rvB_ok z
      exact ⟨u, y, PySem.W.mg_of X G hu, y1, y2⟩
    · cases z
  · exact He.free_ok X G (List.all_eq_true.mp hF x (by have hx : s.frees.contains x = true := hx; simpa using hx))
  · have hf : (s.defs[f]?).elim false (fun d => d.at_.2.isNone) = true := hf
    cases e : s.defs[f]? with
    | none => rw [e] at hf; cases hf
    | some d =>
      rw [e] at hf
      have hn : d.at_.2 = none := by simpa using hf
      have z := List.all_eq_true.mp hD d (List.mem_of_getElem? e)
      simp only [hn, Bool.and_eq_true] at z
      have e1 : s.nms.fn f = d.at_.1 := by
        show (s.defs[f]?).elim ("" : Str) (·.at_.1) = _
        rw [e]; rfl
      have e2 : He.fAd K d.at_ = He.ga K d.at_.1 := by
        unfold He.fAd
        rw [hn]
      obtain ⟨d1, d2⟩ := dst e
      refine ⟨He.fAd K d.at_, _, ?_, d2, gd e, d1⟩
      rw [e1, e2]
      exact He.glo_ok X G z.1
  · obtain ⟨k, hk, hm⟩ := Option.bind_eq_some_iff.mp e
    have hmem : (m, f) ∈ k.meths := look_mem hm
    have hex : k.exc = false ∨ k.exc = true := by cases k.exc <;> simp
    rcases hex with hex | hex
    · obtain ⟨z1, z2, z3, z4, _⟩ := clsf hk hex
      obtain ⟨m1, m2, m3⟩ := z3 _ hmem
      have ed : s.defs[f]? = some s.defs[f] := List.getElem?_eq_getElem m3
      refine ⟨He.fAd K s.defs[f].at_, _, ?_, gd ed, (dst ed).1, fun g hg he => ?_⟩
      · rw [nm hk, ← ad ed, ← m2]
        exact He.meth_ok m1
      · have hg : g < s.flds.length := of_decide_eq_true hg
        have q := List.all_eq_true.mp (List.all_eq_true.mp cm2 k (List.mem_of_getElem? hk)) _ hmem
        simp only [Bool.and_eq_true, List.all_eq_true, decide_eq_true_eq] at q
        have q := q.2 s.flds[g] (List.getElem_mem hg)
        refine q ?_
        have e3 : s.nms.fld g = s.flds[g] := by
          show (s.flds[g]?).getD "" = _
          rw [List.getElem?_eq_getElem hg]; rfl
        rw [← e3]
        exact he
    · have z := List.all_eq_true.mp ci k (List.mem_of_getElem? hk)
      rw [hex] at z
      simp only [Bool.not_true, Bool.false_or, Bool.and_eq_true, List.isEmpty_iff] at z
      rw [z.2] at hmem
      cases hmem
  · obtain ⟨k, hk, hm⟩ := Option.bind_eq_some_iff.mp e
    have hex : k.exc = false := by
      have z := List.all_eq_true.mp ci k (List.mem_of_getElem? hk)
      rw [hm] at z
      simpa using z
    obtain ⟨z1, z2, z3, z4, _⟩ := clsf hk hex
    obtain ⟨m1, m2, m3, m4, m5⟩ := z4 f hm
    have ed : s.defs[f]? = some s.defs[f] := List.getElem?_eq_getElem m4
    refine ⟨?_, He.fAd K s.defs[f].at_, _, ?_, ?_, gd ed, (dst ed).1, ?_⟩
    · show (s.cls[c]?).elim false (fun k => !k.exc) = true
      rw [hk]
      simp [hex]
    · rw [nm hk]
      exact He.glo_ok X G m2
    · rw [nm hk, ← ad ed, ← m3]
      exact He.mkr_ok m1
    · rw [nm hk, ← ad ed]
      exact biB_ok m5
  · have e : (s.cls[c]?).elim false (fun k => !k.exc) = true := e
    cases hk : s.cls[c]? with
    | none => rw [hk] at e; cases e
    | some k =>
      rw [hk] at e
      have hex : k.exc = false := by simpa using e
      obtain ⟨z1, z2, z3, z4, _⟩ := clsf hk hex
      rw [nm hk]
      refine ⟨He.cls_ok z1, fun f hf => He.noat_ok (z2 _ ?_)⟩
      have hf : f < s.flds.length := of_decide_eq_true hf
      show (s.flds[f]?).getD "" ∈ s.flds
      rw [List.getElem?_eq_getElem hf]
      exact List.getElem_mem hf
  · have h1 : f < s.flds.length := of_decide_eq_true h1
    have h2 : g < s.flds.length := of_decide_eq_true h2
    have e : (s.flds[f]?).getD "" = (s.flds[g]?).getD "" := e
    rw [List.getElem?_eq_getElem h1, List.getElem?_eq_getElem h2] at e
    have e : s.flds[f] = s.flds[g] := e
    exact nd_ix cm1 (List.getElem?_eq_getElem h1) (by rw [List.getElem?_eq_getElem h2, e])
  · have e : (s.cls[c]?).elim false (fun k => k.exc && k.own.isNone) = true := e
    cases hk : s.cls[c]? with
    | none => rw [hk] at e; cases e
    | some k =>
      rw [hk] at e
      have e : (k.exc && k.own.isNone) = true := e
      simp only [Bool.and_eq_true] at e
      obtain ⟨x1, x2, x3, x4, x5⟩ := excf hk e.1
      have hn : k.own = none := by simpa using e.2
      rw [hn] at x5
      rw [nm hk]
      refine ⟨?_, He.glo_ok X G x1, He.exc_ok x5⟩
      show (s.cls[c]?).elim false (fun k => k.exc) = true
      rw [hk]
      exact e.1
  · obtain ⟨k, hk, ex⟩ := isE e
    obtain ⟨x1, x2, x3, x4, x5⟩ := excf hk ex
    rw [nm hk]
    exact ⟨He.glo_ok X G x1, excCB_ok x2, x3, x4⟩
  · obtain ⟨k1, hk1, _⟩ := isE e1
    obtain ⟨k2, hk2, _⟩ := isE e2
    have z := (pr (lt hk1) (lt hk2)).2
    have e3 : (s.nms.isE c && s.nms.isE h) = true := Bool.and_eq_true_iff.mpr ⟨e1, e2⟩
    rw [e3] at z
    simpa using z
  · have e : s.flds[f]? = some "line" := of_decide_eq_true e
    show (s.flds[f]?).getD "" = "line"
    rw [e]; rfl
  · obtain ⟨k, hk, ex⟩ := isC e
    obtain ⟨z1, z2, z3, z4, z5, z6⟩ := clsf hk ex
    rw [nm hk]
    exact ⟨insCB_ok (He.cls_ok z1) z6, He.glo_ok X G z5⟩
  · exact (pr (e1.elim (fun q => lt (isC q).choose_spec.1) fun q => lt (isE q).choose_spec.1) (e2.elim (fun q => lt (isC q).choose_spec.1) fun q => lt (isE q).choose_spec.1)).1
  · have hm : f ∈ s.hots := by
      have e : s.hots.contains f = true := e
      simpa using e
    have z := List.all_eq_true.mp ch.1 f hm
    split at z
    · rename_i d hd
      simp only [Bool.and_eq_true, List.isEmpty_iff] at z
      obtain ⟨z1, z2, z3⟩ := z
      obtain ⟨S, l, fd, F, hb⟩ := src_fun c ck b hd z2
      have hn : d.at_.2 = none := by simpa using z1
      have y := List.all_eq_true.mp hD d (List.mem_of_getElem? hd)
      simp only [hn, Bool.and_eq_true] at y
      have e1 : s.nms.fn f = d.at_.1 := by
        show (s.defs[f]?).elim ("" : Str) (·.at_.1) = _
        rw [hd]; rfl
      have e2 : He.fAd K d.at_ = He.ga K d.at_.1 := by
        unfold He.fAd
        rw [hn]
      refine ⟨He.fAd K d.at_, _, ?_, F.kp, gd hd, ⟨fd, _, _, _, _, _, _, _, F, S, l, rfl, z3, hb⟩⟩
      rw [e1, e2]
      exact He.glo_ok X G y.1
    · cases z
  · have e : (s.cls[c]?).elim false (fun k => k.exc && k.own.isSome) = true := e
    cases hk : s.cls[c]? with
    | none => rw [hk] at e; cases e
    | some k =>
      rw [hk] at e
      have e : (k.exc && k.own.isSome) = true := e
      simp only [Bool.and_eq_true] at e
      obtain ⟨⟨f, bn⟩, ho⟩ := Option.isSome_iff_exists.mp e.2
      obtain ⟨x1, x2, x3, x4, x5⟩ := excf hk e.1
      rw [ho] at x5
      simp only [Bool.and_eq_true, decide_eq_true_eq] at x5
      obtain ⟨y1, y2, y3, y4, y5⟩ := x5
      have z := List.all_eq_true.mp ch.2 k (List.mem_of_getElem? hk)
      rw [ho] at z
      simp only at z
      split at z
      · rename_i d hd
        simp only [Bool.and_eq_true, decide_eq_true_eq, List.isEmpty_iff] at z
        obtain ⟨w1, w2, w3, w4⟩ := z
        obtain ⟨S, l, fd, F, hb⟩ := src_fun c' ck b hd w3
        rw [ad hd] at y2 y3
        refine ⟨?_, ⟨He.fAd K d.at_, He.ga K bn, fd, _, _, bn, _, _, _, _, _, F, S, l.trans w1, ?_, ?_, ?_, y3, biB_ok y4, He.glo_ok X G y5, w4, hb⟩⟩
        · show (s.cls[c]?).elim false (fun k => k.exc) = true
          rw [hk]
          exact e.1
        · rw [nm hk]; exact oexB_ok y1
        · rw [nm hk]; exact x3
        · rw [nm hk]; exact y2
      · cases z
end
end MP
/-! The hook, the law's promise. -/
namespace MP
open PySem L2
def noLf (o : Obj) : Bool := match o.cls with
  | .type c => decide (c ≠ "list")
  | _ => true
def frM (g : Addr → Option Obj) (as : List Addr) : PySem.W.Frag := (He.frG g as).filter fun q => noLf q.2
theorem frM_mem {g : Addr → Option Obj} {as : List Addr} {a : Addr} {o : Obj} (h : (frM g as).lookup a = some o) : g a = some o ∧ noLf o = true := by
  have m := List.mem_filter.mp (He.lookup_mem h)
  exact ⟨He.frG_mem m.1, m.2⟩
def obsM (n : Nat) (s : Src) (g : Addr → Option Obj) : He.AlD × Bool := (He.obsD [] s.dds (frM g (He.asD g n ++ [cStatics])), s.facts (frM g (He.asD g n ++ [cStatics])))
structure SaysM (s : Src) (K : PySem.W.Frag) : Prop where
  d : He.SaysD [] s.dds K
  f : s.facts K = true
  nl : ∀ a o, K.lookup a = some o → noLf o = true
theorem saysM_of {n : Nat} {s : Src} {g : Addr → Option Obj} (e : obsM n s g = (He.valD s.dds, true)) : SaysM s (frM g (He.asD g n ++ [cStatics])) :=
  ⟨congrArg (fun z : He.AlD × Bool => z.1) e, congrArg (fun z : He.AlD × Bool => z.2) e, fun _ _ h => (frM_mem h).2⟩
def hookM (n : Nat) (s : Src) : PySem.W.Hook where
  α := He.AlD × Bool
  obs := fun z => obsM n s z.heap.get?
  val := fun _ => (He.valD s.dds, true)
  says := fun _ h => ∃ K : PySem.W.Frag, K.In h ∧ SaysM s K
  of := fun _ _ e => ⟨_, fun _ _ h => (frM_mem h).1, saysM_of e⟩
  keeps := fun _ _ _ ⟨K, hK, c⟩ k => ⟨K, PySem.W.Frag.In.keeps hK k, c⟩
theorem obsM_eq {n : Nat} {s : Src} {g : Addr → Option Obj} {z : Shared} (h : ∀ a, g a = z.heap.get? a) : obsM n s g = (hookM n s).obs z := by
  have e : g = z.heap.get? := funext h
  rw [e]
  rfl
/-- what a def may let out, in some world -/
def CXE (Pr : Program) : CXT := fun outer H s E u s' => ∃ w, L2N.CX Pr w outer H s E u s'
theorem fn_cx {P : Program} {w : World} {K : PySem.W.Frag} {mg : Str → Option Value} {base : Heap} {k : Nat} {f : Addr} {fd : FuncData} {ps : List Str} {sp : Sp} (F : FnOk P w K mg base (L2N.CX P w) k f fd ps sp) : FnOk P w K mg base (CXE P) k f fd ps sp :=
  ⟨F.len, fun A outer s H args us vs Q E h1 h2 h3 h4 h5 => codeAny_mono (F.run A outer s H args us vs Q E h1 h2 h3 h4 h5) fun r s' hq => by
    cases r with
    | error e => exact ⟨w, hq⟩
    | ok fl => cases fl <;> exact hq⟩
theorem cxe_no {Pr : Program} (H : Hp) (s : Shared) (e : Value) (s' : Shared) (h : CXE Pr [] H s (fun _ _ _ => False) e s') : False := by
  obtain ⟨w, _, _, _, _, _, _, _, _, _, _, _, _, h⟩ := h
  exact h
/-- the law, of plain Lean: its def comes to True at each script -/
def Src.law (s : Src) (lf dep most : Nat) : Prop := ∀ ns : List Int, ns.length ≤ most → ∃ S, callN s.prog (dep + 1) lf [.ref 0] [.fro (ns.map Val.int)] = .ok (.bl true) S
theorem src_law {s : Src} {lf dep most : Nat} {ld : DI} {x nm : Str} {Pr : Program} {w : World} {K : PySem.W.Frag} {h : Heap} {mg : Str → Option Value} {fa : Addr} (X : K.In h) (G : h.Ns mainGlobals mg) (hfa : mg nm = some (.ref fa)) (c : SaysM s K) (ck : s.ckD = true) (cm : s.ckM = true) (ci : s.ckI = true) (ch : s.ckH = true) (b : ∀ d ∈ s.defs, BnP d)
    (el : s.defs[lf]? = some ld) (ea : ld.at_ = (nm, none)) (ex : ld.N.take ld.np = [x]) (e1 : ld.np = 1) (ed : ld.dfl = []) (hl : s.law lf dep most) :
    ∃ (fd : FuncData) (sp : Sp), (∀ (s : Shared) (u : Value), BindsTo s fd ⟨[u], []⟩ [(x, u)]) ∧
      (∀ (H : Hp) (a : Addr) (ns : List Int), ns.length ≤ most → Only H → SqL K H a (ns.map V.int) → sp [.ref a] H (fun v _ => v = .bl true) fun _ _ _ => False) ∧
      ∀ base : Heap, K.In base → base.Ns mainGlobals mg → FnOk Pr w K mg base (CXE Pr) (2 * (dep + 1) + 2) fa fd [x] sp := by
  have M := src_mst X G c.d c.f ck cm ci ch b
  have hm : ld ∈ s.defs := List.mem_of_getElem? el
  obtain ⟨fd, F⟩ := c.d.defs (d := ld.dd) (List.mem_map.mpr ⟨ld, hm, rfl⟩)
  have k1 := List.all_eq_true.mp ck ld hm
  simp only [Bool.and_eq_true] at k1
  obtain ⟨S, l⟩ := scB_ok k1.1
  have hd : s.prog.defs lf = some ⟨ld.np, ld.N.length, ld.body⟩ := by
    show (s.defs[lf]?).map _ = _
    rw [el]; rfl
  have eA : He.fAd K ld.at_ = fa := by
    have z := c.f
    unfold Src.facts at z
    simp only [Bool.and_eq_true] at z
    have z := List.all_eq_true.mp z.1.1.1.1.2 ld hm
    rw [ea] at z
    simp only [Bool.and_eq_true] at z
    have z2 := He.glo_ok X G z.1
    rw [hfa] at z2
    rw [ea]
    cases z2
    rfl
  have F' : FunD K ld.name ld.qual (defArgs ld.st) (defBody ld.st) (defScope ld.st) (ld.dd.dvs K) [] fa fd := by
    have F2 : FunD K ld.name ld.qual (defArgs ld.st) (defBody ld.st) (defScope ld.st) (ld.dd.dvs K) [] (He.fAd K ld.at_) fd := F
    rw [eA] at F2
    exact F2
  refine ⟨fd, spN s.prog s.nms K (dep + 1) lf, fun s' u => ?_, fun H a ns hn hO hS => ?_, fun base _ _ => ?_⟩
  · have bb := b ld hm
    unfold BnP at bb
    rw [ed] at bb
    have e2 : ld.dd.dvs K = [] := by
      unfold He.DefD.dvs DI.dd
      rw [ed]
      rfl
    rw [e2] at F'
    have := FunD.bindsA (ps := ld.N.take ld.np) F' (fun kV doc pm an cdv ct us hl => bb kV doc pm an cdv ct us (hl.trans l)) s' [u] (by rw [l, e1]; rfl)
    rw [ex] at this
    exact this
  · obtain ⟨S', hc⟩ := hl ns hn
    have hz : ∃ o, H a = some (.frz o (.lst (ns.map V.int))) := by
      rcases hS with hS | ⟨o, its, nn, q1, q2, _⟩
      · rcases hS with hS | hS
        · rcases hO a with q | ⟨o, xs, q⟩
          · rw [q] at hS; cases hS
          · rw [q] at hS; cases hS
        · exact hS
      · have := c.nl a o q1
        unfold noLf at this
        rw [q2] at this
        exact absurd this (by simp)
    refine ⟨[a], [.fro (ns.map Val.int)], [.ref 0], ⟨rfl, by simp, fun l' a' o h1 h2 => ?_⟩, .cons (.ref rfl) .nil, ?_⟩
    · cases l' with
      | zero =>
        cases h1; cases h2
        exact ⟨_, hz, RVs.ints⟩
      | succ l' => cases h1
    · rw [hc]
      exact fun π' H' x q y r => by cases r; rfl
  · have md := (cal_ok (Pr := Pr) (w := w) (base := base) M dep hd (src_dst c.d c.f ck b el).1).2
    have := def_fn (f := lf) hd F' S l rfl k1.2 md
    rw [ex] at this
    exact fn_cx this
end MP
/-! For running the small Python by simp. -/
namespace MP
open PySem
section
variable {α β : Type} {a : α} {S : Store} {k : α → Store → R β} {c : Nat} {ds : List Val} {ρ : Ev} {kf : α → Store → F} {kn : Ev → Store → F} {v : Val}
@[simp] theorem x_bind_ok : (R.ok a S).bind k = k a S := rfl
@[simp] theorem x_bind_exc : (R.exc c ds S : R α).bind k = .exc c ds S := rfl
@[simp] theorem x_bind_bad : (R.bad : R α).bind k = .bad := rfl
@[simp] theorem x_toF_ok : (R.ok a S).toF ρ kf = kf a S := rfl
@[simp] theorem x_toF_exc : (R.exc c ds S : R α).toF ρ kf = .exc c ds ρ S := rfl
@[simp] theorem x_toF_bad : (R.bad : R α).toF ρ kf = .bad := rfl
@[simp] theorem x_fb_nx : (F.nx ρ S).bind kn = kn ρ S := rfl
@[simp] theorem x_fb_rt : (F.rt v S).bind kn = .rt v S := rfl
@[simp] theorem x_fb_bk : (F.bk ρ S).bind kn = .bk ρ S := rfl
@[simp] theorem x_fb_ct : (F.ct ρ S).bind kn = .ct ρ S := rfl
@[simp] theorem x_fb_exc : (F.exc c ds ρ S).bind kn = .exc c ds ρ S := rfl
@[simp] theorem x_fb_bad : F.bad.bind kn = .bad := rfl
@[simp] theorem x_fin_nx : (F.nx ρ S).fin = .ok .non S := rfl
@[simp] theorem x_fin_rt : (F.rt v S).fin = .ok v S := rfl
@[simp] theorem x_fin_exc : (F.exc c ds ρ S).fin = .exc c ds S := rfl
@[simp] theorem x_ofO_some : ofO (some a) S = .ok a S := rfl
@[simp] theorem x_ofO_none : ofO (none : Option α) S = .bad := rfl
@[simp] theorem x_ul_none {r : F} : r.unlk none = r := rfl
theorem x_ofO_ite {p : Prop} [Decidable p] {x y : Option α} : ofO (if p then x else y) S = if p then ofO x S else ofO y S := by split <;> rfl
theorem x_bind_ite {p : Prop} [Decidable p] {x y : R α} : (if p then x else y).bind k = if p then x.bind k else y.bind k := by split <;> rfl
theorem x_toF_ite {p : Prop} [Decidable p] {x y : R α} : (if p then x else y).toF ρ kf = if p then x.toF ρ kf else y.toF ρ kf := by split <;> rfl
theorem x_fb_ite {p : Prop} [Decidable p] {x y : F} : (if p then x else y).bind kn = if p then x.bind kn else y.bind kn := by split <;> rfl
theorem x_fin_ite {p : Prop} [Decidable p] {x y : F} : (if p then x else y).fin = if p then x.fin else y.fin := by split <;> rfl
end
theorem callN_def {P : Prog} {n f : Nat} {vs : List Val} {S : Store} {d : Def} (h : P.defs f = some d) (hl : vs.length = d.np) : callN P (n + 1) f vs S = (evalS P (callN P n) d.body (env0 d.ns vs) S).fin := by
  simp [callN, h, hl]
/-! ### operations -/
section
variable {S : Store} {i j : Int} {x y : Str} {a b : Bool} {v w : Val} {xs ys : List Val}
@[simp] theorem x_add : binopS .add (.int i) (.int j) S = .ok (.int (i + j)) S := rfl
@[simp] theorem x_sub : binopS .sub (.int i) (.int j) S = .ok (.int (i - j)) S := rfl
@[simp] theorem x_band : binopS .band (.int i) (.int j) S = .ok (.int (Builtin.bitAnd i j)) S := rfl
@[simp] theorem x_bor : binopS .bor (.int i) (.int j) S = .ok (.int (Builtin.bitOr i j)) S := rfl
@[simp] theorem x_bxor : binopS .bxor (.int i) (.int j) S = .ok (.int (Builtin.bitXor i j)) S := rfl
theorem x_mul_l (h : small i = true) : binopS .mul (.int i) (.int j) S = .ok (.int (i * j)) S := by simp [binopS, binop, h]
theorem x_mul_r (h : small j = true) : binopS .mul (.int i) (.int j) S = .ok (.int (i * j)) S := by simp [binopS, binop, h]
theorem x_mul_m (h : mid i = true) (h' : mid j = true) : binopS .mul (.int i) (.int j) S = .ok (.int (i * j)) S := by simp [binopS, binop, h, h']
theorem x_fdiv (h : 0 < j) (h' : mid j = true) : binopS .fdiv (.int i) (.int j) S = .ok (.int (i / j)) S := by simp [binopS, binop, h, h']
theorem x_mod (h : 0 < j) : binopS .mod (.int i) (.int j) S = .ok (.int (i % j)) S := by simp [binopS, binop, h]
theorem x_pow (h : 0 ≤ j) (h1 : j ≤ 1000) (h2 : small i = true) : binopS .pow (.int i) (.int j) S = .ok (.int (i ^ j.toNat)) S := by simp [binopS, binop, h, h1, h2]
theorem x_shl (h : 0 ≤ j) (h1 : j ≤ 1000) (h2 : small i = true) : binopS .shl (.int i) (.int j) S = .ok (.int (i * 2 ^ j.toNat)) S := by simp [binopS, binop, h, h1, h2]
theorem x_shr (h : 0 ≤ j) : binopS .shr (.int i) (.int j) S = .ok (.int (i / 2 ^ j.toNat)) S := by simp [binopS, binop, h]
theorem x_addS (h : x.length + y.length ≤ LIM) : binopS .add (.str x) (.str y) S = .ok (.str (x ++ y)) S := by simp [binopS, binop, h]
theorem x_addT (h : xs.length + ys.length ≤ LIM) : binopS .add (.tup xs) (.tup ys) S = .ok (.tup (xs ++ ys)) S := by simp [binopS, binop, h]
@[simp] theorem x_lt : cmpop S .lt (.int i) (.int j) = some (decide (i < j)) := rfl
@[simp] theorem x_le : cmpop S .le (.int i) (.int j) = some (decide (i ≤ j)) := rfl
@[simp] theorem x_gt : cmpop S .gt (.int i) (.int j) = some (decide (j < i)) := rfl
@[simp] theorem x_ge : cmpop S .ge (.int i) (.int j) = some (decide (j ≤ i)) := rfl
@[simp] theorem x_eq : cmpop S .eq v w = vEq S v w := by cases v <;> rfl
@[simp] theorem x_ne : cmpop S .ne v w = (vEq S v w).map (!·) := by cases v <;> rfl
@[simp] theorem x_inT : cmpop S .isin v (.tup ys) = inVs v ys := by cases v <;> rfl
@[simp] theorem x_ninT : cmpop S .notin v (.tup ys) = (inVs v ys).map (!·) := by cases v <;> rfl
@[simp] theorem x_eqI : vEq S (.int i) (.int j) = some (decide (i = j)) := by unfold vEq; rfl
@[simp] theorem x_eqS : vEq S (.str x) (.str y) = some (decide (x = y)) := by unfold vEq; rfl
@[simp] theorem x_eqB : vEq S (.bl a) (.bl b) = some (decide (a = b)) := by unfold vEq; rfl
@[simp] theorem x_eqN : vEq S .non .non = some true := by unfold vEq; rfl
@[simp] theorem x_toI : bl1op S .int (.int i) = some (.int i) := rfl
@[simp] theorem x_toB : bl1op S .int (.bl a) = some (.int (if a then 1 else 0)) := rfl
@[simp] theorem x_lenT : bl1op S .len (.tup xs) = some (.int xs.length) := rfl
@[simp] theorem x_max : bl2op .max (.int i) (.int j) = some (.int (if j > i then j else i)) := rfl
@[simp] theorem x_min : bl2op .min (.int i) (.int j) = some (.int (if j < i then j else i)) := rfl
theorem x_divmod (h : 0 < j) (h' : mid j = true) : bl2op .divmod (.int i) (.int j) = some (.tup [.int (i / j), .int (i % j)]) := by simp [bl2op, h, h']
@[simp] theorem x_putN {ρ : Ev} {k : Nat} : Ev.put ρ k v = if k < ρ.length then some (ρ.set k (some v)) else none := rfl
@[simp] theorem x_tg1 {ρ : Ev} {k : Nat} : Ev.tg [k] true v ρ = ρ.put k v := by cases v <;> rfl
@[simp] theorem x_tgs {ρ : Ev} {is : List Nat} : Ev.tg is false (.tup xs) ρ = ρ.puts is xs := by cases is with | nil => rfl | cons i r => cases r <;> rfl
end
/-! ### loops -/
/-- a for loop: I holds ahead of each turn -/
theorem for_run {iv : IV} {set : Val → Ev → Option Ev} {body : Ev → Store → F} (I : Nat → Ev → Store → Prop) (Q : F → Prop)
    (step : ∀ i ρ S, i < iv.n → I i ρ S → ∃ v ρ1, iv.get i S = some v ∧ set v ρ = some ρ1 ∧ match body ρ1 S with
      | .nx ρ2 S2 => I (i + 1) ρ2 S2
      | .ct ρ2 S2 => I (i + 1) ρ2 S2
      | .bk ρ2 S2 => Q (.nx ρ2 S2)
      | r => Q r)
    (last : ∀ ρ S, I iv.n ρ S → iv.fin S = true ∧ Q (.nx ρ S)) {ρ : Ev} {S : Store} (h0 : I 0 ρ S) : Q (forN iv set body iv.n 0 ρ S) := by
  have go : ∀ (k i : Nat) (ρ : Ev) (S : Store), i + k = iv.n → I i ρ S → Q (forN iv set body k i ρ S) := fun k => by
    induction k with
    | zero =>
      intro i ρ S e h
      have e : i = iv.n := by omega
      subst e
      obtain ⟨l1, l2⟩ := last ρ S h
      simp only [forN, l1, if_true]
      exact l2
    | succ k ih =>
      intro i ρ S e h
      obtain ⟨v, ρ1, s1, s2, s3⟩ := step i ρ S (by omega) h
      simp only [forN, s1, s2]
      cases hb : body ρ1 S with
      | nx ρ2 S2 => rw [hb] at s3; exact ih (i + 1) ρ2 S2 (by omega) s3
      | ct ρ2 S2 => rw [hb] at s3; exact ih (i + 1) ρ2 S2 (by omega) s3
      | bk ρ2 S2 => rw [hb] at s3; exact s3
      | rt v S2 => rw [hb] at s3; exact s3
      | exc c ds ρ2 S2 => rw [hb] at s3; exact s3
      | bad => rw [hb] at s3; exact s3
  exact go iv.n 0 ρ S (by omega) h0
/-- a for loop that runs to its end -/
theorem for_nx {iv : IV} {set : Val → Ev → Option Ev} {body : Ev → Store → F} (I : Nat → Ev → Store → Prop)
    (step : ∀ i ρ S, i < iv.n → I i ρ S → ∃ v ρ1 ρ2 S2, iv.get i S = some v ∧ set v ρ = some ρ1 ∧ body ρ1 S = .nx ρ2 S2 ∧ I (i + 1) ρ2 S2)
    (last : ∀ ρ S, I iv.n ρ S → iv.fin S = true) {ρ : Ev} {S : Store} (h0 : I 0 ρ S) : ∃ ρ' S', forN iv set body iv.n 0 ρ S = .nx ρ' S' ∧ I iv.n ρ' S' := by
  refine for_run I (fun r => ∃ ρ' S', r = .nx ρ' S' ∧ I iv.n ρ' S') (fun i ρ S hi h => ?_) (fun ρ S h => ⟨last ρ S h, ρ, S, rfl, h⟩) h0
  obtain ⟨v, ρ1, ρ2, S2, s1, s2, s3, s4⟩ := step i ρ S hi h
  exact ⟨v, ρ1, s1, s2, by rw [s3]; exact s4⟩
@[simp] theorem x_getT {xs : List Val} {i : Nat} {S : Store} : (LV.tmp xs).get i S = xs[i]? := rfl
@[simp] theorem x_getU {xs : List Val} {i : Nat} {S : Store} : (LV.tup xs).get i S = xs[i]? := rfl
@[simp] theorem x_getK {l i : Nat} {S : Store} : (LV.trk l).get i S = (S.lstAt l).bind (·[i]?) := rfl
@[simp] theorem x_finT {xs : List Val} {n : Nat} {S : Store} : (LV.tmp xs).fin n S = true := rfl
@[simp] theorem x_finU {xs : List Val} {n : Nat} {S : Store} : (LV.tup xs).fin n S = true := rfl
@[simp] theorem x_nowT {xs : List Val} {S : Store} : (LV.tmp xs).now S = some xs := rfl
@[simp] theorem x_nowU {xs : List Val} {S : Store} : (LV.tup xs).now S = some xs := rfl
@[simp] theorem x_nowK {l : Nat} {S : Store} : (LV.trk l).now S = S.lstAt l := rfl
@[simp] theorem x_isTT {xs : List Val} : (LV.tmp xs).isT = false := rfl
@[simp] theorem x_isTU {xs : List Val} : (LV.tup xs).isT = true := rfl
@[simp] theorem x_isTK {l : Nat} : (LV.trk l).isT = false := rfl
theorem x_fro {S : Store} {l : Nat} {xs : List Val} (h : S[l]? = some (.fro xs)) : S.lstAt l = some xs := by unfold Store.lstAt; rw [h]
theorem x_lst {S : Store} {l : Nat} {xs : List Val} (h : S[l]? = some (.lst xs)) : S.lstAt l = some xs := by unfold Store.lstAt; rw [h]
theorem cut_hi {α : Type} {xs : List α} {n : Nat} : MP.cut xs none (some (n : Int)) = xs.take n := by
  have e1 : cutIx xs.length 0 none = 0 := rfl
  have e2 : cutIx xs.length xs.length (some (n : Int)) = min n xs.length := by
    simp only [cutIx]
    rw [if_neg (by omega)]
    simp
  show (xs.drop (cutIx xs.length 0 none)).take (cutIx xs.length xs.length (some (n : Int)) - cutIx xs.length 0 none) = _
  rw [e1, e2, List.drop_zero, Nat.sub_zero]
  by_cases h : n ≤ xs.length
  · rw [Nat.min_eq_left h]
  · rw [Nat.min_eq_right (by omega), List.take_of_length_le (Nat.le_refl _), List.take_of_length_le (by omega)]
/-- all but the first n -/
theorem cut_lo {α : Type} {xs : List α} {n : Nat} : MP.cut xs (some (n : Int)) none = xs.drop n := by
  have e1 : cutIx xs.length 0 (some (n : Int)) = min n xs.length := by
    simp only [cutIx]
    rw [if_neg (by omega)]
    simp
  have e2 : cutIx xs.length xs.length none = xs.length := rfl
  show (xs.drop (cutIx xs.length 0 (some (n : Int)))).take (cutIx xs.length xs.length none - cutIx xs.length 0 (some (n : Int))) = _
  rw [e1, e2]
  by_cases h : n ≤ xs.length
  · rw [Nat.min_eq_left h, List.take_of_length_le (by simp)]
  · rw [Nat.min_eq_right (by omega), List.drop_of_length_le (Nat.le_refl _), List.drop_of_length_le (by omega)]
    simp
@[simp] theorem x_at0 {S T : Store} : (S ++ T)[S.length]? = T[0]? := by rw [List.getElem?_append_right (Nat.le_refl _), Nat.sub_self]
@[simp] theorem x_atk {S T : Store} {k : Nat} : (S ++ T)[S.length + k]? = T[k]? := by rw [List.getElem?_append_right (by omega)]; congr 1; omega
theorem x_old {S T : Store} {l : Nat} {o : Ob} (h : S[l]? = some o) : (S ++ T)[l]? = some o := by
  rw [List.getElem?_append_left (List.getElem?_eq_some_iff.mp h).1]
  exact h
@[simp] theorem x_set0 {S T : Store} {o : Ob} : (S ++ T).set S.length o = S ++ T.set 0 o := by rw [List.set_append_right _ _ (Nat.le_refl _), Nat.sub_self]
@[simp] theorem x_setk {S T : Store} {o : Ob} {k : Nat} : (S ++ T).set (S.length + k) o = S ++ T.set k o := by
  rw [List.set_append_right _ _ (by omega)]
  congr 2
  omega
theorem len_int {i : Int} (h : mid i = true) : (Str.ofString i.repr).length ≤ 1921 := PyProof.Rows.int_text_len_1921 (mid_1920 h)
@[simp] theorem x_bmAppend {S : Store} {l : Nat} {v : Val} : bmop S .append (.ref l) [v] = (match S[l]? with
    | some (.lst xs) => if xs.length < LIM then .ok .non (S.put l (.lst (xs ++ [v]))) else .bad
    | _ => .bad) := rfl
@[simp] theorem x_preAppend {S : Store} {l : Nat} : bmPre S .append (.ref l) = (match S[l]? with
    | some (.lst _) => true
    | _ => false) := rfl
@[simp] theorem x_getTup {S : Store} {xs : List Val} {i : Int} : getI S (.tup xs) (.int i) = MP.atI xs i := rfl
@[simp] theorem x_at_0 {α : Type} {a : α} {l : List α} : MP.atI (a :: l) 0 = some a := by simp [MP.atI, ixOf]
@[simp] theorem x_at_1 {α : Type} {a b : α} {l : List α} : MP.atI (a :: b :: l) 1 = some b := by
  unfold MP.atI ixOf
  rw [if_pos (by decide), if_pos (by simp; omega)]
  rfl
@[simp] theorem x_at_2 {α : Type} {a b c : α} {l : List α} : MP.atI (a :: b :: c :: l) 2 = some c := by
  unfold MP.atI ixOf
  rw [if_pos (by decide), if_pos (by simp; omega)]
  rfl
@[simp] theorem x_at_3 {α : Type} {a b c d : α} {l : List α} : MP.atI (a :: b :: c :: d :: l) 3 = some d := by
  unfold MP.atI ixOf
  rw [if_pos (by decide), if_pos (by simp; omega)]
  rfl
theorem x_toS {S : Store} {i : Int} (h : mid i = true) : bl1op S .str (.int i) = some (.str (Str.ofString i.repr)) := by
  show (if mid i = true then some (Val.str (Str.ofString (toString i))) else none) = _
  rw [if_pos h]
  rfl
/-! comprehensions, while -/
theorem comp_run {iv : IV} {set : Val → Ev → Option Ev} {c : Ev → Store → R Bool} {e : Ev → Store → R Val} {ρ : Ev} (I : Nat → List Val → Store → Prop)
    (step : ∀ i acc S, i < iv.n → I i acc S → ∃ v ρ1 t S1, iv.get i S = some v ∧ set v ρ = some ρ1 ∧ c ρ1 S = .ok t S1 ∧ (t = true → acc.length < LIM ∧ ∃ y S2, e ρ1 S1 = .ok y S2 ∧ I (i + 1) (acc ++ [y]) S2) ∧ (t = false → I (i + 1) acc S1))
    (last : ∀ acc S, I iv.n acc S → iv.fin S = true) {S : Store} (h0 : I 0 [] S) : ∃ ys S', compN iv set c e ρ iv.n 0 [] S = .ok ys S' ∧ I iv.n ys S' := by
  have go : ∀ (k i : Nat) (acc : List Val) (S : Store), i + k = iv.n → I i acc S → ∃ ys S', compN iv set c e ρ k i acc S = .ok ys S' ∧ I iv.n ys S' := fun k => by
    induction k with
    | zero =>
      intro i acc S ek h
      have ek : i = iv.n := by omega
      subst ek
      exact ⟨acc, S, by simp only [compN, last acc S h, if_true], h⟩
    | succ k ih =>
      intro i acc S ek h
      obtain ⟨v, ρ1, t, S1, s1, s2, s3, s4, s5⟩ := step i acc S (by omega) h
      simp only [compN, s1, s2, s3]
      cases t with
      | true =>
        obtain ⟨hl, y, S2, e1, e2⟩ := s4 rfl
        simp only [if_true, e1, hl]
        exact ih (i + 1) _ S2 (by omega) e2
      | false =>
        simp only [Bool.false_eq_true, if_false]
        exact ih (i + 1) _ S1 (by omega) (s5 rfl)
  exact go iv.n 0 [] S (by omega) h0
theorem whl_run {c : Ev → Store → R Bool} {body : Ev → Store → F} (I : Nat → Ev → Store → Prop) (J : Ev → Store → Prop) (m : Nat)
    (step : ∀ i ρ S, i < m → I i ρ S → ∃ S1 ρ2 S2, c ρ S = .ok true S1 ∧ (body ρ S1 = .nx ρ2 S2 ∨ body ρ S1 = .ct ρ2 S2) ∧ I (i + 1) ρ2 S2)
    (last : ∀ ρ S, I m ρ S → (∃ S1, c ρ S = .ok false S1 ∧ J ρ S1) ∨ ∃ S1 ρ2 S2, c ρ S = .ok true S1 ∧ body ρ S1 = .bk ρ2 S2 ∧ J ρ2 S2) {fuel : Nat} (hf : m < fuel) {ρ : Ev} {S : Store} (h0 : I 0 ρ S) : ∃ ρ' S', whlN c body fuel ρ S = .nx ρ' S' ∧ J ρ' S' := by
  have go : ∀ (k i : Nat) (ρ : Ev) (S : Store), i ≤ m → m < i + k → I i ρ S → ∃ ρ' S', whlN c body k ρ S = .nx ρ' S' ∧ J ρ' S' := fun k => by
    induction k with
    | zero => intro i ρ S h1 h2 h; omega
    | succ k ih =>
      intro i ρ S h1 h2 h
      by_cases hi : i < m
      · obtain ⟨S1, ρ2, S2, s1, s2, s3⟩ := step i ρ S hi h
        obtain ⟨ρ', S', r1, r2⟩ := ih (i + 1) ρ2 S2 (by omega) (by omega) s3
        refine ⟨ρ', S', ?_, r2⟩
        rcases s2 with s2 | s2
        · simp only [whlN, s1, x_toF_ok, if_true, s2, r1]
        · simp only [whlN, s1, x_toF_ok, if_true, s2, r1]
      · have e : i = m := by omega
        subst e
        rcases last ρ S h with ⟨S1, s1, s2⟩ | ⟨S1, ρ2, S2, s1, s2, s3⟩
        · exact ⟨ρ, S1, by simp only [whlN, s1, x_toF_ok, Bool.false_eq_true, if_false], s2⟩
        · exact ⟨ρ2, S2, by simp only [whlN, s1, x_toF_ok, if_true, s2], s3⟩
  exact go fuel 0 ρ S (by omega) (by omega) h0
/-! equal by parts -/
mutual
theorem toD_lay : ∀ (n : Nat) (S : Store) (v : Val) (d : PyData), toD n S v = some d → PyData.eqv d d = true
  | n, S, .non, d, h => by
    have e : d = .none := by unfold toD at h; cases h; rfl
    subst e; rfl
  | n, S, .bl b, d, h => by
    have e : d = .bool b := by unfold toD at h; cases h; rfl
    subst e; simp [PyData.eqv]
  | n, S, .int i, d, h => by
    have e : d = .int i := by unfold toD at h; cases h; rfl
    subst e; simp [PyData.eqv]
  | n, S, .str x, d, h => by
    have e : d = .str x := by
      unfold toD at h
      split at h
      · cases h; rfl
      · cases h
    subst e; simp [PyData.eqv]
  | n + 1, S, .tup xs, d, h => by
    unfold toD at h
    cases q : toDs n S xs with
    | none => rw [q] at h; cases h
    | some ds =>
      rw [q] at h; cases h
      show PyData.eqvAll ds ds = true
      exact toDs_lay n S xs ds q
  | n + 1, S, .ref l, d, h => by
    unfold toD at h
    cases p : S.lstAt l with
    | none => rw [p] at h; cases h
    | some xs =>
      rw [p] at h
      cases q : toDs n S xs with
      | none => simp only [q] at h; cases h
      | some ds =>
        simp only [q] at h; cases h
        show PyData.eqvAll ds ds = true
        exact toDs_lay n S xs ds q
  | 0, S, .tup xs, d, h => by unfold toD at h; cases h
  | 0, S, .ref l, d, h => by unfold toD at h; cases h
  | n, S, .exc c ds, d, h => by cases n <;> (unfold toD at h; cases h)
theorem toDs_lay : ∀ (n : Nat) (S : Store) (vs : List Val) (ds : List PyData), toDs n S vs = some ds → PyData.eqvAll ds ds = true
  | n, S, [], ds, h => by
    have e : ds = [] := by unfold toDs at h; cases h; rfl
    subst e; rfl
  | n, S, x :: xs, ds, h => by
    unfold toDs at h
    cases p : toD n S x with
    | none => rw [p] at h; cases h
    | some d =>
      cases q : toDs n S xs with
      | none => rw [p, q] at h; cases h
      | some es =>
        rw [p, q] at h
        cases h
        show (PyData.eqv d d && PyData.eqvAll es es) = true
        rw [toD_lay n S x d p, toDs_lay n S xs es q]
        rfl
end
theorem vEq_refs {S : Store} {l m : Nat} {xs : List Val} (hl : S.lstAt l = some xs) (hm : S.lstAt m = some xs) {ds : List PyData} (hd : toDs 39 S xs = some ds) : vEq S (.ref l) (.ref m) = some true := by
  have el : toD 40 S (.ref l) = some (.list ds) := by unfold toD; rw [hl]; simp only [hd]; rfl
  have em : toD 40 S (.ref m) = some (.list ds) := by unfold toD; rw [hm]; simp only [hd]; rfl
  unfold vEq
  simp only [el, em]
  show some (PyData.eqvAll ds ds) = _
  rw [toDs_lay 39 S xs ds hd]
theorem vEq_tups {S : Store} {xs : List Val} {ds : List PyData} (hd : toDs 39 S xs = some ds) : vEq S (.tup xs) (.tup xs) = some true := by
  have el : toD 40 S (.tup xs) = some (.tuple ds) := by unfold toD; simp only [hd]; rfl
  unfold vEq
  simp only [el]
  show some (PyData.eqvAll ds ds) = _
  rw [toDs_lay 39 S xs ds hd]
@[simp] theorem x_getR {S : Store} {l : Nat} {i : Int} : getI S (.ref l) (.int i) = (match S[l]? with
    | some (.lst xs) => MP.atI xs i
    | some (.fro xs) => MP.atI xs i
    | some (.dic false kvs) => dGet kvs (.inl i)
    | _ => none) := by
  cases h : S[l]? with
  | none => simp [getI, h]
  | some o => cases o with
    | lst xs => simp [getI, h]
    | fro xs => simp [getI, h]
    | dic b kvs => cases b <;> simp [getI, h, keyOf]
    | ins c fs => simp [getI, h]
end MP
/-! Running by simp: ways are joined where their ends are of one kind. -/
namespace MP
open PySem
section
variable {p : Prop} [Decidable p] {α : Type} {a b : α} {S : Store} {i j : Int} {x y : Str} {u v w : Val} {s t : Bool} {ρ1 ρ2 : Ev} {xs ys : List α}
theorem j_ok : (if p then R.ok a S else R.ok b S) = R.ok (if p then a else b) S := by split <;> rfl
theorem j_rt : (if p then F.rt u S else F.rt v S) = F.rt (if p then u else v) S := by split <;> rfl
theorem j_nx : (if p then F.nx ρ1 S else F.nx ρ2 S) = F.nx (if p then ρ1 else ρ2) S := by split <;> rfl
theorem j_int : (if p then Val.int i else Val.int j) = Val.int (if p then i else j) := by split <;> rfl
theorem j_str : (if p then Val.str x else Val.str y) = Val.str (if p then x else y) := by split <;> rfl
theorem j_bl : (if p then Val.bl s else Val.bl t) = Val.bl (if p then s else t) := by split <;> rfl
theorem j_cons : (if p then a :: xs else b :: ys) = (if p then a else b) :: (if p then xs else ys) := by split <;> rfl
theorem j_some : (if p then some a else some b) = some (if p then a else b) := by split <;> rfl
theorem j_isNon : (if p then u else v).isNon = if p then u.isNon else v.isNon := by split <;> rfl
theorem j_bl2 : (if p then true else false) = decide p := by split <;> simp_all
theorem j_bl3 : (if p then false else true) = !decide p := by split <;> simp_all
theorem j_and : (if p then s else false) = (decide p && s) := by by_cases h : p <;> simp [h]
theorem j_or : (if p then true else s) = (decide p || s) := by by_cases h : p <;> simp [h]
end
/-! a flat tree of values -/
mutual
def plain : Val → Bool
  | .non => true
  | .bl _ => true
  | .int _ => true
  | .str _ => true
  | .tup xs => plains xs
  | _ => false
def plains : List Val → Bool
  | [] => true
  | x :: xs => plain x && plains xs
end
theorem mod_nn (a b : Int) (h : 0 < b) : 0 ≤ a % b := Int.emod_nonneg _ (by omega)
theorem mod_lt (a b : Int) (h : 0 < b) : a % b < b := Int.emod_lt_of_pos _ h
theorem small_mod {a k : Int} (h : 0 < k) (h2 : k ≤ 18446744073709551616) : small (a % k) = true := by
  unfold small
  have h1 := Int.emod_nonneg a (show k ≠ 0 by omega)
  have h3 := Int.emod_lt_of_pos a h
  simp only [decide_eq_true_eq]
  omega
theorem small_of {i : Int} (h : -18446744073709551616 < i) (h2 : i < 18446744073709551616) : small i = true := by
  unfold small
  simp only [decide_eq_true_eq]
  exact ⟨h, h2⟩
theorem mid_of {i : Int} (h : -18446744073709551616 < i) (h2 : i < 18446744073709551616) : mid i = true := by
  unfold mid
  simp only [decide_eq_true_eq]
  omega
theorem x_mul {S : Store} {i j : Int} (h : -18446744073709551616 < j) (h2 : j < 18446744073709551616) : binopS .mul (.int i) (.int j) S = .ok (.int (i * j)) S := x_mul_r (small_of h h2)
theorem x_fdv {S : Store} {i j : Int} (h : 0 < j) (h2 : j < 18446744073709551616) : binopS .fdiv (.int i) (.int j) S = .ok (.int (i / j)) S := x_fdiv h (mid_of (by omega) h2)
@[simp] theorem x_at_4 {α : Type} {a0 a1 a2 a3 a4 : α} {l : List α} : MP.atI (a0 :: a1 :: a2 :: a3 :: a4 :: l) 4 = some a4 := by
  unfold MP.atI ixOf
  rw [if_pos (by decide), if_pos (by simp; omega)]
  rfl
@[simp] theorem x_at_5 {α : Type} {a0 a1 a2 a3 a4 a5 : α} {l : List α} : MP.atI (a0 :: a1 :: a2 :: a3 :: a4 :: a5 :: l) 5 = some a5 := by
  unfold MP.atI ixOf
  rw [if_pos (by decide), if_pos (by simp; omega)]
  rfl
@[simp] theorem x_at_6 {α : Type} {a0 a1 a2 a3 a4 a5 a6 : α} {l : List α} : MP.atI (a0 :: a1 :: a2 :: a3 :: a4 :: a5 :: a6 :: l) 6 = some a6 := by
  unfold MP.atI ixOf
  rw [if_pos (by decide), if_pos (by simp; omega)]
  rfl
@[simp] theorem x_at_7 {α : Type} {a0 a1 a2 a3 a4 a5 a6 a7 : α} {l : List α} : MP.atI (a0 :: a1 :: a2 :: a3 :: a4 :: a5 :: a6 :: a7 :: l) 7 = some a7 := by
  unfold MP.atI ixOf
  rw [if_pos (by decide), if_pos (by simp; omega)]
  rfl
@[simp] theorem x_at_8 {α : Type} {a0 a1 a2 a3 a4 a5 a6 a7 a8 : α} {l : List α} : MP.atI (a0 :: a1 :: a2 :: a3 :: a4 :: a5 :: a6 :: a7 :: a8 :: l) 8 = some a8 := by
  unfold MP.atI ixOf
  rw [if_pos (by decide), if_pos (by simp; omega)]
  rfl
@[simp] theorem x_at_9 {α : Type} {a0 a1 a2 a3 a4 a5 a6 a7 a8 a9 : α} {l : List α} : MP.atI (a0 :: a1 :: a2 :: a3 :: a4 :: a5 :: a6 :: a7 :: a8 :: a9 :: l) 9 = some a9 := by
  unfold MP.atI ixOf
  rw [if_pos (by decide), if_pos (by simp; omega)]
  rfl
@[simp] theorem x_at_10 {α : Type} {a0 a1 a2 a3 a4 a5 a6 a7 a8 a9 a10 : α} {l : List α} : MP.atI (a0 :: a1 :: a2 :: a3 :: a4 :: a5 :: a6 :: a7 :: a8 :: a9 :: a10 :: l) 10 = some a10 := by
  unfold MP.atI ixOf
  rw [if_pos (by decide), if_pos (by simp; omega)]
  rfl
@[simp] theorem x_at_11 {α : Type} {a0 a1 a2 a3 a4 a5 a6 a7 a8 a9 a10 a11 : α} {l : List α} : MP.atI (a0 :: a1 :: a2 :: a3 :: a4 :: a5 :: a6 :: a7 :: a8 :: a9 :: a10 :: a11 :: l) 11 = some a11 := by
  unfold MP.atI ixOf
  rw [if_pos (by decide), if_pos (by simp; omega)]
  rfl
@[simp] theorem x_at_12 {α : Type} {a0 a1 a2 a3 a4 a5 a6 a7 a8 a9 a10 a11 a12 : α} {l : List α} : MP.atI (a0 :: a1 :: a2 :: a3 :: a4 :: a5 :: a6 :: a7 :: a8 :: a9 :: a10 :: a11 :: a12 :: l) 12 = some a12 := by
  unfold MP.atI ixOf
  rw [if_pos (by decide), if_pos (by simp; omega)]
  rfl
@[simp] theorem x_at_m1_1 {α : Type} {a0 : α} : MP.atI [a0] (-1) = some a0 := rfl
@[simp] theorem x_at_m1_2 {α : Type} {a0 a1 : α} : MP.atI [a0, a1] (-1) = some a1 := rfl
@[simp] theorem x_at_m1_3 {α : Type} {a0 a1 a2 : α} : MP.atI [a0, a1, a2] (-1) = some a2 := rfl
@[simp] theorem x_at_m1_4 {α : Type} {a0 a1 a2 a3 : α} : MP.atI [a0, a1, a2, a3] (-1) = some a3 := rfl
theorem x_mulL {S : Store} {i j : Int} (h : -18446744073709551616 < i) (h2 : i < 18446744073709551616) : binopS .mul (.int i) (.int j) S = .ok (.int (i * j)) S := x_mul_l (small_of h h2)
theorem x_mulM {S : Store} {i j k : Int} (h : 0 < k) (h2 : k ≤ 18446744073709551616) : binopS .mul (.int (i % k)) (.int j) S = .ok (.int (i % k * j)) S := x_mul_l (small_mod h h2)
theorem x_mulN {S : Store} {i j k : Int} (h : 0 < k) (h2 : k ≤ 18446744073709551616) : binopS .mul (.int j) (.int (i % k)) S = .ok (.int (j * (i % k))) S := x_mul_r (small_mod h h2)
theorem x_pw {S : Store} {i j : Int} (h : 0 ≤ j) (h1 : j ≤ 1000) (h2 : -18446744073709551616 < i) (h3 : i < 18446744073709551616) : binopS .pow (.int i) (.int j) S = .ok (.int (i ^ j.toNat)) S := x_pow h h1 (small_of h2 h3)
theorem x_lim {n : Nat} : (n ≤ LIM) ↔ (n ≤ 1000000) := by
  constructor
  · intro h; exact h
  · intro h; exact h
theorem x_lim2 {n : Nat} : (n < LIM) ↔ (n < 1000000) := by
  constructor
  · intro h; exact h
  · intro h; exact h
@[simp] theorem x_lenR {S : Store} {l : Nat} : bl1op S .len (.ref l) = (match S[l]? with
    | some (.lst xs) => some (.int xs.length)
    | some (.fro xs) => some (.int xs.length)
    | some (.dic false kvs) => some (.int kvs.length)
    | _ => none) := rfl
@[simp] theorem x_lenS {S : Store} {x : Str} : bl1op S .len (.str x) = if x.length ≤ LIM then some (.int x.length) else none := rfl
@[simp] theorem x_lstT {xs : List Val} {S : Store} : (LV.tmp xs).lst S = some xs := rfl
@[simp] theorem x_lstU {xs : List Val} {S : Store} : (LV.tup xs).lst S = none := rfl
@[simp] theorem x_lstK {l : Nat} {S : Store} : (LV.trk l).lst S = (match S[l]? with
    | some (.lst xs) => some xs
    | _ => none) := rfl
@[simp] theorem x_wipe0 {ρ : Ev} : Ev.wipe ρ [] = ρ := rfl
@[simp] theorem x_wipe1 {ρ : Ev} {i : Nat} {is : List Nat} : Ev.wipe ρ (i :: is) = (Ev.wipe ρ is).set i none := rfl
@[simp] theorem x_at_set {S T : Store} {k : Nat} {o : Ob} (h : k < T.length) : (S ++ T.set k o)[S.length + k]? = some o := by rw [x_atk]; exact List.getElem?_set_self h
theorem cutIx_nat {n d a : Nat} : cutIx n d (some (a : Int)) = min a n := by
  simp only [cutIx]
  rw [if_neg (by omega)]
  simp
theorem cut_both {α : Type} {xs : List α} {a b : Nat} : MP.cut xs (some (a : Int)) (some (b : Int)) = (xs.take b).drop a := by
  show (xs.drop (cutIx xs.length 0 (some (a : Int)))).take (cutIx xs.length xs.length (some (b : Int)) - cutIx xs.length 0 (some (a : Int))) = _
  rw [cutIx_nat, cutIx_nat, List.drop_take]
  by_cases h1 : a ≤ xs.length
  · rw [Nat.min_eq_left h1]
    by_cases h2 : b ≤ xs.length
    · rw [Nat.min_eq_left h2]
    · rw [Nat.min_eq_right (by omega), List.take_of_length_le (by simp), List.take_of_length_le (by simp; omega)]
  · rw [Nat.min_eq_right (show xs.length ≤ a by omega), List.drop_of_length_le (Nat.le_refl _), List.drop_of_length_le (show xs.length ≤ a by omega)]
    simp
@[simp] theorem fget_cons {g f : Nat} {v : Val} {r : List (Nat × Val)} : fget ((g, v) :: r) f = if f = g then some v else fget r f := by
  unfold fget
  simp only [List.lookup_cons]
  by_cases h : f = g
  · simp [h]
  · have : (f == g) = false := by simp [h]
    simp [h, this]
@[simp] theorem fget_nil {f : Nat} : fget [] f = none := rfl
@[simp] theorem fput_cons {g f : Nat} {v w : Val} {r : List (Nat × Val)} : fput f v ((g, w) :: r) = if g = f then (f, v) :: r else (g, w) :: fput f v r := rfl
@[simp] theorem fput_nil {f : Nat} {v : Val} : fput f v [] = [(f, v)] := rfl
theorem x_low {S : Store} {l : Nat} {o : Ob} (h : S[l]? = some o) : l < S.length := by
  rcases Nat.lt_or_ge l S.length with q | q
  · exact q
  · rw [List.getElem?_eq_none q] at h; cases h
theorem x_set_at {S : Store} {l : Nat} {o o' : Ob} (h : S[l]? = some o) : (S.set l o')[l]? = some o' := List.getElem?_set_self (x_low h)
theorem x_set_ne {S : Store} {l m : Nat} {o : Ob} (h : m ≠ l) : (S.set l o)[m]? = S[m]? := List.getElem?_set_ne (fun q => h q.symm)
/-! step by step -/
theorem s_nx {P : Prog} {cf : Nat → List Val → Store → R Val} {a b : S} {ρ ρ1 : Ev} {S S1 : Store} (h : evalS P cf a ρ S = .nx ρ1 S1) : evalS P cf (.cons a b) ρ S = evalS P cf b ρ1 S1 := by
  rw [evalS.eq_2, h]; rfl
theorem s_rt {P : Prog} {cf : Nat → List Val → Store → R Val} {a b : S} {ρ : Ev} {S S1 : Store} {v : Val} (h : evalS P cf a ρ S = .rt v S1) : evalS P cf (.cons a b) ρ S = .rt v S1 := by
  rw [evalS.eq_2, h]; rfl
theorem s_fin {r r' : F} {v : R Val} (h : r = r') (h2 : r'.fin = v) : r.fin = v := by rw [h]; exact h2
theorem at_app2 {α : Type} {X A T : List α} {k : Nat} (j : Nat) (h : k = X.length + A.length + j) : (X ++ (A ++ T))[k]? = T[j]? := by
  subst h
  rw [← List.append_assoc, List.getElem?_append_right (by simp)]
  congr 1
  simp
theorem e_nx {P : Prog} {cf : Nat → List Val → Store → R Val} {a b : S} {ρ ρ1 : Ev} {S S1 : Store} {v : Val} (h : evalS P cf a ρ S = .nx ρ1 S1) (k : ∃ S', evalS P cf b ρ1 S1 = .rt v S') : ∃ S', evalS P cf (.cons a b) ρ S = .rt v S' := by
  rw [s_nx h]; exact k
theorem e_rt {P : Prog} {cf : Nat → List Val → Store → R Val} {a b : S} {ρ : Ev} {S S1 : Store} {v : Val} (h : evalS P cf a ρ S = .rt v S1) : ∃ S', evalS P cf (.cons a b) ρ S = .rt v S' := ⟨S1, s_rt h⟩
theorem e_fin {r : F} {v : Val} (h : ∃ S', r = .rt v S') : ∃ S', r.fin = .ok v S' := by
  obtain ⟨S', h⟩ := h
  exact ⟨S', by rw [h]; rfl⟩
end MP
/-! Loops and comprehensions as statements, expressions: by what they walk. -/
namespace MP
open PySem
section
variable {P : Prog} {cf : Nat → List Val → Store → R Val} {e a b l : E} {ρ : Ev} {S S1 : Store} {xs ys : List Val} {q r : Nat} {i j : Int} {tg own : List Nat} {one : Bool} {u : MP.S}
theorem el_lst (he : evalE P cf e ρ S = .ok (.ref q) S1) (h : S1.lstAt q = some xs) : evalL P cf (.lof e) ρ S = .ok (.trk q) S1 := by
  rw [evalL.eq_1, he]
  simp [lvOf, h]
theorem el_tup (he : evalE P cf e ρ S = .ok (.tup xs) S1) : evalL P cf (.lof e) ρ S = .ok (.tup xs) S1 := by
  rw [evalL.eq_1, he]
  simp [lvOf]
theorem ei_of {v : LV} (he : evalL P cf l ρ S = .ok v S1) (h : v.now S1 = some xs) : evalI P cf (.iof l) ρ S = .ok ⟨xs.length, v.get, v.fin xs.length, none⟩ S1 := by
  rw [evalI.eq_1, he]
  simp [h]
theorem ei_enum {v : LV} (he : evalL P cf l ρ S = .ok v S1) (h : v.now S1 = some xs) (ht : v.isT = false) : evalI P cf (.ienum l) ρ S = .ok ⟨xs.length, fun i S => (v.get i S).map fun x => .tup [.int i, x], v.fin xs.length, none⟩ S1 := by
  rw [evalI.eq_2, he]
  simp [h, ht]
theorem ei_zip {v w : LV} {S2 : Store} (he : evalL P cf a ρ S = .ok v S1) (he' : evalL P cf b ρ S1 = .ok w S2) (h : v.now S2 = some xs) (h' : w.now S2 = some ys) (_ : v.isT = w.isT := by rfl) : evalI P cf (.izip a b) ρ S = .ok ⟨min xs.length ys.length, fun i S => (v.get i S).bind fun x => (w.get i S).map fun y => .tup [x, y], fun S => (if xs.length ≤ ys.length then v.fin xs.length S else w.fin ys.length S) && (v.now S).isSome && (w.now S).isSome, none⟩ S2 := by
  rw [evalI.eq_3, he]
  simp only [x_bind_ok, he', h, h']
theorem ei_zipM {v w : LV} {S2 : Store} (he : evalL P cf a ρ S = .ok v S1) (he' : evalL P cf b ρ S1 = .ok w S2) (h : v.now S2 = some xs) (h' : w.now S2 = some ys) : evalI P cf (.izip a b) ρ S = .ok ⟨min xs.length ys.length, fun i S => (v.get i S).bind fun x => (w.get i S).map fun y => .tup [x, y], fun S => (if xs.length ≤ ys.length then v.fin xs.length S else w.fin ys.length S) && (v.now S).isSome && (w.now S).isSome, none⟩ S2 := by
  rw [evalI.eq_3, he]
  simp only [x_bind_ok, he', h, h']
theorem ei_rng1 (he : evalE P cf e ρ S = .ok (.int j) S1) (h0 : -1000000 ≤ j) (h : j ≤ 1000000) : evalI P cf (.irng1 e) ρ S = .ok ⟨j.toNat, fun i _ => some (.int i), fun _ => true, none⟩ S1 := by
  rw [evalI.eq_4, he]
  simp only [x_bind_ok]
  rw [if_pos (by omega)]
theorem ei_rng2 {S2 : Store} (he : evalE P cf a ρ S = .ok (.int i) S1) (he' : evalE P cf b ρ S1 = .ok (.int j) S2) (h0 : -1000000 ≤ i ∧ i ≤ 1000000) (h : -1000000 ≤ j ∧ j ≤ 1000000) : evalI P cf (.irng2 a b) ρ S = .ok ⟨(j - i).toNat, fun k _ => some (.int (i + k)), fun _ => true, none⟩ S2 := by
  rw [evalI.eq_5, he]
  simp only [x_bind_ok, he']
  rw [if_pos (by omega)]
theorem ev_for {iv : IV} (hi : evalI P cf e ρ S = .ok iv S1) (hk : iv.lk = none) : evalS P cf (.for_ tg one e u) ρ S = forN iv (Ev.tg tg one) (fun ρ S => evalS P cf u ρ S) iv.n 0 ρ S1 := by
  rw [show evalS P cf (.for_ tg one e u) ρ S = (evalI P cf e ρ S).toF ρ fun iv S1 => (forN iv (Ev.tg tg one) (fun ρ S => evalS P cf u ρ S) iv.n 0 ρ S1).unlk iv.lk from by first | rfl | simp only [evalS], hi]
  simp only [x_toF_ok, hk]
  rfl
/-- goes on with the next turn -/
def Nx (r : F) (ρ : Ev) (S : Store) : Prop := r = .nx ρ S ∨ r = .ct ρ S
theorem Nx.of {r : F} {ρ : Ev} {S : Store} (h : r = .nx ρ S) : Nx r ρ S := .inl h
/-- a loop that runs to its end -/
theorem for_all {iv : IV} (hi : evalI P cf e ρ S = .ok iv S1) (hk : iv.lk = none) (I : Nat → Ev → Store → Prop)
    (step : ∀ i ρ S, i < iv.n → I i ρ S → ∃ v ρ1 ρ2 S2, iv.get i S = some v ∧ Ev.tg tg one v ρ = some ρ1 ∧ Nx (evalS P cf u ρ1 S) ρ2 S2 ∧ I (i + 1) ρ2 S2)
    (last : ∀ ρ S, I iv.n ρ S → iv.fin S = true) (h0 : I 0 ρ S1) : ∃ ρ' S', evalS P cf (.for_ tg one e u) ρ S = .nx ρ' S' ∧ I iv.n ρ' S' := by
  rw [ev_for hi hk]
  refine for_run I (fun r => ∃ ρ' S', r = .nx ρ' S' ∧ I iv.n ρ' S') (fun i ρ S hi h => ?_) (fun ρ S h => ⟨last ρ S h, ρ, S, rfl, h⟩) h0
  obtain ⟨v, ρ1, ρ2, S2, s1, s2, s3, s4⟩ := step i ρ S hi h
  refine ⟨v, ρ1, s1, s2, ?_⟩
  rcases s3 with s3 | s3 <;> (rw [s3]; exact s4)
/-- a loop that may leave -/
theorem for_any {iv : IV} (hi : evalI P cf e ρ S = .ok iv S1) (hk : iv.lk = none) (I : Nat → Ev → Store → Prop) (Q : F → Prop)
    (step : ∀ i ρ S, i < iv.n → I i ρ S → ∃ v ρ1, iv.get i S = some v ∧ Ev.tg tg one v ρ = some ρ1 ∧ match evalS P cf u ρ1 S with
      | .nx ρ2 S2 => I (i + 1) ρ2 S2
      | .ct ρ2 S2 => I (i + 1) ρ2 S2
      | .bk ρ2 S2 => Q (.nx ρ2 S2)
      | r => Q r)
    (last : ∀ ρ S, I iv.n ρ S → iv.fin S = true ∧ Q (.nx ρ S)) (h0 : I 0 ρ S1) : Q (evalS P cf (.for_ tg one e u) ρ S) := by
  rw [ev_for hi hk]
  exact for_run I Q step last h0
/-- over a list that stays -/
theorem for_lst (he : evalE P cf e ρ S = .ok (.ref q) S1) (I : Nat → Ev → Store → Prop) (kp : ∀ i ρ S, I i ρ S → S.lstAt q = some xs)
    (step : ∀ i ρ S (hi : i < xs.length), I i ρ S → ∃ ρ1 ρ2 S2, Ev.tg tg one xs[i] ρ = some ρ1 ∧ Nx (evalS P cf u ρ1 S) ρ2 S2 ∧ I (i + 1) ρ2 S2) (h0 : I 0 ρ S1) : ∃ ρ' S', evalS P cf (.for_ tg one (.iof (.lof e)) u) ρ S = .nx ρ' S' ∧ I xs.length ρ' S' :=
  for_all (ei_of (el_lst he (kp _ _ _ h0)) (kp _ _ _ h0)) rfl I (fun i ρ S hi h => by
    have hi : i < xs.length := hi
    obtain ⟨ρ1, ρ2, S2, s1, s2, s3⟩ := step i ρ S hi h
    exact ⟨xs[i], ρ1, ρ2, S2, by simp [kp _ _ _ h, hi], s1, s2, s3⟩) (fun ρ S h => by simp [LV.fin, kp _ _ _ h]) h0
theorem for_lst_any (he : evalE P cf e ρ S = .ok (.ref q) S1) (I : Nat → Ev → Store → Prop) (Q : F → Prop) (kp : ∀ i ρ S, I i ρ S → S.lstAt q = some xs)
    (step : ∀ i ρ S (hi : i < xs.length), I i ρ S → ∃ ρ1, Ev.tg tg one xs[i] ρ = some ρ1 ∧ match evalS P cf u ρ1 S with
      | .nx ρ2 S2 => I (i + 1) ρ2 S2
      | .ct ρ2 S2 => I (i + 1) ρ2 S2
      | .bk ρ2 S2 => Q (.nx ρ2 S2)
      | r => Q r) (last : ∀ ρ S, I xs.length ρ S → Q (.nx ρ S)) (h0 : I 0 ρ S1) : Q (evalS P cf (.for_ tg one (.iof (.lof e)) u) ρ S) :=
  for_any (ei_of (el_lst he (kp _ _ _ h0)) (kp _ _ _ h0)) rfl I Q (fun i ρ S hi h => by
    have hi : i < xs.length := hi
    obtain ⟨ρ1, s1, s2⟩ := step i ρ S hi h
    exact ⟨xs[i], ρ1, by simp [kp _ _ _ h, hi], s1, s2⟩) (fun ρ S h => ⟨by simp [LV.fin, kp _ _ _ h], last ρ S h⟩) h0
theorem for_tup (he : evalE P cf e ρ S = .ok (.tup xs) S1) (I : Nat → Ev → Store → Prop)
    (step : ∀ i ρ S (hi : i < xs.length), I i ρ S → ∃ ρ1 ρ2 S2, Ev.tg tg one xs[i] ρ = some ρ1 ∧ Nx (evalS P cf u ρ1 S) ρ2 S2 ∧ I (i + 1) ρ2 S2) (h0 : I 0 ρ S1) : ∃ ρ' S', evalS P cf (.for_ tg one (.iof (.lof e)) u) ρ S = .nx ρ' S' ∧ I xs.length ρ' S' :=
  for_all (ei_of (el_tup he) rfl) rfl I (fun i ρ S hi h => by
    have hi : i < xs.length := hi
    obtain ⟨ρ1, ρ2, S2, s1, s2, s3⟩ := step i ρ S hi h
    exact ⟨xs[i], ρ1, ρ2, S2, by simp [hi], s1, s2, s3⟩) (fun ρ S h => rfl) h0
theorem for_tmp (he : evalL P cf l ρ S = .ok (.tmp xs) S1) (I : Nat → Ev → Store → Prop)
    (step : ∀ i ρ S (hi : i < xs.length), I i ρ S → ∃ ρ1 ρ2 S2, Ev.tg tg one xs[i] ρ = some ρ1 ∧ Nx (evalS P cf u ρ1 S) ρ2 S2 ∧ I (i + 1) ρ2 S2) (h0 : I 0 ρ S1) : ∃ ρ' S', evalS P cf (.for_ tg one (.iof l) u) ρ S = .nx ρ' S' ∧ I xs.length ρ' S' :=
  for_all (ei_of he rfl) rfl I (fun i ρ S hi h => by
    have hi : i < xs.length := hi
    obtain ⟨ρ1, ρ2, S2, s1, s2, s3⟩ := step i ρ S hi h
    exact ⟨xs[i], ρ1, ρ2, S2, by simp [hi], s1, s2, s3⟩) (fun ρ S h => rfl) h0
theorem for_enum (he : evalL P cf l ρ S = .ok (.tmp xs) S1) (I : Nat → Ev → Store → Prop)
    (step : ∀ i ρ S (hi : i < xs.length), I i ρ S → ∃ ρ1 ρ2 S2, Ev.tg tg one (.tup [.int i, xs[i]]) ρ = some ρ1 ∧ Nx (evalS P cf u ρ1 S) ρ2 S2 ∧ I (i + 1) ρ2 S2) (h0 : I 0 ρ S1) : ∃ ρ' S', evalS P cf (.for_ tg one (.ienum l) u) ρ S = .nx ρ' S' ∧ I xs.length ρ' S' :=
  for_all (ei_enum he rfl rfl) rfl I (fun i ρ S hi h => by
    have hi : i < xs.length := hi
    obtain ⟨ρ1, ρ2, S2, s1, s2, s3⟩ := step i ρ S hi h
    exact ⟨_, ρ1, ρ2, S2, by simp [hi], s1, s2, s3⟩) (fun ρ S h => rfl) h0
theorem for_enumK (he : evalE P cf e ρ S = .ok (.ref q) S1) (I : Nat → Ev → Store → Prop) (kp : ∀ i ρ S, I i ρ S → S.lstAt q = some xs)
    (step : ∀ i ρ S (hi : i < xs.length), I i ρ S → ∃ ρ1 ρ2 S2, Ev.tg tg one (.tup [.int i, xs[i]]) ρ = some ρ1 ∧ Nx (evalS P cf u ρ1 S) ρ2 S2 ∧ I (i + 1) ρ2 S2) (h0 : I 0 ρ S1) : ∃ ρ' S', evalS P cf (.for_ tg one (.ienum (.lof e)) u) ρ S = .nx ρ' S' ∧ I xs.length ρ' S' :=
  for_all (ei_enum (el_lst he (kp _ _ _ h0)) (kp _ _ _ h0) rfl) rfl I (fun i ρ S hi h => by
    have hi : i < xs.length := hi
    obtain ⟨ρ1, ρ2, S2, s1, s2, s3⟩ := step i ρ S hi h
    exact ⟨_, ρ1, ρ2, S2, by simp [kp _ _ _ h, hi], s1, s2, s3⟩) (fun ρ S h => by simp [LV.fin, kp _ _ _ h]) h0
theorem for_enumK_any (he : evalE P cf e ρ S = .ok (.ref q) S1) (I : Nat → Ev → Store → Prop) (Q : F → Prop) (kp : ∀ i ρ S, I i ρ S → S.lstAt q = some xs)
    (step : ∀ i ρ S (hi : i < xs.length), I i ρ S → ∃ ρ1, Ev.tg tg one (.tup [.int i, xs[i]]) ρ = some ρ1 ∧ match evalS P cf u ρ1 S with
      | .nx ρ2 S2 => I (i + 1) ρ2 S2
      | .ct ρ2 S2 => I (i + 1) ρ2 S2
      | .bk ρ2 S2 => Q (.nx ρ2 S2)
      | r => Q r) (last : ∀ ρ S, I xs.length ρ S → Q (.nx ρ S)) (h0 : I 0 ρ S1) : Q (evalS P cf (.for_ tg one (.ienum (.lof e)) u) ρ S) :=
  for_any (ei_enum (el_lst he (kp _ _ _ h0)) (kp _ _ _ h0) rfl) rfl I Q (fun i ρ S hi h => by
    have hi : i < xs.length := hi
    obtain ⟨ρ1, s1, s2⟩ := step i ρ S hi h
    exact ⟨_, ρ1, by simp [kp _ _ _ h, hi], s1, s2⟩) (fun ρ S h => ⟨by simp [LV.fin, kp _ _ _ h], last ρ S h⟩) h0
theorem for_rng (he : evalE P cf e ρ S = .ok (.int j) S1) (h0j : -1000000 ≤ j) (hj : j ≤ 1000000) (I : Nat → Ev → Store → Prop)
    (step : ∀ i ρ S (hi : i < j.toNat), I i ρ S → ∃ ρ1 ρ2 S2, Ev.tg tg one (.int i) ρ = some ρ1 ∧ Nx (evalS P cf u ρ1 S) ρ2 S2 ∧ I (i + 1) ρ2 S2) (h0 : I 0 ρ S1) : ∃ ρ' S', evalS P cf (.for_ tg one (.irng1 e) u) ρ S = .nx ρ' S' ∧ I j.toNat ρ' S' :=
  for_all (ei_rng1 he h0j hj) rfl I (fun i ρ S hi h => by
    obtain ⟨ρ1, ρ2, S2, s1, s2, s3⟩ := step i ρ S hi h
    exact ⟨_, ρ1, ρ2, S2, rfl, s1, s2, s3⟩) (fun ρ S h => rfl) h0
/-- comprehensions -/
theorem ev_comp {iv : IV} {c : E} (hi : evalI P cf e ρ S = .ok iv S1) (hk : iv.lk = none) (I : Nat → List Val → Store → Prop)
    (step : ∀ i acc S, i < iv.n → I i acc S → ∃ v ρ1 t S1, iv.get i S = some v ∧ Ev.tg tg one v (ρ.wipe own) = some ρ1 ∧ (if c.isNo = true then R.ok true S else (evalE P cf c ρ1 S).bind fun v S => ofO (truth v) S) = .ok t S1 ∧ (t = true → acc.length < LIM ∧ ∃ y S2, evalE P cf a ρ1 S1 = .ok y S2 ∧ I (i + 1) (acc ++ [y]) S2) ∧ (t = false → I (i + 1) acc S1))
    (last : ∀ acc S, I iv.n acc S → iv.fin S = true) (h0 : I 0 [] S1) : ∃ zs S', evalL P cf (.lcomp tg one own e c a) ρ S = .ok (.tmp zs) S' ∧ I iv.n zs S' := by
  obtain ⟨zs, S', h1, h2⟩ := comp_run (iv := iv) (set := Ev.tg tg one) (c := fun ρ S => if c.isNo = true then R.ok true S else (evalE P cf c ρ S).bind fun v S => ofO (truth v) S) (e := fun ρ S => evalE P cf a ρ S) (ρ := ρ.wipe own) I step last h0
  refine ⟨zs, S', ?_, h2⟩
  rw [evalL.eq_3, hi]
  simp only [x_bind_ok, hk, h1]
/-- [f x for x in xs], nothing else done -/
theorem comp_map {v : LV} (hl : evalL P cf l ρ S = .ok v S1) (hn : v.now S1 = some xs) (f : Nat → Val) (hlen : xs.length ≤ 1000000)
    (step : ∀ i (hi : i < xs.length), ∃ ρ1, Ev.tg tg one xs[i] (ρ.wipe own) = some ρ1 ∧ evalE P cf a ρ1 S1 = .ok (f i) S1) : evalL P cf (.lcomp tg one own (.iof l) .noPart a) ρ S = .ok (.tmp ((List.range xs.length).map f)) S1 := by
  have hfin : v.fin xs.length S1 = true := by
    cases v with
    | tmp _ => rfl
    | tup _ => rfl
    | trk l => simp at hn; simp [LV.fin, hn]
  obtain ⟨zs, S', h1, h2, h3⟩ := ev_comp (c := .noPart) (a := a) (tg := tg) (one := one) (own := own) (ei_of hl hn) rfl (fun i acc S' => S' = S1 ∧ acc = (List.range i).map f) (fun i acc S' hi ⟨e1, e2⟩ => by
    subst e1; subst e2
    have hi : i < xs.length := hi
    obtain ⟨ρ1, s1, s2⟩ := step i hi
    exact ⟨xs[i], ρ1, true, S', by simp [LV.get, hn, hi], s1, rfl, fun _ => ⟨by rw [x_lim2]; simp; omega, f i, S', s2, rfl, by rw [List.range_succ]; simp⟩, fun h => nomatch h⟩) (fun acc S' ⟨e1, e2⟩ => by subst e1; exact hfin) ⟨rfl, rfl⟩
  subst h2; subst h3
  exact h1
/-- [x for x in xs if p x] -/
theorem comp_flt {v : LV} {c : E} (hl : evalL P cf l ρ S = .ok v S1) (hn : v.now S1 = some xs) (p : Val → Bool) (hlen : xs.length ≤ 1000000) (hc : c.isNo = false)
    (step : ∀ i (hi : i < xs.length), ∃ ρ1, Ev.tg tg one xs[i] (ρ.wipe own) = some ρ1 ∧ evalE P cf c ρ1 S1 = .ok (.bl (p xs[i])) S1 ∧ evalE P cf a ρ1 S1 = .ok xs[i] S1) : evalL P cf (.lcomp tg one own (.iof l) c a) ρ S = .ok (.tmp (xs.filter p)) S1 := by
  have hfin : v.fin xs.length S1 = true := by
    cases v with
    | tmp _ => rfl
    | tup _ => rfl
    | trk l => simp at hn; simp [LV.fin, hn]
  obtain ⟨zs, S', h1, h2, h3⟩ := ev_comp (c := c) (a := a) (tg := tg) (one := one) (own := own) (ei_of hl hn) rfl (fun i acc S' => S' = S1 ∧ acc = (xs.take i).filter p) (fun i acc S' hi ⟨e1, e2⟩ => by
    subst e1; subst e2
    have hi : i < xs.length := hi
    obtain ⟨ρ1, s1, s2, s3⟩ := step i hi
    have hf : ((xs.take i).filter p).length ≤ i := Nat.le_trans (List.length_filter_le _ _) (by rw [List.length_take]; omega)
    have tk : xs.take (i+1) = xs.take i ++ [xs[i]] := (List.take_append_getElem hi).symm
    refine ⟨xs[i], ρ1, p xs[i], S', by simp [LV.get, hn, hi], s1, by rw [hc, s2]; rfl, fun z => ⟨by rw [x_lim2]; omega, xs[i], S', s3, rfl, ?_⟩, fun z => ⟨rfl, ?_⟩⟩
    · rw [tk, List.filter_append]; simp [List.filter_cons, z]
    · rw [tk, List.filter_append]; simp [List.filter_cons, z]) (fun acc S' ⟨e1, e2⟩ => by subst e1; exact hfin) ⟨rfl, by simp⟩
  subst h2; subst h3
  have h1' := h1
  dsimp only at h1'
  rw [List.take_length] at h1'
  exact h1'
/-- [f k for k in range(j)] -/
theorem comp_rng (he : evalE P cf e ρ S = .ok (.int j) S1) (h0j : -1000000 ≤ j) (hj : j ≤ 1000000) (f : Nat → Val)
    (step : ∀ i (hi : i < j.toNat), ∃ ρ1, Ev.tg tg one (.int i) (ρ.wipe own) = some ρ1 ∧ evalE P cf a ρ1 S1 = .ok (f i) S1) : evalL P cf (.lcomp tg one own (.irng1 e) .noPart a) ρ S = .ok (.tmp ((List.range j.toNat).map f)) S1 := by
  obtain ⟨zs, S', h1, h2, h3⟩ := ev_comp (c := .noPart) (a := a) (tg := tg) (one := one) (own := own) (ei_rng1 he h0j hj) rfl (fun i acc S' => S' = S1 ∧ acc = (List.range i).map f) (fun i acc S' hi ⟨e1, e2⟩ => by
    subst e1; subst e2
    have hi : i < j.toNat := hi
    obtain ⟨ρ1, s1, s2⟩ := step i hi
    exact ⟨.int i, ρ1, true, S', rfl, s1, rfl, fun _ => ⟨by rw [x_lim2]; simp; omega, f i, S', s2, rfl, by rw [List.range_succ]; simp⟩, fun h => nomatch h⟩) (fun acc S' _ => rfl) ⟨rfl, rfl⟩
  subst h2; subst h3
  exact h1
end
/-- the first two at once -/
theorem s_duo {P : Prog} {cf : Nat → List Val → Store → R Val} {a b c : S} {ρ ρ1 : Ev} {S S1 : Store} (h : evalS P cf (.cons a (.cons b .nil)) ρ S = .nx ρ1 S1) : evalS P cf (.cons a (.cons b c)) ρ S = evalS P cf c ρ1 S1 := by
  rw [evalS.eq_2] at h ⊢
  cases q : evalS P cf a ρ S with
  | nx ρ2 S2 =>
    rw [q] at h
    simp only [x_fb_nx] at h ⊢
    rw [evalS.eq_2] at h ⊢
    cases q' : evalS P cf b ρ2 S2 with
    | nx ρ3 S3 =>
      rw [q'] at h
      simp only [x_fb_nx] at h ⊢
      rw [evalS.eq_1] at h
      cases h
      rfl
    | _ => rw [q'] at h; cases h
  | _ => rw [q] at h; cases h
/-- a while, turn by turn -/
theorem whl_any {P : Prog} {cf : Nat → List Val → Store → R Val} {c : E} {u : S} (I : Nat → Ev → Store → Prop) (Q : F → Prop) (hm : ∀ i ρ S, I i ρ S → i < P.fuel)
    (step : ∀ i ρ S, I i ρ S → (∃ S1, evalE P cf c ρ S = .ok (.bl false) S1 ∧ Q (.nx ρ S1)) ∨ ∃ S1, evalE P cf c ρ S = .ok (.bl true) S1 ∧ match evalS P cf u ρ S1 with
      | .nx ρ2 S2 => I (i + 1) ρ2 S2
      | .ct ρ2 S2 => I (i + 1) ρ2 S2
      | .bk ρ2 S2 => Q (.nx ρ2 S2)
      | r => Q r) {ρ : Ev} {S : Store} (h0 : I 0 ρ S) : Q (evalS P cf (.whl c u) ρ S) := by
  have go : ∀ (k i : Nat) (ρ : Ev) (S : Store), P.fuel = i + k → I i ρ S → Q (whlN (fun ρ S => (evalE P cf c ρ S).bind fun v S1 => ofO (truth v) S1) (fun ρ S => evalS P cf u ρ S) k ρ S) := fun k => by
    induction k with
    | zero =>
      intro i ρ S e h
      have := hm i ρ S h
      omega
    | succ k ih =>
      intro i ρ S e h
      rcases step i ρ S h with ⟨S1, s1, s2⟩ | ⟨S1, s1, s2⟩
      · simp only [whlN, s1, x_bind_ok, truth, x_ofO_some, x_toF_ok, Bool.false_eq_true, if_false]
        exact s2
      · simp only [whlN, s1, x_bind_ok, truth, x_ofO_some, x_toF_ok, if_true]
        cases hb : evalS P cf u ρ S1 with
        | nx ρ2 S2 => rw [hb] at s2; exact ih (i + 1) ρ2 S2 (by omega) s2
        | ct ρ2 S2 => rw [hb] at s2; exact ih (i + 1) ρ2 S2 (by omega) s2
        | bk ρ2 S2 => rw [hb] at s2; exact s2
        | rt v S2 => rw [hb] at s2; exact s2
        | exc a b c d => rw [hb] at s2; exact s2
        | bad => rw [hb] at s2; exact s2
  have e : evalS P cf (.whl c u) ρ S = whlN (fun ρ S => (evalE P cf c ρ S).bind fun v S1 => ofO (truth v) S1) (fun ρ S => evalS P cf u ρ S) P.fuel ρ S := by first | rfl | simp only [evalS]
  rw [e]
  exact go P.fuel 0 ρ S (by omega) h0
/-- what is wished of a run -/
def Hld (Q : F → Prop) (r : F) : Prop := Q r
theorem h_nx {P : Prog} {cf : Nat → List Val → Store → R Val} {Q : F → Prop} {a b : S} {ρ ρ1 : Ev} {S S1 : Store} (h : evalS P cf a ρ S = .nx ρ1 S1) (k : Hld Q (evalS P cf b ρ1 S1)) : Hld Q (evalS P cf (.cons a b) ρ S) := by
  rw [s_nx h]; exact k
theorem h_rt {P : Prog} {cf : Nat → List Val → Store → R Val} {Q : F → Prop} {a b : S} {ρ : Ev} {S S1 : Store} {v : Val} (h : evalS P cf a ρ S = .rt v S1) (k : Q (.rt v S1)) : Hld Q (evalS P cf (.cons a b) ρ S) := by
  rw [s_rt h]; exact k
theorem h_duo {P : Prog} {cf : Nat → List Val → Store → R Val} {Q : F → Prop} {a b c : S} {ρ ρ1 : Ev} {S S1 : Store} (h : evalS P cf (.cons a (.cons b .nil)) ρ S = .nx ρ1 S1) (k : Hld Q (evalS P cf c ρ1 S1)) : Hld Q (evalS P cf (.cons a (.cons b c)) ρ S) := by
  rw [s_duo h]; exact k
end MP
abbrev LW.DEP : Nat := 9
section
open PySem MP L2
namespace LW
def top (i : Nat) : Stmt := PySem.Challenge.pw_aheadmill_k33_shelf_left_and_thrown.main.body.getD i (.Pass ⟨0, 0, 0, 0⟩)
def sub (s : Stmt) (j : Nat) : Stmt := match s with
  | .ClassDef _ _ _ b _ _ _ _ _ _ _ => b.getD j (.Pass ⟨0, 0, 0, 0⟩)
  | _ => s
abbrev f_NoRow___init__ : Nat := 0
abbrev f_Twice___init__ : Nat := 1
abbrev f_NoLabel___init__ : Nat := 2
abbrev f_first_of : Nat := 3
abbrev f_spot_of : Nat := 4
abbrev f_Shelf___init__ : Nat := 5
abbrev f_Shelf_store : Nat := 6
abbrev f_Shelf_placed : Nat := 7
abbrev f_Shelf_worded : Nat := 8
abbrev f_Shelf_look : Nat := 9
abbrev f_Shelf_loaded : Nat := 10
abbrev f_Shelf_leave : Nat := 11
abbrev f_Shelf_throw : Nat := 12
abbrev f_Shelf_stores : Nat := 13
abbrev f_Shelf_loads : Nat := 14
abbrev f_Lcell_at : Nat := 15
abbrev f_Lmixed : Nat := 16
abbrev f_Lalike : Nat := 17
abbrev f_Ldo : Nat := 18
abbrev f_Lclass : Nat := 19
abbrev f_Lrefused : Nat := 20
abbrev f_Lrefused_by_any : Nat := 21
abbrev f_Lticket_by : Nat := 22
abbrev f_Ldeed : Nat := 23
abbrev f_Lallowed : Nat := 24
abbrev f_Lticket : Nat := 25
abbrev f_Lbehind : Nat := 26
abbrev f_Lanswer : Nat := 27
abbrev f_Ldone : Nat := 28
abbrev f_Lthrown : Nat := 29
abbrev f_Lstepped : Nat := 30
abbrev f_Lspot : Nat := 31
abbrev f_Ldue : Nat := 32
abbrev f_Llooks : Nat := 33
abbrev f_Ltold : Nat := 34
abbrev f_law : Nat := 35
abbrev C_MillError : Nat := 0
abbrev C_Nought : Nat := 1
abbrev C_NoPlace : Nat := 2
abbrev C_NoTicket : Nat := 3
abbrev C_Busy : Nat := 4
abbrev C_Halted : Nat := 5
abbrev C_NoRow : Nat := 6
abbrev C_Twice : Nat := 7
abbrev C_NoLabel : Nat := 8
abbrev C_Shelf : Nat := 9
@[simp] abbrev F_line : Nat := 0
@[simp] abbrev F_kept_stores : Nat := 1
@[simp] abbrev F_kept_loads : Nat := 2
abbrev M_placed : Nat := 0
abbrev M_store : Nat := 1
abbrev M_worded : Nat := 2
abbrev M_loaded : Nat := 3
abbrev M_leave : Nat := 4
abbrev M_throw : Nat := 5
abbrev M_look : Nat := 6
abbrev M_stores : Nat := 7
abbrev M_loads : Nat := 8
/-- NoRow.__init__: 0 self 1 line -/
def b_NoRow___init__ : S := (.cons .hnil (.cons (.asg (.fld (.var 0) F_line) (.var 1)) .nil))
/-- Twice.__init__: 0 self 1 line -/
def b_Twice___init__ : S := (.cons .hnil (.cons (.asg (.fld (.var 0) F_line) (.var 1)) .nil))
/-- NoLabel.__init__: 0 self 1 line -/
def b_NoLabel___init__ : S := (.cons .hnil (.cons (.asg (.fld (.var 0) F_line) (.var 1)) .nil))
/-- first_of: 0 one -/
def b_first_of : S := (.cons (.ret (.ix (.var 0) (.int 0))) .nil)
/-- spot_of: 0 some 1 ticket 2 at 3 one -/
def l_spot_of_0 : S := (.cons (.ite (.cmp .eq (.ix (.var 3) (.int 0)) (.var 1)) (.cons (.ret (.var 2)) .nil) .nil) .nil)
def b_spot_of : S := (.cons (.for_ [2, 3] false (.ienum (.lof (.var 0))) l_spot_of_0) (.cons (.ret .non) .nil))
/-- Shelf.__init__: 0 self -/
def b_Shelf___init__ : S := (.cons (.asg (.fld (.var 0) F_kept_stores) (.list (.llit .nil))) (.cons (.asg (.fld (.var 0) F_kept_loads) (.list (.llit .nil))) .nil))
/-- Shelf.store: 0 self 1 ticket -/
def b_Shelf_store : S := (.cons (.ite (.and (.cons (.cmp .gt (.bl1 .len (.fld (.var 0) F_kept_stores)) (.int 0)) (.cons (.cmp .ge (.ix (.ix (.fld (.var 0) F_kept_stores) (.neg (.int 1))) (.int 0)) (.var 1)) .nil))) (.cons (.raise C_NoTicket .noPart) .nil) .nil) (.cons (.ite (.notN (.call f_spot_of (.cons (.fld (.var 0) F_kept_loads) (.cons (.var 1) .nil)) 0)) (.cons (.raise C_NoTicket .noPart) .nil) .nil) (.cons (.ex (.bm .append (.fld (.var 0) F_kept_stores) (.cons (.tup (.cons (.var 1) (.cons .non (.cons .non .nil)))) .nil))) .nil)))
/-- Shelf.placed: 0 self 1 ticket 2 place 3 at 4 bitten 5 load 6 there 7 giver -/
def l_Shelf_placed_0 : S := (.cons (.ite (.and (.cons (.cmp .gt (.var 5) (.var 1)) (.cons (.cmp .eq (.var 6) (.var 2)) (.cons (.or (.cons (.isN (.var 7)) (.cons (.cmp .lt (.var 7) (.var 1)) .nil))) .nil)))) (.cons (.ite (.or (.cons (.isN (.var 4)) (.cons (.cmp .lt (.var 5) (.var 4)) .nil))) (.cons (.asg (.name 4) (.var 5)) .nil) .nil) .nil) .nil) .nil)
def b_Shelf_placed : S := (.cons (.asg (.name 3) (.call f_spot_of (.cons (.fld (.var 0) F_kept_stores) (.cons (.var 1) .nil)) 0)) (.cons (.ite (.or (.cons (.isN (.var 3)) (.cons (.notN (.ix (.ix (.fld (.var 0) F_kept_stores) (.var 3)) (.int 1))) .nil))) (.cons (.raise C_NoTicket .noPart) .nil) .nil) (.cons (.asg (.sub (.fld (.var 0) F_kept_stores) (.var 3)) (.tup (.cons (.var 1) (.cons (.var 2) (.cons (.ix (.ix (.fld (.var 0) F_kept_stores) (.var 3)) (.int 2)) .nil))))) (.cons (.asg (.name 4) .non) (.cons (.for_ [5, 6, 7] false (.iof (.lof (.fld (.var 0) F_kept_loads))) l_Shelf_placed_0) (.cons (.ret (.var 4)) .nil))))))
/-- Shelf.worded: 0 self 1 ticket 2 word 3 at -/
def b_Shelf_worded : S := (.cons (.asg (.name 3) (.call f_spot_of (.cons (.fld (.var 0) F_kept_stores) (.cons (.var 1) .nil)) 0)) (.cons (.ite (.or (.cons (.isN (.var 3)) (.cons (.notN (.ix (.ix (.fld (.var 0) F_kept_stores) (.var 3)) (.int 2))) .nil))) (.cons (.raise C_NoTicket .noPart) .nil) .nil) (.cons (.asg (.sub (.fld (.var 0) F_kept_stores) (.var 3)) (.tup (.cons (.var 1) (.cons (.ix (.ix (.fld (.var 0) F_kept_stores) (.var 3)) (.int 1)) (.cons (.var 2) .nil))))) .nil)))
/-- Shelf.look: 0 self 1 ticket 2 place 3 dares 4 store 5 there 6 word -/
def l_Shelf_look_0 : S := (.cons (.ite (.cmp .ge (.var 4) (.var 1)) (.cons .cnt .nil) .nil) (.cons (.ite (.and (.cons (.isN (.var 5)) (.cons (.not (.var 3)) .nil))) (.cons (.ret .non) .nil) .nil) (.cons (.ite (.and (.cons (.notN (.var 5)) (.cons (.cmp .eq (.var 5) (.var 2)) .nil))) (.cons (.ite (.isN (.var 6)) (.cons (.ret .non) .nil) .nil) (.cons (.ret (.tup (.cons (.var 4) (.cons (.var 6) .nil)))) .nil)) .nil) .nil)))
def b_Shelf_look : S := (.cons (.for_ [4, 5, 6] false (.irev (.lof (.fld (.var 0) F_kept_stores))) l_Shelf_look_0) (.cons (.ret (.tup (.cons .non (.cons .non .nil)))) .nil))
/-- Shelf.loaded: 0 self 1 ticket 2 place 3 giver -/
def b_Shelf_loaded : S := (.cons (.ite (.or (.cons (.notN (.call f_spot_of (.cons (.fld (.var 0) F_kept_loads) (.cons (.var 1) .nil)) 0)) (.cons (.notN (.call f_spot_of (.cons (.fld (.var 0) F_kept_stores) (.cons (.var 1) .nil)) 0)) .nil))) (.cons (.raise C_NoTicket .noPart) .nil) .nil) (.cons (.ex (.bm .append (.fld (.var 0) F_kept_loads) (.cons (.tup (.cons (.var 1) (.cons (.var 2) (.cons (.var 3) .nil)))) .nil))) .nil))
/-- Shelf.leave: 0 self 1 ticket 2 one -/
def l_Shelf_leave_0 : E := (.cmp .ne (.ix (.var 2) (.int 0)) (.var 1))
def l_Shelf_leave_1 : E := (.var 2)
def l_Shelf_leave_2 : E := (.cmp .ne (.ix (.var 2) (.int 0)) (.var 1))
def l_Shelf_leave_3 : E := (.var 2)
def b_Shelf_leave : S := (.cons (.ite (.and (.cons (.isN (.call f_spot_of (.cons (.fld (.var 0) F_kept_loads) (.cons (.var 1) .nil)) 0)) (.cons (.isN (.call f_spot_of (.cons (.fld (.var 0) F_kept_stores) (.cons (.var 1) .nil)) 0)) .nil))) (.cons (.raise C_NoTicket .noPart) .nil) .nil) (.cons (.asg (.fld (.var 0) F_kept_stores) (.list (.lcomp [2] true [2] (.iof (.lof (.fld (.var 0) F_kept_stores))) l_Shelf_leave_0 l_Shelf_leave_1))) (.cons (.asg (.fld (.var 0) F_kept_loads) (.list (.lcomp [2] true [2] (.iof (.lof (.fld (.var 0) F_kept_loads))) l_Shelf_leave_2 l_Shelf_leave_3))) .nil)))
/-- Shelf.throw: 0 self 1 ticket 2 many 3 one -/
def l_Shelf_throw_0 : E := (.cmp .lt (.ix (.var 3) (.int 0)) (.var 1))
def l_Shelf_throw_1 : E := (.var 3)
def l_Shelf_throw_2 : E := (.cmp .lt (.ix (.var 3) (.int 0)) (.var 1))
def l_Shelf_throw_3 : E := (.var 3)
def b_Shelf_throw : S := (.cons (.asg (.name 2) (.bin .add (.bl1 .len (.fld (.var 0) F_kept_stores)) (.bl1 .len (.fld (.var 0) F_kept_loads)))) (.cons (.asg (.fld (.var 0) F_kept_stores) (.list (.lcomp [3] true [3] (.iof (.lof (.fld (.var 0) F_kept_stores))) l_Shelf_throw_0 l_Shelf_throw_1))) (.cons (.asg (.fld (.var 0) F_kept_loads) (.list (.lcomp [3] true [3] (.iof (.lof (.fld (.var 0) F_kept_loads))) l_Shelf_throw_2 l_Shelf_throw_3))) (.cons (.ret (.bin .sub (.bin .sub (.var 2) (.bl1 .len (.fld (.var 0) F_kept_stores))) (.bl1 .len (.fld (.var 0) F_kept_loads)))) .nil))))
/-- Shelf.stores: 0 self -/
def b_Shelf_stores : S := (.cons (.ret (.list (.lcopy (.lof (.fld (.var 0) F_kept_stores))))) .nil)
/-- Shelf.loads: 0 self -/
def b_Shelf_loads : S := (.cons (.ret (.list (.lsortK (.lof (.fld (.var 0) F_kept_loads)) f_first_of))) .nil)
/-- _law_cell_at: 0 _law_script 1 _law_k -/
def b_Lcell_at : S := (.cons (.ite (.cmp .lt (.var 1) (.bl1 .len (.var 0))) (.cons (.ret (.ix (.var 0) (.var 1))) .nil) .nil) (.cons (.ret (.int 0)) .nil))
/-- _law_mixed: 0 _law_cell 1 _law_k 2 _law_by 3 _law_prime -/
def b_Lmixed : S := (.cons (.ret (.bin .mod (.bin .mul (.bin .add (.bin .add (.bin .mod (.var 0) (.bin .pow (.int 10) (.int 20))) (.bin .mul (.var 1) (.var 1))) (.int 1)) (.var 2)) (.var 3))) .nil)
/-- _law_alike: 0 _law_found 1 _law_due_here 2 _law_one 3 _law_other -/
def l_Lalike_0 : S := (.cons (.ite (.not (.call f_Lalike (.cons (.var 2) (.cons (.var 3) .nil)) 0)) (.cons (.ret (.bl false)) .nil) .nil) .nil)
def b_Lalike : S := (.cons (.ite (.isN (.var 1)) (.cons (.ret (.isN (.var 0))) .nil) .nil) (.cons (.ite (.isinst (.var 1) .int) (.cons (.ret (.and (.cons (.isinst (.var 0) .int) (.cons (.not (.isinst (.var 0) .bool)) (.cons (.cmp .eq (.var 0) (.var 1)) .nil))))) .nil) .nil) (.cons (.ite (.isinst (.var 1) .tup) (.cons (.ite (.not (.isinst (.var 0) .tup)) (.cons (.ret (.bl false)) .nil) .nil) .nil) (.cons (.ite (.not (.isinst (.var 0) .list)) (.cons (.ret (.bl false)) .nil) .nil) .nil)) (.cons (.ite (.cmp .ne (.bl1 .len (.var 0)) (.bl1 .len (.var 1))) (.cons (.ret (.bl false)) .nil) .nil) (.cons (.for_ [2, 3] false (.izip (.lof (.var 0)) (.lof (.var 1))) l_Lalike_0) (.cons (.ret (.bl true)) .nil))))))
/-- _law_do: 0 _law_shelf 1 _law_deed_here 2 _law_good -/
def b_Ldo : S := (.cons (.ite (.cmp .eq (.ix (.var 1) (.int 0)) (.str "place")) (.cons (.ret (.meth (.var 0) M_placed (.cons (.ix (.var 1) (.int 1)) (.cons (.ix (.var 1) (.int 2)) .nil)) 0)) .nil) .nil) (.cons (.asg (.name 2) (.bl true)) (.cons (.ite (.cmp .eq (.ix (.var 1) (.int 0)) (.str "store")) (.cons (.asg (.name 2) (.isN (.meth (.var 0) M_store (.cons (.ix (.var 1) (.int 1)) .nil) 0))) .nil) (.cons (.ite (.cmp .eq (.ix (.var 1) (.int 0)) (.str "word")) (.cons (.asg (.name 2) (.isN (.meth (.var 0) M_worded (.cons (.ix (.var 1) (.int 1)) (.cons (.ix (.var 1) (.int 2)) .nil)) 0))) .nil) (.cons (.ite (.cmp .eq (.ix (.var 1) (.int 0)) (.str "load")) (.cons (.asg (.name 2) (.isN (.meth (.var 0) M_loaded (.cons (.ix (.var 1) (.int 1)) (.cons (.ix (.var 1) (.int 2)) (.cons (.ix (.var 1) (.int 3)) .nil))) 0))) .nil) (.cons (.asg (.name 2) (.isN (.meth (.var 0) M_leave (.cons (.ix (.var 1) (.int 1)) .nil) 0))) .nil)) .nil)) .nil)) (.cons (.ret (.ixL (.llit (.cons (.neg (.int 1)) (.cons .non .nil))) (.bl1 .int (.var 2)))) .nil))))
/-- _law_class: 0 _law_caught -/
def b_Lclass : S := (.cons (.ite (.or (.cons (.isN (.var 0)) (.cons (.not (.isinst (.var 0) .verr)) (.cons (.isinst (.var 0) (.cls C_Nought)) .nil)))) (.cons (.ret (.bl false)) .nil) .nil) (.cons (.ite (.or (.cons (.isinst (.var 0) (.cls C_NoPlace)) (.cons (.isinst (.var 0) (.cls C_Busy)) (.cons (.isinst (.var 0) (.cls C_Halted)) .nil)))) (.cons (.ret (.bl false)) .nil) .nil) (.cons (.ret (.and (.cons (.not (.isinst (.var 0) (.cls C_NoRow))) (.cons (.not (.isinst (.var 0) (.cls C_Twice))) (.cons (.not (.isinst (.var 0) (.cls C_NoLabel))) .nil))))) .nil)))
/-- _law_refused: 0 _law_shelf 1 _law_deed_here 2 _law_caught 3 error -/
def b_Lrefused : S := (.cons (.asg (.name 2) .non) (.cons (.try_ (.cons (.ex (.call f_Ldo (.cons (.var 0) (.cons (.var 1) .nil)) 0)) .nil) (.hcons C_NoTicket (some 3) (.cons (.asg (.name 2) (.var 3)) .nil) .hnil) .nil) (.cons (.ret (.call f_Lclass (.cons (.var 2) .nil) 0)) .nil)))
/-- _law_refused_by_any: 0 _law_shelf 1 _law_deed_here -/
def b_Lrefused_by_any : S := (.cons (.try_ (.cons (.ex (.call f_Ldo (.cons (.var 0) (.cons (.var 1) .nil)) 0)) .nil) (.hcons C_MillError none (.cons (.ret (.bl true)) .nil) .hnil) .nil) (.cons (.ret (.bl false)) .nil))
/-- _law_ticket_by: 0 _law_kind 1 _law_stores 2 _law_loads 3 _law_base 4 _law_number 5 _law_some 6 _law_one -/
def l_Lticket_by_0 : E := (.ix (.var 6) (.int 0))
def l_Lticket_by_1 : E := (.ix (.var 6) (.int 0))
def b_Lticket_by : S := (.cons (.asg (.name 5) (.list (.lcomp [6] true [6] (.iof (.lof (.var 1))) .noPart l_Lticket_by_0))) (.cons (.ite (.cmp .eq (.var 0) (.str "leave")) (.cons (.asg (.name 5) (.list (.lcat (.lof (.var 5)) (.lcomp [6] true [6] (.iof (.lof (.var 2))) .noPart l_Lticket_by_1)))) .nil) .nil) (.cons (.ite (.or (.cons (.cmp .eq (.bin .mod (.var 4) (.int 4)) (.int 0)) (.cons (.cmp .eq (.bl1 .len (.var 5)) (.int 0)) .nil))) (.cons (.ret (.bin .add (.bin .add (.var 3) (.int 1)) (.bin .mod (.bin .fdiv (.var 4) (.int 4)) (.int 24)))) .nil) .nil) (.cons (.ite (.cmp .eq (.var 0) (.str "store")) (.cons (.ret (.bin .add (.ix (.var 5) (.neg (.int 1))) (.bin .mod (.bin .fdiv (.var 4) (.int 4)) (.int 4)))) .nil) .nil) (.cons (.asg (.name 6) (.ix (.var 5) (.bin .mod (.bin .fdiv (.var 4) (.int 4)) (.bl1 .len (.var 5))))) (.cons (.ite (.cmp .eq (.var 0) (.str "load")) (.cons (.ret (.bin .add (.var 6) (.bin .mod (.bin .fdiv (.var 4) (.int 256)) (.int 3)))) .nil) .nil) (.cons (.ret (.var 6)) .nil)))))))
/-- _law_deed: 0 _law_numbers 1 _law_stores 2 _law_loads 3 _law_base 4 _law_far 5 _law_kind 6 _law_part 7 _law_ticket_here 8 _law_place -/
def b_Ldeed : S := (.cons (.asg (.name 5) (.ixL (.llit (.cons (.str "store") (.cons (.str "store") (.cons (.str "place") (.cons (.str "word") (.cons (.str "word") (.cons (.str "load") (.cons (.str "load") (.cons (.str "leave") .nil))))))))) (.bin .mod (.bin .fdiv (.ix (.var 0) (.int 0)) (.int 2)) (.int 8)))) (.cons (.asg (.name 6) (.ix (.var 0) (.int 1))) (.cons (.asg (.name 7) (.call f_Lticket_by (.cons (.var 5) (.cons (.var 1) (.cons (.var 2) (.cons (.var 3) (.cons (.bin .fdiv (.var 6) (.int 32)) .nil))))) 0)) (.cons (.asg (.name 8) (.bin .add (.var 4) (.bin .mod (.var 6) (.int 4)))) (.cons (.ite (.cmp .eq (.var 5) (.str "place")) (.cons (.ret (.tup (.cons (.var 5) (.cons (.var 7) (.cons (.var 8) .nil))))) .nil) .nil) (.cons (.ite (.cmp .eq (.var 5) (.str "word")) (.cons (.ret (.tup (.cons (.var 5) (.cons (.var 7) (.cons (.bin .mod (.bin .mul (.var 6) (.int 6364136223846793005)) (.bin .pow (.int 2) (.int 64))) .nil))))) .nil) .nil) (.cons (.ite (.cmp .eq (.var 5) (.str "load")) (.cons (.ret (.tup (.cons (.var 5) (.cons (.var 7) (.cons (.var 8) (.cons (.ixL (.llit (.cons .non (.cons (.bl2 .max (.int 0) (.bin .sub (.bin .sub (.var 7) (.int 1)) (.bin .mod (.bin .fdiv (.var 6) (.int 8)) (.int 4)))) .nil))) (.bin .mod (.bin .fdiv (.var 6) (.int 4)) (.int 2))) .nil)))))) .nil) .nil) (.cons (.ret (.tup (.cons (.var 5) (.cons (.var 7) .nil)))) .nil))))))))
/-- _law_allowed: 0 _law_stores 1 _law_loads 2 _law_deed_here 3 _law_mine 4 _law_one 5 _law_above 6 _law_lies -/
def l_Lallowed_0 : E := (.cmp .eq (.ix (.var 4) (.int 0)) (.ix (.var 2) (.int 1)))
def l_Lallowed_1 : E := (.var 4)
def l_Lallowed_2 : E := (.cmp .ge (.ix (.var 4) (.int 0)) (.ix (.var 2) (.int 1)))
def l_Lallowed_3 : E := (.var 4)
def l_Lallowed_4 : E := (.ix (.var 4) (.int 0))
def l_Lallowed_5 : E := (.ix (.var 4) (.int 0))
def b_Lallowed : S := (.cons (.asg (.name 3) (.list (.lcomp [4] true [4] (.iof (.lof (.var 0))) l_Lallowed_0 l_Lallowed_1))) (.cons (.ite (.cmp .eq (.ix (.var 2) (.int 0)) (.str "store")) (.cons (.asg (.name 5) (.list (.lcomp [4] true [4] (.iof (.lof (.var 0))) l_Lallowed_2 l_Lallowed_3))) (.cons (.ret (.and (.cons (.cmp .eq (.bl1 .len (.var 5)) (.int 0)) (.cons (.notinL (.ix (.var 2) (.int 1)) (.lcomp [4] true [4] (.iof (.lof (.var 1))) .noPart l_Lallowed_4)) .nil)))) .nil)) .nil) (.cons (.ite (.cmp .eq (.ix (.var 2) (.int 0)) (.str "place")) (.cons (.ret (.and (.cons (.cmp .eq (.bl1 .len (.var 3)) (.int 1)) (.cons (.isN (.ix (.ix (.var 3) (.int 0)) (.int 1))) .nil)))) .nil) .nil) (.cons (.ite (.cmp .eq (.ix (.var 2) (.int 0)) (.str "word")) (.cons (.ret (.and (.cons (.cmp .eq (.bl1 .len (.var 3)) (.int 1)) (.cons (.isN (.ix (.ix (.var 3) (.int 0)) (.int 2))) .nil)))) .nil) .nil) (.cons (.asg (.name 6) (.or (.cons (.cmp .eq (.bl1 .len (.var 3)) (.int 1)) (.cons (.inL (.ix (.var 2) (.int 1)) (.lcomp [4] true [4] (.iof (.lof (.var 1))) .noPart l_Lallowed_5)) .nil)))) (.cons (.ret (.cmp .eq (.var 6) (.cmp .eq (.ix (.var 2) (.int 0)) (.str "leave")))) .nil))))))
/-- _law_ticket: 0 _law_one -/
def b_Lticket : S := (.cons (.ret (.ix (.var 0) (.int 0))) .nil)
/-- _law_behind: 0 _law_stores 1 _law_loads 2 _law_deed_here 3 _law_others 4 _law_one 5 _law_mine -/
def l_Lbehind_0 : E := (.cmp .ne (.ix (.var 4) (.int 0)) (.ix (.var 2) (.int 1)))
def l_Lbehind_1 : E := (.var 4)
def l_Lbehind_2 : E := (.cmp .ne (.ix (.var 4) (.int 0)) (.ix (.var 2) (.int 1)))
def l_Lbehind_3 : E := (.var 4)
def l_Lbehind_4 : E := (.cmp .eq (.ix (.var 4) (.int 0)) (.ix (.var 2) (.int 1)))
def l_Lbehind_5 : E := (.var 4)
def b_Lbehind : S := (.cons (.ite (.cmp .eq (.ix (.var 2) (.int 0)) (.str "store")) (.cons (.ret (.tup (.cons (.list (.lcat (.lof (.var 0)) (.llit (.cons (.tup (.cons (.ix (.var 2) (.int 1)) (.cons .non (.cons .non .nil)))) .nil)))) (.cons (.var 1) .nil)))) .nil) .nil) (.cons (.ite (.cmp .eq (.ix (.var 2) (.int 0)) (.str "load")) (.cons (.ret (.tup (.cons (.var 0) (.cons (.list (.lsortK (.lcat (.lof (.var 1)) (.llit (.cons (.tup (.cons (.ix (.var 2) (.int 1)) (.cons (.ix (.var 2) (.int 2)) (.cons (.ix (.var 2) (.int 3)) .nil)))) .nil))) f_Lticket)) .nil)))) .nil) .nil) (.cons (.asg (.name 3) (.list (.lcomp [4] true [4] (.iof (.lof (.var 0))) l_Lbehind_0 l_Lbehind_1))) (.cons (.ite (.cmp .eq (.ix (.var 2) (.int 0)) (.str "leave")) (.cons (.ret (.tup (.cons (.var 3) (.cons (.list (.lcomp [4] true [4] (.iof (.lof (.var 1))) l_Lbehind_2 l_Lbehind_3)) .nil)))) .nil) .nil) (.cons (.asg (.name 5) (.ixL (.lcomp [4] true [4] (.iof (.lof (.var 0))) l_Lbehind_4 l_Lbehind_5) (.int 0))) (.cons (.ite (.cmp .eq (.ix (.var 2) (.int 0)) (.str "place")) (.cons (.ret (.tup (.cons (.list (.lsortK (.lcat (.lof (.var 3)) (.llit (.cons (.tup (.cons (.ix (.var 2) (.int 1)) (.cons (.ix (.var 2) (.int 2)) (.cons (.ix (.var 5) (.int 2)) .nil)))) .nil))) f_Lticket)) (.cons (.var 1) .nil)))) .nil) .nil) (.cons (.ret (.tup (.cons (.list (.lsortK (.lcat (.lof (.var 3)) (.llit (.cons (.tup (.cons (.ix (.var 2) (.int 1)) (.cons (.ix (.var 5) (.int 1)) (.cons (.ix (.var 2) (.int 2)) .nil)))) .nil))) f_Lticket)) (.cons (.var 1) .nil)))) .nil)))))))
/-- _law_answer: 0 _law_loads 1 _law_deed_here 2 _law_load 3 _law_there 4 _law_giver -/
def l_Lanswer_0 : S := (.cons (.ite (.and (.cons (.cmp .gt (.var 2) (.ix (.var 1) (.int 1))) (.cons (.cmp .eq (.var 3) (.ix (.var 1) (.int 2))) (.cons (.or (.cons (.isN (.var 4)) (.cons (.cmp .lt (.var 4) (.ix (.var 1) (.int 1))) .nil))) .nil)))) (.cons (.ret (.var 2)) .nil) .nil) .nil)
def b_Lanswer : S := (.cons (.ite (.cmp .ne (.ix (.var 1) (.int 0)) (.str "place")) (.cons (.ret .non) .nil) .nil) (.cons (.for_ [2, 3, 4] false (.iof (.lof (.var 0))) l_Lanswer_0) (.cons (.ret .non) .nil)))
/-- _law_done: 0 _law_shelf 1 _law_stores 2 _law_loads 3 _law_deed_here -/
def b_Ldone : S := (.cons (.ite (.not (.call f_Lalike (.cons (.call f_Ldo (.cons (.var 0) (.cons (.var 3) .nil)) 0) (.cons (.call f_Lanswer (.cons (.var 2) (.cons (.var 3) .nil)) 0) .nil)) 0)) (.cons (.ret .non) .nil) .nil) (.cons (.ret (.call f_Lbehind (.cons (.var 1) (.cons (.var 2) (.cons (.var 3) .nil))) 0)) .nil))
/-- _law_thrown: 0 _law_shelf 1 _law_stores 2 _law_loads 3 _law_ticket_here 4 _law_some 5 _law_one 6 _law_others 7 _law_many -/
def l_Lthrown_0 : E := (.cmp .lt (.ix (.var 5) (.int 0)) (.var 3))
def l_Lthrown_1 : E := (.var 5)
def l_Lthrown_2 : E := (.cmp .lt (.ix (.var 5) (.int 0)) (.var 3))
def l_Lthrown_3 : E := (.var 5)
def b_Lthrown : S := (.cons (.asg (.name 4) (.list (.lcomp [5] true [5] (.iof (.lof (.var 1))) l_Lthrown_0 l_Lthrown_1))) (.cons (.asg (.name 6) (.list (.lcomp [5] true [5] (.iof (.lof (.var 2))) l_Lthrown_2 l_Lthrown_3))) (.cons (.asg (.name 7) (.bin .sub (.bin .sub (.bin .add (.bl1 .len (.var 1)) (.bl1 .len (.var 2))) (.bl1 .len (.var 4))) (.bl1 .len (.var 6)))) (.cons (.ite (.not (.call f_Lalike (.cons (.meth (.var 0) M_throw (.cons (.var 3) .nil) 0) (.cons (.var 7) .nil)) 0)) (.cons (.ret .non) .nil) .nil) (.cons (.ret (.tup (.cons (.var 4) (.cons (.var 6) .nil)))) .nil)))))
/-- _law_stepped: 0 _law_shelf 1 _law_stores 2 _law_loads 3 _law_numbers 4 _law_deed_here 5 _law_found -/
def b_Lstepped : S := (.cons (.ite (.cmp .eq (.bin .mod (.bin .fdiv (.ix (.var 3) (.int 0)) (.int 16)) (.int 12)) (.int 7)) (.cons (.ret (.call f_Lthrown (.cons (.var 0) (.cons (.var 1) (.cons (.var 2) (.cons (.ix (.var 4) (.int 1)) .nil)))) 0)) .nil) .nil) (.cons (.ite (.call f_Lallowed (.cons (.var 1) (.cons (.var 2) (.cons (.var 4) .nil))) 0) (.cons (.ret (.call f_Ldone (.cons (.var 0) (.cons (.var 1) (.cons (.var 2) (.cons (.var 4) .nil)))) 0)) .nil) .nil) (.cons (.ite (.or (.cons (.not (.call f_Lrefused (.cons (.var 0) (.cons (.var 4) .nil)) 0)) (.cons (.not (.call f_Lrefused_by_any (.cons (.var 0) (.cons (.var 4) .nil)) 0)) .nil))) (.cons (.ret .non) .nil) .nil) (.cons (.ite (.or (.cons (.cmp .gt (.bin .mod (.bin .fdiv (.ix (.var 3) (.int 0)) (.int 192)) (.int 4)) (.int 0)) (.cons (.and (.cons (.cmp .ne (.ix (.var 4) (.int 0)) (.str "store")) (.cons (.cmp .ne (.ix (.var 4) (.int 0)) (.str "load")) .nil))) .nil))) (.cons (.ret (.tup (.cons (.var 1) (.cons (.var 2) .nil)))) .nil) .nil) (.cons (.asg (.name 5) (.call f_Lthrown (.cons (.var 0) (.cons (.var 1) (.cons (.var 2) (.cons (.ix (.var 4) (.int 1)) .nil)))) 0)) (.cons (.ite (.isN (.var 5)) (.cons (.ret .non) .nil) .nil) (.cons (.ret (.call f_Ldone (.cons (.var 0) (.cons (.ix (.var 5) (.int 0)) (.cons (.ix (.var 5) (.int 1)) (.cons (.var 4) .nil)))) 0)) .nil)))))))
/-- _law_spot: 0 _law_stores 1 _law_deed_here 2 _law_base 3 _law_far 4 _law_number 5 _law_some 6 _law_one -/
def l_Lspot_0 : E := (.and (.cons (.cmp .ge (.ix (.var 6) (.int 0)) (.ix (.var 1) (.int 1))) (.cons (.notN (.ix (.var 6) (.int 1))) .nil)))
def l_Lspot_1 : E := (.var 6)
def l_Lspot_2 : E := (.notN (.ix (.var 6) (.int 1)))
def l_Lspot_3 : E := (.var 6)
def b_Lspot : S := (.cons (.asg (.name 5) (.list (.lcomp [6] true [6] (.iof (.lof (.var 0))) l_Lspot_0 l_Lspot_1))) (.cons (.ite (.cmp .eq (.bl1 .len (.var 5)) (.int 0)) (.cons (.asg (.name 5) (.list (.lcomp [6] true [6] (.iof (.lof (.var 0))) l_Lspot_2 l_Lspot_3))) .nil) .nil) (.cons (.ite (.or (.cons (.cmp .eq (.bl1 .len (.var 5)) (.int 0)) (.cons (.cmp .eq (.bin .mod (.var 4) (.int 5)) (.int 0)) .nil))) (.cons (.ret (.tup (.cons (.bin .add (.var 2) (.bin .mod (.bin .fdiv (.var 4) (.int 5)) (.int 40))) (.cons (.bin .add (.var 3) (.bin .mod (.bin .fdiv (.var 4) (.int 200)) (.int 4))) .nil)))) .nil) .nil) (.cons (.ret (.tup (.cons (.bin .add (.bin .add (.ix (.ix (.var 5) (.int 0)) (.int 0)) (.int 1)) (.bin .mod (.bin .fdiv (.var 4) (.int 5)) (.int 3))) (.cons (.ix (.ix (.var 5) (.int 0)) (.int 1)) .nil)))) .nil))))
/-- _law_due: 0 _law_stores 1 _law_spot_here 2 _law_dares 3 _law_found 4 _law_store 5 _law_there 6 _law_word -/
def l_Ldue_0 : S := (.cons (.ite (.and (.cons (.cmp .lt (.var 4) (.ix (.var 1) (.int 0))) (.cons (.or (.cons (.cmp .eq (.var 5) (.ix (.var 1) (.int 1))) (.cons (.and (.cons (.isN (.var 5)) (.cons (.not (.var 2)) .nil))) .nil))) .nil))) (.cons (.asg (.name 3) .non) (.cons (.ite (.and (.cons (.notN (.var 5)) (.cons (.notN (.var 6)) .nil))) (.cons (.asg (.name 3) (.tup (.cons (.var 4) (.cons (.var 6) .nil)))) .nil) .nil) .nil)) .nil) .nil)
def b_Ldue : S := (.cons (.asg (.name 3) (.tup (.cons .non (.cons .non .nil)))) (.cons (.for_ [4, 5, 6] false (.iof (.lof (.var 0))) l_Ldue_0) (.cons (.ret (.var 3)) .nil)))
/-- _law_looks: 0 _law_shelf 1 _law_stores 2 _law_spot_here 3 _law_first 4 _law_dares -/
def l_Llooks_0 : S := (.cons (.ite (.not (.call f_Lalike (.cons (.meth (.var 0) M_look (.cons (.ix (.var 2) (.int 0)) (.cons (.ix (.var 2) (.int 1)) (.cons (.var 4) .nil))) 0) (.cons (.call f_Ldue (.cons (.var 1) (.cons (.var 2) (.cons (.var 4) .nil))) 0) .nil)) 0)) (.cons (.ret (.bl false)) .nil) .nil) .nil)
def b_Llooks : S := (.cons (.for_ [4] true (.iof (.llit (.cons (.var 3) (.cons (.not (.var 3)) .nil)))) l_Llooks_0) (.cons (.ret (.bl true)) .nil))
/-- _law_told: 0 _law_shelf 1 _law_pair -/
def b_Ltold : S := (.cons (.ret (.and (.cons (.call f_Lalike (.cons (.meth (.var 0) M_stores .nil 0) (.cons (.ix (.var 1) (.int 0)) .nil)) 0) (.cons (.call f_Lalike (.cons (.meth (.var 0) M_loads .nil 0) (.cons (.ix (.var 1) (.int 1)) .nil)) 0) .nil)))) .nil)
/-- law: 0 _law_script 1 _law_base 2 _law_far 3 _law_shelves 4 _law_pairs 5 _law_k 6 _law_cell 7 _law_numbers 8 _law_which 9 _law_deed_here 10 _law_spot_here 11 _law_found -/
def l_law_0 : S := (.cons (.asg (.name 7) (.list (.llit (.cons (.call f_Lmixed (.cons (.var 6) (.cons (.var 5) (.cons (.int 48271) (.cons (.int 2147483647) .nil)))) 0) (.cons (.call f_Lmixed (.cons (.var 6) (.cons (.var 5) (.cons (.int 69621) (.cons (.int 2147483629) .nil)))) 0) .nil))))) (.cons (.asg (.name 8) (.bin .mod (.ix (.var 7) (.int 0)) (.int 2))) (.cons (.asg (.name 9) (.call f_Ldeed (.cons (.var 7) (.cons (.ix (.ix (.var 4) (.var 8)) (.int 0)) (.cons (.ix (.ix (.var 4) (.var 8)) (.int 1)) (.cons (.var 1) (.cons (.var 2) .nil))))) 0)) (.cons (.asg (.name 10) (.call f_Lspot (.cons (.ix (.ix (.var 4) (.var 8)) (.int 0)) (.cons (.var 9) (.cons (.var 1) (.cons (.var 2) (.cons (.bin .fdiv (.ix (.var 7) (.int 1)) (.int 7)) .nil))))) 0)) (.cons (.ite (.not (.call f_Llooks (.cons (.ix (.var 3) (.var 8)) (.cons (.ix (.ix (.var 4) (.var 8)) (.int 0)) (.cons (.var 10) (.cons (.cmp .eq (.bin .mod (.var 5) (.int 2)) (.int 0)) .nil)))) 0)) (.cons (.ret (.bl false)) .nil) .nil) (.cons (.asg (.name 11) (.call f_Lstepped (.cons (.ix (.var 3) (.var 8)) (.cons (.ix (.ix (.var 4) (.var 8)) (.int 0)) (.cons (.ix (.ix (.var 4) (.var 8)) (.int 1)) (.cons (.var 7) (.cons (.var 9) .nil))))) 0)) (.cons (.ite (.or (.cons (.isN (.var 11)) (.cons (.not (.call f_Ltold (.cons (.ix (.var 3) (.var 8)) (.cons (.var 11) .nil)) 0)) .nil))) (.cons (.ret (.bl false)) .nil) .nil) (.cons (.ite (.not (.call f_Llooks (.cons (.ix (.var 3) (.var 8)) (.cons (.ix (.var 11) (.int 0)) (.cons (.var 10) (.cons (.cmp .eq (.bin .mod (.var 5) (.int 3)) (.int 0)) .nil)))) 0)) (.cons (.ret (.bl false)) .nil) .nil) (.cons (.asg (.sub (.var 4) (.var 8)) (.var 11)) (.cons (.ite (.not (.call f_Ltold (.cons (.ix (.var 3) (.bin .sub (.int 1) (.var 8))) (.cons (.ix (.var 4) (.bin .sub (.int 1) (.var 8))) .nil)) 0)) (.cons (.ret (.bl false)) .nil) .nil) .nil))))))))))
def b_law : S := (.cons (.asg (.name 1) (.int 0)) (.cons (.asg (.name 2) (.neg (.int 2))) (.cons (.ite (.cmp .eq (.bin .mod (.call f_Lcell_at (.cons (.var 0) (.cons (.int 0) .nil)) 0) (.int 3)) (.int 1)) (.cons (.asg (.name 1) (.bin .mod (.bin .fdiv (.call f_Lcell_at (.cons (.var 0) (.cons (.int 0) .nil)) 0) (.int 3)) (.bin .pow (.int 10) (.int 17)))) (.cons (.asg (.name 2) (.bin .sub (.bin .mod (.call f_Lcell_at (.cons (.var 0) (.cons (.int 1) .nil)) 0) (.bin .mul (.int 2) (.bin .pow (.int 10) (.int 50)))) (.bin .pow (.int 10) (.int 50)))) .nil)) .nil) (.cons (.asg (.name 3) (.list (.llit (.cons (.new C_Shelf .nil 0) (.cons (.new C_Shelf .nil 0) .nil))))) (.cons (.asg (.name 4) (.list (.llit (.cons (.tup (.cons (.list (.llit .nil)) (.cons (.list (.llit .nil)) .nil))) (.cons (.tup (.cons (.list (.llit .nil)) (.cons (.list (.llit .nil)) .nil))) .nil))))) (.cons (.for_ [5, 6] false (.ienum (.lsl (.lof (.var 0)) .noPart (.int 63))) l_law_0) (.cons (.ret (.bl true)) .nil)))))))
def d0 : DI := ⟨("NoRow", some "__init__"), (sub (top 7) 0), "NoRow.__init__", ["self", "line"], 2, b_NoRow___init__, []⟩
def d1 : DI := ⟨("Twice", some "__init__"), (sub (top 8) 0), "Twice.__init__", ["self", "line"], 2, b_Twice___init__, []⟩
def d2 : DI := ⟨("NoLabel", some "__init__"), (sub (top 9) 0), "NoLabel.__init__", ["self", "line"], 2, b_NoLabel___init__, []⟩
def d3 : DI := ⟨("first_of", none), (top 11), "first_of", ["one"], 1, b_first_of, []⟩
def d4 : DI := ⟨("spot_of", none), (top 12), "spot_of", ["some", "ticket", "at", "one"], 2, b_spot_of, []⟩
def d5 : DI := ⟨("Shelf", some "__init__"), (sub (top 13) 0), "Shelf.__init__", ["self"], 1, b_Shelf___init__, []⟩
def d6 : DI := ⟨("Shelf", some "store"), (sub (top 13) 1), "Shelf.store", ["self", "ticket"], 2, b_Shelf_store, []⟩
def d7 : DI := ⟨("Shelf", some "placed"), (sub (top 13) 2), "Shelf.placed", ["self", "ticket", "place", "at", "bitten", "load", "there", "giver"], 3, b_Shelf_placed, []⟩
def d8 : DI := ⟨("Shelf", some "worded"), (sub (top 13) 3), "Shelf.worded", ["self", "ticket", "word", "at"], 3, b_Shelf_worded, []⟩
def d9 : DI := ⟨("Shelf", some "look"), (sub (top 13) 4), "Shelf.look", ["self", "ticket", "place", "dares", "store", "there", "word"], 4, b_Shelf_look, []⟩
def d10 : DI := ⟨("Shelf", some "loaded"), (sub (top 13) 5), "Shelf.loaded", ["self", "ticket", "place", "giver"], 4, b_Shelf_loaded, []⟩
def d11 : DI := ⟨("Shelf", some "leave"), (sub (top 13) 6), "Shelf.leave", ["self", "ticket", "one"], 2, b_Shelf_leave, []⟩
def d12 : DI := ⟨("Shelf", some "throw"), (sub (top 13) 7), "Shelf.throw", ["self", "ticket", "many", "one"], 2, b_Shelf_throw, []⟩
def d13 : DI := ⟨("Shelf", some "stores"), (sub (top 13) 8), "Shelf.stores", ["self"], 1, b_Shelf_stores, []⟩
def d14 : DI := ⟨("Shelf", some "loads"), (sub (top 13) 9), "Shelf.loads", ["self"], 1, b_Shelf_loads, []⟩
def d15 : DI := ⟨("_law_cell_at", none), (top 15), "_law_cell_at", ["_law_script", "_law_k"], 2, b_Lcell_at, []⟩
def d16 : DI := ⟨("_law_mixed", none), (top 16), "_law_mixed", ["_law_cell", "_law_k", "_law_by", "_law_prime"], 4, b_Lmixed, []⟩
def d17 : DI := ⟨("_law_alike", none), (top 17), "_law_alike", ["_law_found", "_law_due_here", "_law_one", "_law_other"], 2, b_Lalike, []⟩
def d18 : DI := ⟨("_law_do", none), (top 18), "_law_do", ["_law_shelf", "_law_deed_here", "_law_good"], 2, b_Ldo, []⟩
def d19 : DI := ⟨("_law_class", none), (top 19), "_law_class", ["_law_caught"], 1, b_Lclass, []⟩
def d20 : DI := ⟨("_law_refused", none), (top 20), "_law_refused", ["_law_shelf", "_law_deed_here", "_law_caught", "error"], 2, b_Lrefused, []⟩
def d21 : DI := ⟨("_law_refused_by_any", none), (top 21), "_law_refused_by_any", ["_law_shelf", "_law_deed_here"], 2, b_Lrefused_by_any, []⟩
def d22 : DI := ⟨("_law_ticket_by", none), (top 22), "_law_ticket_by", ["_law_kind", "_law_stores", "_law_loads", "_law_base", "_law_number", "_law_some", "_law_one"], 5, b_Lticket_by, []⟩
def d23 : DI := ⟨("_law_deed", none), (top 23), "_law_deed", ["_law_numbers", "_law_stores", "_law_loads", "_law_base", "_law_far", "_law_kind", "_law_part", "_law_ticket_here", "_law_place"], 5, b_Ldeed, []⟩
def d24 : DI := ⟨("_law_allowed", none), (top 24), "_law_allowed", ["_law_stores", "_law_loads", "_law_deed_here", "_law_mine", "_law_one", "_law_above", "_law_lies"], 3, b_Lallowed, []⟩
def d25 : DI := ⟨("_law_ticket", none), (top 25), "_law_ticket", ["_law_one"], 1, b_Lticket, []⟩
def d26 : DI := ⟨("_law_behind", none), (top 26), "_law_behind", ["_law_stores", "_law_loads", "_law_deed_here", "_law_others", "_law_one", "_law_mine"], 3, b_Lbehind, []⟩
def d27 : DI := ⟨("_law_answer", none), (top 27), "_law_answer", ["_law_loads", "_law_deed_here", "_law_load", "_law_there", "_law_giver"], 2, b_Lanswer, []⟩
def d28 : DI := ⟨("_law_done", none), (top 28), "_law_done", ["_law_shelf", "_law_stores", "_law_loads", "_law_deed_here"], 4, b_Ldone, []⟩
def d29 : DI := ⟨("_law_thrown", none), (top 29), "_law_thrown", ["_law_shelf", "_law_stores", "_law_loads", "_law_ticket_here", "_law_some", "_law_one", "_law_others", "_law_many"], 4, b_Lthrown, []⟩
def d30 : DI := ⟨("_law_stepped", none), (top 30), "_law_stepped", ["_law_shelf", "_law_stores", "_law_loads", "_law_numbers", "_law_deed_here", "_law_found"], 5, b_Lstepped, []⟩
def d31 : DI := ⟨("_law_spot", none), (top 31), "_law_spot", ["_law_stores", "_law_deed_here", "_law_base", "_law_far", "_law_number", "_law_some", "_law_one"], 5, b_Lspot, []⟩
def d32 : DI := ⟨("_law_due", none), (top 32), "_law_due", ["_law_stores", "_law_spot_here", "_law_dares", "_law_found", "_law_store", "_law_there", "_law_word"], 3, b_Ldue, []⟩
def d33 : DI := ⟨("_law_looks", none), (top 33), "_law_looks", ["_law_shelf", "_law_stores", "_law_spot_here", "_law_first", "_law_dares"], 4, b_Llooks, []⟩
def d34 : DI := ⟨("_law_told", none), (top 34), "_law_told", ["_law_shelf", "_law_pair"], 2, b_Ltold, []⟩
def d35 : DI := ⟨("law", none), (top 35), "law", ["_law_script", "_law_base", "_law_far", "_law_shelves", "_law_pairs", "_law_k", "_law_cell", "_law_numbers", "_law_which", "_law_deed_here", "_law_spot_here", "_law_found"], 1, b_law, []⟩
def srcD0 : List DI := [d0, d1, d2, d3, d4, d5, d6, d7, d8, d9, d10, d11, d12, d13, d14, d15, d16, d17, d18, d19, d20, d21, d22, d23]
def srcD1 : List DI := [d24, d25, d26, d27, d28, d29, d30, d31, d32, d33, d34, d35]
def src : Src := ⟨(srcD0 ++ srcD1),
  [⟨"MillError", none, [], [0], true, none⟩, ⟨"Nought", none, [], [0, 1], true, none⟩, ⟨"NoPlace", none, [], [0, 2], true, none⟩, ⟨"NoTicket", none, [], [0, 3], true, none⟩, ⟨"Busy", none, [], [0, 4], true, none⟩, ⟨"Halted", none, [], [0, 5], true, none⟩, ⟨"NoRow", none, [], [0, 6], true, some (0, "MillError")⟩, ⟨"Twice", none, [], [0, 7], true, some (1, "MillError")⟩, ⟨"NoLabel", none, [], [0, 8], true, some (2, "MillError")⟩, ⟨"Shelf", some 5, [(1, 6), (0, 7), (2, 8), (6, 9), (3, 10), (4, 11), (5, 12), (7, 13), (8, 14)], [9], false, none⟩],
  [],
  ["line", "kept_stores", "kept_loads"], ["placed", "store", "worded", "loaded", "leave", "throw", "look", "stores", "loads"], ["enumerate", "len", "reversed", "list", "sorted", "isinstance", "int", "bool", "tuple", "zip", "ValueError", "max"], 1000, 200, []⟩
theorem n0 : BnP d0 := fun _ _ _ _ _ _ us hl => match us, hl with | [_, _], _ => rfl
theorem n1 : BnP d1 := fun _ _ _ _ _ _ us hl => match us, hl with | [_, _], _ => rfl
theorem n2 : BnP d2 := fun _ _ _ _ _ _ us hl => match us, hl with | [_, _], _ => rfl
theorem n3 : BnP d3 := fun _ _ _ _ _ _ us hl => match us, hl with | [_], _ => rfl
theorem n4 : BnP d4 := fun _ _ _ _ _ _ us hl => match us, hl with | [_, _], _ => rfl
theorem n5 : BnP d5 := fun _ _ _ _ _ _ us hl => match us, hl with | [_], _ => rfl
theorem n6 : BnP d6 := fun _ _ _ _ _ _ us hl => match us, hl with | [_, _], _ => rfl
theorem n7 : BnP d7 := fun _ _ _ _ _ _ us hl => match us, hl with | [_, _, _], _ => rfl
theorem n8 : BnP d8 := fun _ _ _ _ _ _ us hl => match us, hl with | [_, _, _], _ => rfl
theorem n9 : BnP d9 := fun _ _ _ _ _ _ us hl => match us, hl with | [_, _, _, _], _ => rfl
theorem n10 : BnP d10 := fun _ _ _ _ _ _ us hl => match us, hl with | [_, _, _, _], _ => rfl
theorem n11 : BnP d11 := fun _ _ _ _ _ _ us hl => match us, hl with | [_, _], _ => rfl
theorem n12 : BnP d12 := fun _ _ _ _ _ _ us hl => match us, hl with | [_, _], _ => rfl
theorem n13 : BnP d13 := fun _ _ _ _ _ _ us hl => match us, hl with | [_], _ => rfl
theorem n14 : BnP d14 := fun _ _ _ _ _ _ us hl => match us, hl with | [_], _ => rfl
theorem n15 : BnP d15 := fun _ _ _ _ _ _ us hl => match us, hl with | [_, _], _ => rfl
theorem n16 : BnP d16 := fun _ _ _ _ _ _ us hl => match us, hl with | [_, _, _, _], _ => rfl
theorem n17 : BnP d17 := fun _ _ _ _ _ _ us hl => match us, hl with | [_, _], _ => rfl
theorem n18 : BnP d18 := fun _ _ _ _ _ _ us hl => match us, hl with | [_, _], _ => rfl
theorem n19 : BnP d19 := fun _ _ _ _ _ _ us hl => match us, hl with | [_], _ => rfl
theorem n20 : BnP d20 := fun _ _ _ _ _ _ us hl => match us, hl with | [_, _], _ => rfl
theorem n21 : BnP d21 := fun _ _ _ _ _ _ us hl => match us, hl with | [_, _], _ => rfl
theorem n22 : BnP d22 := fun _ _ _ _ _ _ us hl => match us, hl with | [_, _, _, _, _], _ => rfl
theorem n23 : BnP d23 := fun _ _ _ _ _ _ us hl => match us, hl with | [_, _, _, _, _], _ => rfl
theorem n24 : BnP d24 := fun _ _ _ _ _ _ us hl => match us, hl with | [_, _, _], _ => rfl
theorem n25 : BnP d25 := fun _ _ _ _ _ _ us hl => match us, hl with | [_], _ => rfl
theorem n26 : BnP d26 := fun _ _ _ _ _ _ us hl => match us, hl with | [_, _, _], _ => rfl
theorem n27 : BnP d27 := fun _ _ _ _ _ _ us hl => match us, hl with | [_, _], _ => rfl
theorem n28 : BnP d28 := fun _ _ _ _ _ _ us hl => match us, hl with | [_, _, _, _], _ => rfl
theorem n29 : BnP d29 := fun _ _ _ _ _ _ us hl => match us, hl with | [_, _, _, _], _ => rfl
theorem n30 : BnP d30 := fun _ _ _ _ _ _ us hl => match us, hl with | [_, _, _, _, _], _ => rfl
theorem n31 : BnP d31 := fun _ _ _ _ _ _ us hl => match us, hl with | [_, _, _, _, _], _ => rfl
theorem n32 : BnP d32 := fun _ _ _ _ _ _ us hl => match us, hl with | [_, _, _], _ => rfl
theorem n33 : BnP d33 := fun _ _ _ _ _ _ us hl => match us, hl with | [_, _, _, _], _ => rfl
theorem n34 : BnP d34 := fun _ _ _ _ _ _ us hl => match us, hl with | [_, _], _ => rfl
theorem n35 : BnP d35 := fun _ _ _ _ _ _ us hl => match us, hl with | [_], _ => rfl
theorem bn : ∀ d ∈ src.defs, BnP d := (all_cons n0 (all_cons n1 (all_cons n2 (all_cons n3 (all_cons n4 (all_cons n5 (all_cons n6 (all_cons n7 (all_cons n8 (all_cons n9 (all_cons n10 (all_cons n11 (all_cons n12 (all_cons n13 (all_cons n14 (all_cons n15 (all_cons n16 (all_cons n17 (all_cons n18 (all_cons n19 (all_cons n20 (all_cons n21 (all_cons n22 (all_cons n23 (all_cons n24 (all_cons n25 (all_cons n26 (all_cons n27 (all_cons n28 (all_cons n29 (all_cons n30 (all_cons n31 (all_cons n32 (all_cons n33 (all_cons n34 (all_cons n35 all_nil))))))))))))))))))))))))))))))))))))
def lo0 : List Str := ["MillError", "Nought", "NoPlace", "NoTicket", "Busy", "Halted", "NoRow", "Twice", "NoLabel", "first_of", "spot_of", "Shelf", "_law_cell_at", "_law_mixed", "_law_alike", "_law_do", "_law_class", "_law_refused", "_law_refused_by_any", "_law_ticket_by", "_law_deed", "_law_allowed", "_law_ticket", "_law_behind"]
def lo1 : List Str := ["_law_answer", "_law_done", "_law_thrown", "_law_stepped", "_law_spot", "_law_due", "_law_looks", "_law_told"]
def loose : List Str := lo0 ++ lo1
theorem cks : src.ckD = true ∧ src.ckM = true ∧ src.ckI = true ∧ src.ckH = true := ⟨by decide +kernel, by decide +kernel, by decide +kernel, by decide +kernel⟩
abbrev Rw : PySem.W.OpenRow := PySem.W.OpenLaw.row PySem.Challenge.rw_aheadmill_k33_shelf_left_and_thrown
abbrev hk : PySem.W.Hook := hookM 5 src
def ob (s : PySem.W.SharedT) : He.AlD × Bool := obsM 5 src (HandSHeadRun.getT s)
theorem ob_eq (s : PySem.W.SharedT) : ob s = hk.obs s.abs := obsM_eq (HandSHeadRun.getT_eq s)
theorem run (w : World) : HandSHeadRun.RunEq Rw (PySem.W.view Rw.prog [35]) hk ob 4000 loose w := by
  intro os
  kernel_rfl
theorem facts {P : Program} {w : World} {K : PySem.W.Frag} {h : Heap} {mg : Str → Option Value} {f : Addr} (X : K.In h) (G : h.Ns mainGlobals mg) (hfa : mg ("law" : Str) = some (.ref f)) (c : SaysM src K) (hl : src.law 35 DEP 63) :
    ∃ (fd : FuncData) (sp : Sp), (∀ (s : Shared) (u : Value), BindsTo s fd ⟨[u], []⟩ [("_law_script", u)]) ∧ (∀ (H : Hp) (a : Addr) (ns : List Int), ns.length ≤ 63 → L2.Only H → L2.SqL K H a (ns.map V.int) → sp [.ref a] H (fun v _ => v = .bl true) fun _ _ _ => False) ∧
      ∀ base : Heap, K.In base → base.Ns mainGlobals mg → L2.FnOk P w K mg base (CXE P) (2 * (DEP + 1) + 2) f fd ["_law_script"] sp :=
  src_law X G hfa c cks.1 cks.2.1 cks.2.2.1 cks.2.2.2 bn (ld := d35) rfl rfl rfl rfl rfl hl
abbrev P : Prog := src.prog
theorem u_NoRow___init__ {n : Nat} {v0 v1 : Val} {S : Store} : callN P (n + 1) f_NoRow___init__ [v0, v1] S = (evalS P (callN P n) b_NoRow___init__ [some v0, some v1] S).fin := rfl
@[simp] theorem dfl_NoRow___init__ : P.dfl f_NoRow___init__ = [] := rfl
theorem u_Twice___init__ {n : Nat} {v0 v1 : Val} {S : Store} : callN P (n + 1) f_Twice___init__ [v0, v1] S = (evalS P (callN P n) b_Twice___init__ [some v0, some v1] S).fin := rfl
@[simp] theorem dfl_Twice___init__ : P.dfl f_Twice___init__ = [] := rfl
theorem u_NoLabel___init__ {n : Nat} {v0 v1 : Val} {S : Store} : callN P (n + 1) f_NoLabel___init__ [v0, v1] S = (evalS P (callN P n) b_NoLabel___init__ [some v0, some v1] S).fin := rfl
@[simp] theorem dfl_NoLabel___init__ : P.dfl f_NoLabel___init__ = [] := rfl
theorem u_first_of {n : Nat} {v0 : Val} {S : Store} : callN P (n + 1) f_first_of [v0] S = (evalS P (callN P n) b_first_of [some v0] S).fin := rfl
@[simp] theorem dfl_first_of : P.dfl f_first_of = [] := rfl
theorem u_spot_of {n : Nat} {v0 v1 : Val} {S : Store} : callN P (n + 1) f_spot_of [v0, v1] S = (evalS P (callN P n) b_spot_of [some v0, some v1, none, none] S).fin := rfl
@[simp] theorem dfl_spot_of : P.dfl f_spot_of = [] := rfl
theorem u_Shelf___init__ {n : Nat} {v0 : Val} {S : Store} : callN P (n + 1) f_Shelf___init__ [v0] S = (evalS P (callN P n) b_Shelf___init__ [some v0] S).fin := rfl
@[simp] theorem dfl_Shelf___init__ : P.dfl f_Shelf___init__ = [] := rfl
theorem u_Shelf_store {n : Nat} {v0 v1 : Val} {S : Store} : callN P (n + 1) f_Shelf_store [v0, v1] S = (evalS P (callN P n) b_Shelf_store [some v0, some v1] S).fin := rfl
@[simp] theorem dfl_Shelf_store : P.dfl f_Shelf_store = [] := rfl
theorem u_Shelf_placed {n : Nat} {v0 v1 v2 : Val} {S : Store} : callN P (n + 1) f_Shelf_placed [v0, v1, v2] S = (evalS P (callN P n) b_Shelf_placed [some v0, some v1, some v2, none, none, none, none, none] S).fin := rfl
@[simp] theorem dfl_Shelf_placed : P.dfl f_Shelf_placed = [] := rfl
theorem u_Shelf_worded {n : Nat} {v0 v1 v2 : Val} {S : Store} : callN P (n + 1) f_Shelf_worded [v0, v1, v2] S = (evalS P (callN P n) b_Shelf_worded [some v0, some v1, some v2, none] S).fin := rfl
@[simp] theorem dfl_Shelf_worded : P.dfl f_Shelf_worded = [] := rfl
theorem u_Shelf_look {n : Nat} {v0 v1 v2 v3 : Val} {S : Store} : callN P (n + 1) f_Shelf_look [v0, v1, v2, v3] S = (evalS P (callN P n) b_Shelf_look [some v0, some v1, some v2, some v3, none, none, none] S).fin := rfl
@[simp] theorem dfl_Shelf_look : P.dfl f_Shelf_look = [] := rfl
theorem u_Shelf_loaded {n : Nat} {v0 v1 v2 v3 : Val} {S : Store} : callN P (n + 1) f_Shelf_loaded [v0, v1, v2, v3] S = (evalS P (callN P n) b_Shelf_loaded [some v0, some v1, some v2, some v3] S).fin := rfl
@[simp] theorem dfl_Shelf_loaded : P.dfl f_Shelf_loaded = [] := rfl
theorem u_Shelf_leave {n : Nat} {v0 v1 : Val} {S : Store} : callN P (n + 1) f_Shelf_leave [v0, v1] S = (evalS P (callN P n) b_Shelf_leave [some v0, some v1, none] S).fin := rfl
@[simp] theorem dfl_Shelf_leave : P.dfl f_Shelf_leave = [] := rfl
theorem u_Shelf_throw {n : Nat} {v0 v1 : Val} {S : Store} : callN P (n + 1) f_Shelf_throw [v0, v1] S = (evalS P (callN P n) b_Shelf_throw [some v0, some v1, none, none] S).fin := rfl
@[simp] theorem dfl_Shelf_throw : P.dfl f_Shelf_throw = [] := rfl
theorem u_Shelf_stores {n : Nat} {v0 : Val} {S : Store} : callN P (n + 1) f_Shelf_stores [v0] S = (evalS P (callN P n) b_Shelf_stores [some v0] S).fin := rfl
@[simp] theorem dfl_Shelf_stores : P.dfl f_Shelf_stores = [] := rfl
theorem u_Shelf_loads {n : Nat} {v0 : Val} {S : Store} : callN P (n + 1) f_Shelf_loads [v0] S = (evalS P (callN P n) b_Shelf_loads [some v0] S).fin := rfl
@[simp] theorem dfl_Shelf_loads : P.dfl f_Shelf_loads = [] := rfl
theorem u_Lcell_at {n : Nat} {v0 v1 : Val} {S : Store} : callN P (n + 1) f_Lcell_at [v0, v1] S = (evalS P (callN P n) b_Lcell_at [some v0, some v1] S).fin := rfl
@[simp] theorem dfl_Lcell_at : P.dfl f_Lcell_at = [] := rfl
theorem u_Lmixed {n : Nat} {v0 v1 v2 v3 : Val} {S : Store} : callN P (n + 1) f_Lmixed [v0, v1, v2, v3] S = (evalS P (callN P n) b_Lmixed [some v0, some v1, some v2, some v3] S).fin := rfl
@[simp] theorem dfl_Lmixed : P.dfl f_Lmixed = [] := rfl
theorem u_Lalike {n : Nat} {v0 v1 : Val} {S : Store} : callN P (n + 1) f_Lalike [v0, v1] S = (evalS P (callN P n) b_Lalike [some v0, some v1, none, none] S).fin := rfl
@[simp] theorem dfl_Lalike : P.dfl f_Lalike = [] := rfl
theorem u_Ldo {n : Nat} {v0 v1 : Val} {S : Store} : callN P (n + 1) f_Ldo [v0, v1] S = (evalS P (callN P n) b_Ldo [some v0, some v1, none] S).fin := rfl
@[simp] theorem dfl_Ldo : P.dfl f_Ldo = [] := rfl
theorem u_Lclass {n : Nat} {v0 : Val} {S : Store} : callN P (n + 1) f_Lclass [v0] S = (evalS P (callN P n) b_Lclass [some v0] S).fin := rfl
@[simp] theorem dfl_Lclass : P.dfl f_Lclass = [] := rfl
theorem u_Lrefused {n : Nat} {v0 v1 : Val} {S : Store} : callN P (n + 1) f_Lrefused [v0, v1] S = (evalS P (callN P n) b_Lrefused [some v0, some v1, none, none] S).fin := rfl
@[simp] theorem dfl_Lrefused : P.dfl f_Lrefused = [] := rfl
theorem u_Lrefused_by_any {n : Nat} {v0 v1 : Val} {S : Store} : callN P (n + 1) f_Lrefused_by_any [v0, v1] S = (evalS P (callN P n) b_Lrefused_by_any [some v0, some v1] S).fin := rfl
@[simp] theorem dfl_Lrefused_by_any : P.dfl f_Lrefused_by_any = [] := rfl
theorem u_Lticket_by {n : Nat} {v0 v1 v2 v3 v4 : Val} {S : Store} : callN P (n + 1) f_Lticket_by [v0, v1, v2, v3, v4] S = (evalS P (callN P n) b_Lticket_by [some v0, some v1, some v2, some v3, some v4, none, none] S).fin := rfl
@[simp] theorem dfl_Lticket_by : P.dfl f_Lticket_by = [] := rfl
theorem u_Ldeed {n : Nat} {v0 v1 v2 v3 v4 : Val} {S : Store} : callN P (n + 1) f_Ldeed [v0, v1, v2, v3, v4] S = (evalS P (callN P n) b_Ldeed [some v0, some v1, some v2, some v3, some v4, none, none, none, none] S).fin := rfl
@[simp] theorem dfl_Ldeed : P.dfl f_Ldeed = [] := rfl
theorem u_Lallowed {n : Nat} {v0 v1 v2 : Val} {S : Store} : callN P (n + 1) f_Lallowed [v0, v1, v2] S = (evalS P (callN P n) b_Lallowed [some v0, some v1, some v2, none, none, none, none] S).fin := rfl
@[simp] theorem dfl_Lallowed : P.dfl f_Lallowed = [] := rfl
theorem u_Lticket {n : Nat} {v0 : Val} {S : Store} : callN P (n + 1) f_Lticket [v0] S = (evalS P (callN P n) b_Lticket [some v0] S).fin := rfl
@[simp] theorem dfl_Lticket : P.dfl f_Lticket = [] := rfl
theorem u_Lbehind {n : Nat} {v0 v1 v2 : Val} {S : Store} : callN P (n + 1) f_Lbehind [v0, v1, v2] S = (evalS P (callN P n) b_Lbehind [some v0, some v1, some v2, none, none, none] S).fin := rfl
@[simp] theorem dfl_Lbehind : P.dfl f_Lbehind = [] := rfl
theorem u_Lanswer {n : Nat} {v0 v1 : Val} {S : Store} : callN P (n + 1) f_Lanswer [v0, v1] S = (evalS P (callN P n) b_Lanswer [some v0, some v1, none, none, none] S).fin := rfl
@[simp] theorem dfl_Lanswer : P.dfl f_Lanswer = [] := rfl
theorem u_Ldone {n : Nat} {v0 v1 v2 v3 : Val} {S : Store} : callN P (n + 1) f_Ldone [v0, v1, v2, v3] S = (evalS P (callN P n) b_Ldone [some v0, some v1, some v2, some v3] S).fin := rfl
@[simp] theorem dfl_Ldone : P.dfl f_Ldone = [] := rfl
theorem u_Lthrown {n : Nat} {v0 v1 v2 v3 : Val} {S : Store} : callN P (n + 1) f_Lthrown [v0, v1, v2, v3] S = (evalS P (callN P n) b_Lthrown [some v0, some v1, some v2, some v3, none, none, none, none] S).fin := rfl
@[simp] theorem dfl_Lthrown : P.dfl f_Lthrown = [] := rfl
theorem u_Lstepped {n : Nat} {v0 v1 v2 v3 v4 : Val} {S : Store} : callN P (n + 1) f_Lstepped [v0, v1, v2, v3, v4] S = (evalS P (callN P n) b_Lstepped [some v0, some v1, some v2, some v3, some v4, none] S).fin := rfl
@[simp] theorem dfl_Lstepped : P.dfl f_Lstepped = [] := rfl
theorem u_Lspot {n : Nat} {v0 v1 v2 v3 v4 : Val} {S : Store} : callN P (n + 1) f_Lspot [v0, v1, v2, v3, v4] S = (evalS P (callN P n) b_Lspot [some v0, some v1, some v2, some v3, some v4, none, none] S).fin := rfl
@[simp] theorem dfl_Lspot : P.dfl f_Lspot = [] := rfl
theorem u_Ldue {n : Nat} {v0 v1 v2 : Val} {S : Store} : callN P (n + 1) f_Ldue [v0, v1, v2] S = (evalS P (callN P n) b_Ldue [some v0, some v1, some v2, none, none, none, none] S).fin := rfl
@[simp] theorem dfl_Ldue : P.dfl f_Ldue = [] := rfl
theorem u_Llooks {n : Nat} {v0 v1 v2 v3 : Val} {S : Store} : callN P (n + 1) f_Llooks [v0, v1, v2, v3] S = (evalS P (callN P n) b_Llooks [some v0, some v1, some v2, some v3, none] S).fin := rfl
@[simp] theorem dfl_Llooks : P.dfl f_Llooks = [] := rfl
theorem u_Ltold {n : Nat} {v0 v1 : Val} {S : Store} : callN P (n + 1) f_Ltold [v0, v1] S = (evalS P (callN P n) b_Ltold [some v0, some v1] S).fin := rfl
@[simp] theorem dfl_Ltold : P.dfl f_Ltold = [] := rfl
theorem u_law {n : Nat} {v0 : Val} {S : Store} : callN P (n + 1) f_law [v0] S = (evalS P (callN P n) b_law [some v0, none, none, none, none, none, none, none, none, none, none, none] S).fin := rfl
@[simp] theorem dfl_law : P.dfl f_law = [] := rfl
@[simp] theorem meth_Shelf_store : P.meth C_Shelf M_store = some f_Shelf_store := rfl
@[simp] theorem meth_Shelf_placed : P.meth C_Shelf M_placed = some f_Shelf_placed := rfl
@[simp] theorem meth_Shelf_worded : P.meth C_Shelf M_worded = some f_Shelf_worded := rfl
@[simp] theorem meth_Shelf_look : P.meth C_Shelf M_look = some f_Shelf_look := rfl
@[simp] theorem meth_Shelf_loaded : P.meth C_Shelf M_loaded = some f_Shelf_loaded := rfl
@[simp] theorem meth_Shelf_leave : P.meth C_Shelf M_leave = some f_Shelf_leave := rfl
@[simp] theorem meth_Shelf_throw : P.meth C_Shelf M_throw = some f_Shelf_throw := rfl
@[simp] theorem meth_Shelf_stores : P.meth C_Shelf M_stores = some f_Shelf_stores := rfl
@[simp] theorem meth_Shelf_loads : P.meth C_Shelf M_loads = some f_Shelf_loads := rfl
@[simp] theorem init_Shelf : P.init C_Shelf = some f_Shelf___init__ := rfl
@[simp] theorem sn0 : (Str.ofString "load" = Str.ofString "leave") = False := eq_false (by decide +kernel)
@[simp] theorem sn1 : (Str.ofString "no label" = Str.ofString "leave") = False := eq_false (by decide +kernel)
@[simp] theorem sn2 : (Str.ofString "no row" = Str.ofString "leave") = False := eq_false (by decide +kernel)
@[simp] theorem sn3 : (Str.ofString "place" = Str.ofString "leave") = False := eq_false (by decide +kernel)
@[simp] theorem sn4 : (Str.ofString "store" = Str.ofString "leave") = False := eq_false (by decide +kernel)
@[simp] theorem sn5 : (Str.ofString "word" = Str.ofString "leave") = False := eq_false (by decide +kernel)
@[simp] theorem sn6 : (Str.ofString "leave" = Str.ofString "load") = False := eq_false (by decide +kernel)
@[simp] theorem sn7 : (Str.ofString "no label" = Str.ofString "load") = False := eq_false (by decide +kernel)
@[simp] theorem sn8 : (Str.ofString "no row" = Str.ofString "load") = False := eq_false (by decide +kernel)
@[simp] theorem sn9 : (Str.ofString "place" = Str.ofString "load") = False := eq_false (by decide +kernel)
@[simp] theorem sn10 : (Str.ofString "store" = Str.ofString "load") = False := eq_false (by decide +kernel)
@[simp] theorem sn11 : (Str.ofString "word" = Str.ofString "load") = False := eq_false (by decide +kernel)
@[simp] theorem sn12 : (Str.ofString "leave" = Str.ofString "place") = False := eq_false (by decide +kernel)
@[simp] theorem sn13 : (Str.ofString "load" = Str.ofString "place") = False := eq_false (by decide +kernel)
@[simp] theorem sn14 : (Str.ofString "no label" = Str.ofString "place") = False := eq_false (by decide +kernel)
@[simp] theorem sn15 : (Str.ofString "no row" = Str.ofString "place") = False := eq_false (by decide +kernel)
@[simp] theorem sn16 : (Str.ofString "store" = Str.ofString "place") = False := eq_false (by decide +kernel)
@[simp] theorem sn17 : (Str.ofString "word" = Str.ofString "place") = False := eq_false (by decide +kernel)
@[simp] theorem sn18 : (Str.ofString "leave" = Str.ofString "store") = False := eq_false (by decide +kernel)
@[simp] theorem sn19 : (Str.ofString "load" = Str.ofString "store") = False := eq_false (by decide +kernel)
@[simp] theorem sn20 : (Str.ofString "no label" = Str.ofString "store") = False := eq_false (by decide +kernel)
@[simp] theorem sn21 : (Str.ofString "no row" = Str.ofString "store") = False := eq_false (by decide +kernel)
@[simp] theorem sn22 : (Str.ofString "place" = Str.ofString "store") = False := eq_false (by decide +kernel)
@[simp] theorem sn23 : (Str.ofString "word" = Str.ofString "store") = False := eq_false (by decide +kernel)
@[simp] theorem sn24 : (Str.ofString "leave" = Str.ofString "word") = False := eq_false (by decide +kernel)
@[simp] theorem sn25 : (Str.ofString "load" = Str.ofString "word") = False := eq_false (by decide +kernel)
@[simp] theorem sn26 : (Str.ofString "no label" = Str.ofString "word") = False := eq_false (by decide +kernel)
@[simp] theorem sn27 : (Str.ofString "no row" = Str.ofString "word") = False := eq_false (by decide +kernel)
@[simp] theorem sn28 : (Str.ofString "place" = Str.ofString "word") = False := eq_false (by decide +kernel)
@[simp] theorem sn29 : (Str.ofString "store" = Str.ofString "word") = False := eq_false (by decide +kernel)
@[simp] theorem sub_MillError_Busy : P.sub C_MillError C_Busy = false := rfl
@[simp] theorem sub_Nought_Busy : P.sub C_Nought C_Busy = false := rfl
@[simp] theorem sub_NoPlace_Busy : P.sub C_NoPlace C_Busy = false := rfl
@[simp] theorem sub_NoTicket_Busy : P.sub C_NoTicket C_Busy = false := rfl
@[simp] theorem sub_Busy_Busy : P.sub C_Busy C_Busy = true := rfl
@[simp] theorem sub_Halted_Busy : P.sub C_Halted C_Busy = false := rfl
@[simp] theorem sub_NoRow_Busy : P.sub C_NoRow C_Busy = false := rfl
@[simp] theorem sub_Twice_Busy : P.sub C_Twice C_Busy = false := rfl
@[simp] theorem sub_NoLabel_Busy : P.sub C_NoLabel C_Busy = false := rfl
@[simp] theorem sub_MillError_Halted : P.sub C_MillError C_Halted = false := rfl
@[simp] theorem sub_Nought_Halted : P.sub C_Nought C_Halted = false := rfl
@[simp] theorem sub_NoPlace_Halted : P.sub C_NoPlace C_Halted = false := rfl
@[simp] theorem sub_NoTicket_Halted : P.sub C_NoTicket C_Halted = false := rfl
@[simp] theorem sub_Busy_Halted : P.sub C_Busy C_Halted = false := rfl
@[simp] theorem sub_Halted_Halted : P.sub C_Halted C_Halted = true := rfl
@[simp] theorem sub_NoRow_Halted : P.sub C_NoRow C_Halted = false := rfl
@[simp] theorem sub_Twice_Halted : P.sub C_Twice C_Halted = false := rfl
@[simp] theorem sub_NoLabel_Halted : P.sub C_NoLabel C_Halted = false := rfl
@[simp] theorem sub_MillError_MillError : P.sub C_MillError C_MillError = true := rfl
@[simp] theorem sub_Nought_MillError : P.sub C_Nought C_MillError = true := rfl
@[simp] theorem sub_NoPlace_MillError : P.sub C_NoPlace C_MillError = true := rfl
@[simp] theorem sub_NoTicket_MillError : P.sub C_NoTicket C_MillError = true := rfl
@[simp] theorem sub_Busy_MillError : P.sub C_Busy C_MillError = true := rfl
@[simp] theorem sub_Halted_MillError : P.sub C_Halted C_MillError = true := rfl
@[simp] theorem sub_NoRow_MillError : P.sub C_NoRow C_MillError = true := rfl
@[simp] theorem sub_Twice_MillError : P.sub C_Twice C_MillError = true := rfl
@[simp] theorem sub_NoLabel_MillError : P.sub C_NoLabel C_MillError = true := rfl
@[simp] theorem sub_MillError_NoLabel : P.sub C_MillError C_NoLabel = false := rfl
@[simp] theorem sub_Nought_NoLabel : P.sub C_Nought C_NoLabel = false := rfl
@[simp] theorem sub_NoPlace_NoLabel : P.sub C_NoPlace C_NoLabel = false := rfl
@[simp] theorem sub_NoTicket_NoLabel : P.sub C_NoTicket C_NoLabel = false := rfl
@[simp] theorem sub_Busy_NoLabel : P.sub C_Busy C_NoLabel = false := rfl
@[simp] theorem sub_Halted_NoLabel : P.sub C_Halted C_NoLabel = false := rfl
@[simp] theorem sub_NoRow_NoLabel : P.sub C_NoRow C_NoLabel = false := rfl
@[simp] theorem sub_Twice_NoLabel : P.sub C_Twice C_NoLabel = false := rfl
@[simp] theorem sub_NoLabel_NoLabel : P.sub C_NoLabel C_NoLabel = true := rfl
@[simp] theorem sub_MillError_NoPlace : P.sub C_MillError C_NoPlace = false := rfl
@[simp] theorem sub_Nought_NoPlace : P.sub C_Nought C_NoPlace = false := rfl
@[simp] theorem sub_NoPlace_NoPlace : P.sub C_NoPlace C_NoPlace = true := rfl
@[simp] theorem sub_NoTicket_NoPlace : P.sub C_NoTicket C_NoPlace = false := rfl
@[simp] theorem sub_Busy_NoPlace : P.sub C_Busy C_NoPlace = false := rfl
@[simp] theorem sub_Halted_NoPlace : P.sub C_Halted C_NoPlace = false := rfl
@[simp] theorem sub_NoRow_NoPlace : P.sub C_NoRow C_NoPlace = false := rfl
@[simp] theorem sub_Twice_NoPlace : P.sub C_Twice C_NoPlace = false := rfl
@[simp] theorem sub_NoLabel_NoPlace : P.sub C_NoLabel C_NoPlace = false := rfl
@[simp] theorem sub_MillError_NoRow : P.sub C_MillError C_NoRow = false := rfl
@[simp] theorem sub_Nought_NoRow : P.sub C_Nought C_NoRow = false := rfl
@[simp] theorem sub_NoPlace_NoRow : P.sub C_NoPlace C_NoRow = false := rfl
@[simp] theorem sub_NoTicket_NoRow : P.sub C_NoTicket C_NoRow = false := rfl
@[simp] theorem sub_Busy_NoRow : P.sub C_Busy C_NoRow = false := rfl
@[simp] theorem sub_Halted_NoRow : P.sub C_Halted C_NoRow = false := rfl
@[simp] theorem sub_NoRow_NoRow : P.sub C_NoRow C_NoRow = true := rfl
@[simp] theorem sub_Twice_NoRow : P.sub C_Twice C_NoRow = false := rfl
@[simp] theorem sub_NoLabel_NoRow : P.sub C_NoLabel C_NoRow = false := rfl
@[simp] theorem sub_MillError_NoTicket : P.sub C_MillError C_NoTicket = false := rfl
@[simp] theorem sub_Nought_NoTicket : P.sub C_Nought C_NoTicket = false := rfl
@[simp] theorem sub_NoPlace_NoTicket : P.sub C_NoPlace C_NoTicket = false := rfl
@[simp] theorem sub_NoTicket_NoTicket : P.sub C_NoTicket C_NoTicket = true := rfl
@[simp] theorem sub_Busy_NoTicket : P.sub C_Busy C_NoTicket = false := rfl
@[simp] theorem sub_Halted_NoTicket : P.sub C_Halted C_NoTicket = false := rfl
@[simp] theorem sub_NoRow_NoTicket : P.sub C_NoRow C_NoTicket = false := rfl
@[simp] theorem sub_Twice_NoTicket : P.sub C_Twice C_NoTicket = false := rfl
@[simp] theorem sub_NoLabel_NoTicket : P.sub C_NoLabel C_NoTicket = false := rfl
@[simp] theorem sub_MillError_Nought : P.sub C_MillError C_Nought = false := rfl
@[simp] theorem sub_Nought_Nought : P.sub C_Nought C_Nought = true := rfl
@[simp] theorem sub_NoPlace_Nought : P.sub C_NoPlace C_Nought = false := rfl
@[simp] theorem sub_NoTicket_Nought : P.sub C_NoTicket C_Nought = false := rfl
@[simp] theorem sub_Busy_Nought : P.sub C_Busy C_Nought = false := rfl
@[simp] theorem sub_Halted_Nought : P.sub C_Halted C_Nought = false := rfl
@[simp] theorem sub_NoRow_Nought : P.sub C_NoRow C_Nought = false := rfl
@[simp] theorem sub_Twice_Nought : P.sub C_Twice C_Nought = false := rfl
@[simp] theorem sub_NoLabel_Nought : P.sub C_NoLabel C_Nought = false := rfl
@[simp] theorem sub_MillError_Twice : P.sub C_MillError C_Twice = false := rfl
@[simp] theorem sub_Nought_Twice : P.sub C_Nought C_Twice = false := rfl
@[simp] theorem sub_NoPlace_Twice : P.sub C_NoPlace C_Twice = false := rfl
@[simp] theorem sub_NoTicket_Twice : P.sub C_NoTicket C_Twice = false := rfl
@[simp] theorem sub_Busy_Twice : P.sub C_Busy C_Twice = false := rfl
@[simp] theorem sub_Halted_Twice : P.sub C_Halted C_Twice = false := rfl
@[simp] theorem sub_NoRow_Twice : P.sub C_NoRow C_Twice = false := rfl
@[simp] theorem sub_Twice_Twice : P.sub C_Twice C_Twice = true := rfl
@[simp] theorem sub_NoLabel_Twice : P.sub C_NoLabel C_Twice = false := rfl
end LW
end
section
open MP PySem
namespace LW
/-! whose a place of the store is -/
structure Stp (C : Nat → Prop) (col : Nat → Nat) (S : Store) (col' : Nat → Nat) (S' : Store) : Prop where
  len : S.length ≤ S'.length
  old : ∀ l, l < S.length → col' l = col l
  keep : ∀ l, l < S.length → ¬ C (col l) → S'[l]? = S[l]?
theorem Stp.refl {C col S} : Stp C col S col S := ⟨Nat.le_refl _, fun _ _ => rfl, fun _ _ _ => rfl⟩
theorem Stp.trans {C col S col1 S1 col2 S2} (a : Stp C col S col1 S1) (b : Stp C col1 S1 col2 S2) : Stp C col S col2 S2 := by
  refine ⟨Nat.le_trans a.len b.len, fun l h => ?_, fun l h hc => ?_⟩
  · rw [b.old l (Nat.lt_of_lt_of_le h a.len), a.old l h]
  · rw [b.keep l (Nat.lt_of_lt_of_le h a.len) (by rw [a.old l h]; exact hc), a.keep l h hc]
theorem Stp.mono {C D : Nat → Prop} {col S col' S'} (a : Stp C col S col' S') (h : ∀ c, C c → D c) : Stp D col S col' S' := ⟨a.len, a.old, fun l hl hc => a.keep l hl fun z => hc (h _ z)⟩
/-- a thing of another stays -/
theorem Stp.at_ {C col S col' S' l o d} (a : Stp C col S col' S') (h : S[l]? = some o) (hc : col l = d) (hd : ¬ C d) : S'[l]? = some o ∧ col' l = d := ⟨by rw [a.keep l (x_low h) (by rw [hc]; exact hd)]; exact h, by rw [a.old l (x_low h)]; exact hc⟩
theorem Stp.set {C : Nat → Prop} {col S l} (o : Ob) (h : C (col l)) : Stp C col S col (S.set l o) := ⟨by simp, fun _ _ => rfl, fun m hm hc => x_set_ne (fun e => hc (e ▸ h))⟩
/-- new places have the colour c -/
def paint (col : Nat → Nat) (n c : Nat) : Nat → Nat := fun l => if n ≤ l then c else col l
theorem paint_old {col : Nat → Nat} {n c l : Nat} (h : l < n) : paint col n c l = col l := by unfold paint; rw [if_neg (by omega)]
theorem paint_new {col : Nat → Nat} {n c l : Nat} (h : n ≤ l) : paint col n c l = c := by unfold paint; rw [if_pos h]
theorem Stp.app {C : Nat → Prop} {col S} (T : Store) (c : Nat) : Stp C col S (paint col S.length c) (S ++ T) := ⟨by simp, fun l h => paint_old h, fun l h _ => List.getElem?_append_left h⟩
theorem Stp.app' {C : Nat → Prop} {col S} (T : Store) : Stp C col S col (S ++ T) := ⟨by simp, fun l h => rfl, fun l h _ => List.getElem?_append_left h⟩
theorem at_m1 {α : Type} {xs : List α} {x : α} : MP.atI (xs ++ [x]) (-1) = some x := by
  unfold MP.atI ixOf
  rw [if_neg (by decide), if_pos (by simp; omega)]
  simp
  have : (-1 + ((xs.length : Int) + 1)).toNat = xs.length := by omega
  rw [this]
  simp
theorem at_nat {α : Type} {xs : List α} {k : Nat} : MP.atI xs (k : Int) = xs[k]? := by
  unfold MP.atI ixOf
  rw [if_pos (by omega)]
  by_cases h : k < xs.length
  · rw [if_pos (by omega)]; simp
  · rw [if_neg (by omega), List.getElem?_eq_none (by omega)]; rfl
theorem ix_nat {n k : Nat} (h : k < n) : MP.ixOf n (k : Int) = some k := by
  unfold ixOf
  rw [if_pos (by omega), if_pos (by omega)]; simp
theorem take_snoc {α : Type} {xs : List α} {i : Nat} (h : i < xs.length) : xs.take (i+1) = xs.take i ++ [xs[i]] := (List.take_append_getElem h).symm
section
variable {P : Prog} {cf : Nat → List Val → Store → R Val} {a b o e es : E} {ρ : Ev} {S S1 S2 : Store} {v w : Val} {op : BOp} {f k : Nat} {vs : List Val}
theorem ev_bin (h1 : evalE P cf a ρ S = .ok v S1) (h2 : evalE P cf b ρ S1 = .ok w S2) : evalE P cf (.bin op a b) ρ S = binopS op v w S2 := by
  simp only [evalE, h1, h2, R.bind]
theorem ev_app {r : R Val} (h1 : evalE P cf o ρ S = .ok v S1) (hp : bmPre S1 .append v = true) (h2 : evalE P cf a ρ S1 = .ok w S2) (h3 : bmop S2 .append v [w] = r) : evalE P cf (.bm .append o (.cons a .nil)) ρ S = r := by
  simp only [evalE, evalEs, h1, h2, R.bind, if_pos hp, h3]
theorem ev_call {r : R Val} (h1 : evalEs P cf es ρ S = .ok vs S1) (h2 : cf f (vs ++ (P.dfl f).drop k) S1 = r) : evalE P cf (.call f es k) ρ S = r := by
  simp only [evalE, h1, R.bind, h2]
theorem evs_nil : evalEs P cf .nil ρ S = .ok [] S := by simp only [evalEs]
theorem evs_cons (h1 : evalE P cf a ρ S = .ok v S1) (h2 : evalEs P cf b ρ S1 = .ok vs S2) : evalEs P cf (.cons a b) ρ S = .ok (v :: vs) S2 := by
  simp only [evalEs, h1, h2, R.bind]
theorem es_ex (h1 : evalE P cf e ρ S = .ok v S1) : evalS P cf (.ex e) ρ S = .nx ρ S1 := by
  simp only [evalS, h1, R.toF]
theorem es_set {i : Nat} {ρ1 : Ev} (h1 : evalE P cf e ρ S = .ok v S1) (h2 : ρ.put i v = some ρ1) : evalS P cf (.asg (.name i) e) ρ S = .nx ρ1 S1 := by
  simp only [evalS, evalT, h1, R.toF, h2]
theorem es_ite {c : Bool} {x y : MP.S} (h1 : evalE P cf e ρ S = .ok (.bl c) S1) : evalS P cf (.ite e x y) ρ S = if c = true then evalS P cf x ρ S1 else evalS P cf y ρ S1 := by
  simp only [evalS, h1, R.toF]
theorem es_ret (h1 : evalE P cf e ρ S = .ok v S1) : evalS P cf (.ret e) ρ S = .rt v S1 := by
  simp only [evalS, h1, R.toF]
theorem es_one {r : F} {x : MP.S} (h : evalS P cf x ρ S = r) : evalS P cf (.cons x .nil) ρ S = r := by
  rw [evalS.eq_2, h]
  cases r <;> simp [evalS.eq_1]
theorem ev_cmp {c : COp} (h1 : evalE P cf a ρ S = .ok v S1) (h2 : evalE P cf b ρ S1 = .ok w S2) : evalE P cf (.cmp c a b) ρ S = MP.ofO ((cmpop S2 c v w).map .bl) S2 := by
  simp only [evalE, h1, h2, R.bind]
theorem ev_not {t : Bool} (h1 : evalE P cf a ρ S = .ok (.bl t) S1) : evalE P cf (.not a) ρ S = .ok (.bl (!t)) S1 := by
  simp only [evalE, h1, R.bind]
theorem ev_or_f {r : R Val} (h1 : evalE P cf a ρ S = .ok (.bl false) S1) (h2 : evalE P cf (.or (.cons b es)) ρ S1 = r) : evalE P cf (.or (.cons a (.cons b es))) ρ S = r := by
  rw [← h2]
  simp only [evalE]
  conv => lhs; unfold evalOr
  simp [h1, E.isNil]
theorem ev_or_t (h1 : evalE P cf a ρ S = .ok (.bl true) S1) : evalE P cf (.or (.cons a (.cons b es))) ρ S = .ok (.bl true) S1 := by
  simp only [evalE]
  conv => lhs; unfold evalOr
  simp [h1, E.isNil]
theorem ev_or_1 (h1 : evalE P cf a ρ S = .ok v S1) : evalE P cf (.or (.cons a .nil)) ρ S = .ok v S1 := by
  simp only [evalE]
  conv => lhs; unfold evalOr
  simp [h1, E.isNil]
theorem ev_and_t {r : R Val} (h1 : evalE P cf a ρ S = .ok (.bl true) S1) (h2 : evalE P cf (.and (.cons b es)) ρ S1 = r) : evalE P cf (.and (.cons a (.cons b es))) ρ S = r := by
  rw [← h2]
  simp only [evalE]
  conv => lhs; unfold evalAnd
  simp [h1, E.isNil]
theorem ev_and_f (h1 : evalE P cf a ρ S = .ok (.bl false) S1) : evalE P cf (.and (.cons a (.cons b es))) ρ S = .ok (.bl false) S1 := by
  simp only [evalE]
  conv => lhs; unfold evalAnd
  simp [h1, E.isNil]
theorem ev_and_1 (h1 : evalE P cf a ρ S = .ok v S1) : evalE P cf (.and (.cons a .nil)) ρ S = .ok v S1 := by
  simp only [evalE]
  conv => lhs; unfold evalAnd
  simp [h1, E.isNil]
theorem ev_ix (h1 : evalE P cf a ρ S = .ok v S1) (h2 : evalE P cf b ρ S1 = .ok w S2) : evalE P cf (.ix a b) ρ S = MP.ofO (getI S2 v w) S2 := by
  simp only [evalE, h1, h2, R.bind]
theorem ev_var {i : Nat} (h : ρ[i]? = some (some v)) : evalE P cf (.var i) ρ S = .ok v S := by
  simp only [evalE, h]
theorem ev_tup (h : evalEs P cf es ρ S = .ok vs S1) (hl : vs.length ≤ 1000000) : evalE P cf (.tup es) ρ S = .ok (.tup vs) S1 := by
  simp only [evalE, h, R.bind, x_lim, if_pos hl]
theorem ev_list {xs : List Val} (h : evalL P cf a ρ S = .ok (.tmp xs) S1) : evalE P cf (.list a) ρ S = .ok (.ref S1.length) (S1 ++ [.lst xs]) := by
  simp only [evalE, h, R.bind]
theorem ev_fld {l c : Nat} {fs : List (Nat × Val)} (h1 : evalE P cf o ρ S = .ok (.ref l) S1) (h2 : S1[l]? = some (.ins c fs)) (h3 : fget fs f = some v) : evalE P cf (.fld o f) ρ S = .ok v S1 := by
  simp only [evalE, h1, R.bind, h2, h3, MP.ofO]
theorem ev_meth {m l c g : Nat} {fs : List (Nat × Val)} {r : R Val} (h1 : evalE P cf o ρ S = .ok (.ref l) S1) (h2 : S1[l]? = some (.ins c fs)) (h3 : P.meth c m = some g) (h4 : evalEs P cf es ρ S1 = .ok vs S2) (h5 : cf g (.ref l :: (vs ++ (P.dfl g).drop k)) S2 = r) : evalE P cf (.meth o m es k) ρ S = r := by
  simp only [evalE, h1, R.bind, h2, h3, h4, h5]
end
theorem s_trio {P : Prog} {cf : Nat → List Val → Store → R Val} {a b c u : S} {ρ ρ1 : Ev} {S S1 : Store} (h : evalS P cf (.cons a (.cons b (.cons c .nil))) ρ S = .nx ρ1 S1) : evalS P cf (.cons a (.cons b (.cons c u))) ρ S = evalS P cf u ρ1 S1 := by
  rw [evalS.eq_2] at h ⊢
  cases q : evalS P cf a ρ S with
  | nx ρ2 S2 =>
    rw [q] at h
    simp only [x_fb_nx] at h ⊢
    exact s_duo h
  | _ => rw [q] at h; cases h
def oi : Option Int → Val
  | none => .non
  | some i => .int i
section
variable {cf : Nat → List Val → Store → R Val} {a b c e e1 e2 x : E} {es : E} {u : MP.S} {ρ ρ1 : Ev} {S S1 S2 : Store} {v w : Val} {vs xs ys : List Val} {p q : Nat} {i j : Int} {is : List Nat}
theorem ev_int (i : Int) : evalE P cf (.int i) ρ S = .ok (.int i) S := by simp only [evalE]
theorem ev_str (x : Str) : evalE P cf (.str x) ρ S = .ok (.str x) S := by simp only [evalE]
theorem ev_non : evalE P cf .non ρ S = .ok .non S := by simp only [evalE]
theorem ev_bl (t : Bool) : evalE P cf (.bl t) ρ S = .ok (.bl t) S := by simp only [evalE]
theorem ev_ixl (h1 : evalE P cf a ρ S = .ok (.ref p) S1) (h2 : evalE P cf b ρ S1 = .ok (.int i) S2) (hl : S2[p]? = some (.lst xs)) (ha : MP.atI xs i = some v) : evalE P cf (.ix a b) ρ S = .ok v S2 := by
  refine (ev_ix h1 h2).trans ?_
  rw [x_getR, hl]
  simp only [ha]
  rfl
theorem ev_ixt (h1 : evalE P cf a ρ S = .ok (.tup xs) S1) (h2 : evalE P cf b ρ S1 = .ok (.int i) S2) (ha : MP.atI xs i = some v) : evalE P cf (.ix a b) ρ S = .ok v S2 := by
  refine (ev_ix h1 h2).trans ?_
  rw [x_getTup, ha]
  rfl
theorem ev_lenl (h : evalE P cf a ρ S = .ok (.ref p) S1) (hl : S1[p]? = some (.lst xs)) : evalE P cf (.bl1 .len a) ρ S = .ok (.int (xs.length : Int)) S1 := by
  have h2 : bl1op S1 .len (.ref p) = some (.int (xs.length : Int)) := by rw [x_lenR, hl]
  rw [evalE.eq_def]
  simp only [h, x_bind_ok, h2, x_ofO_some]
theorem ev_tupL {v : LV} (h : evalL P cf a ρ S = .ok v S1) (hn : v.now S1 = some xs) : evalE P cf (.tupL a) ρ S = .ok (.tup xs) S1 := by
  rw [evalE.eq_def]
  simp only [h, x_bind_ok, hn, Option.map_some, x_ofO_some]
theorem es_hit (hc : evalE P cf c ρ S = .ok (.bl true) S1) {x y : MP.S} {r : F} (h : evalS P cf x ρ S1 = r) : evalS P cf (.ite c x y) ρ S = r := by
  rw [es_ite hc, if_pos rfl]; exact h
theorem es_off (hc : evalE P cf c ρ S = .ok (.bl false) S1) : evalS P cf (.ite c u .nil) ρ S = .nx ρ S1 := by
  rw [es_ite hc, if_neg (by decide)]; simp only [evalS]
theorem es_els (hc : evalE P cf c ρ S = .ok (.bl false) S1) {x y : MP.S} {r : F} (h : evalS P cf y ρ S1 = r) : evalS P cf (.ite c x y) ρ S = r := by
  rw [es_ite hc, if_neg (by decide)]; exact h
theorem es_names (h1 : evalE P cf a ρ S = .ok (.tup xs) S1) (h2 : ρ.puts is xs = some ρ1) : evalS P cf (.asg (.names is) a) ρ S = .nx ρ1 S1 := by
  simp only [evalS, h1, x_toF_ok, evalT, lvOf, Option.bind_some, LV.now, h2]
theorem es_namesL (h1 : evalE P cf a ρ S = .ok (.ref q) S1) (hq : S1[q]? = some (.lst xs)) (h2 : ρ.puts is xs = some ρ1) : evalS P cf (.asg (.names is) a) ρ S = .nx ρ1 S1 := by
  simp only [evalS, h1, x_toF_ok, evalT, lvOf, x_lst hq, Option.map_some, Option.bind_some, LV.now, h2]
theorem ev_isN (h : evalE P cf a ρ S = .ok v S1) : evalE P cf (.isN a) ρ S = .ok (.bl (v.isNon)) S1 := by
  simp only [evalE, h, x_bind_ok]
theorem ev_notN (h : evalE P cf a ρ S = .ok v S1) : evalE P cf (.notN a) ρ S = .ok (.bl (!v.isNon)) S1 := by
  simp only [evalE, h, x_bind_ok]
theorem ev_or2 {k l : Bool} (h1 : evalE P cf a ρ S = .ok (.bl k) S) (h2 : evalE P cf b ρ S = .ok (.bl l) S) : evalE P cf (.or (.cons a (.cons b .nil))) ρ S = .ok (.bl (k || l)) S := by
  cases k with
  | true => exact ev_or_t h1
  | false => exact ev_or_f h1 (ev_or_1 h2)
theorem ev_and2 {k l : Bool} (h1 : evalE P cf a ρ S = .ok (.bl k) S) (h2 : k = true → evalE P cf b ρ S = .ok (.bl l) S) : evalE P cf (.and (.cons a (.cons b .nil))) ρ S = .ok (.bl (k && l)) S := by
  cases k with
  | true => exact ev_and_t h1 (ev_and_1 (h2 rfl))
  | false => exact ev_and_f h1
theorem ev_eqI (h1 : evalE P cf a ρ S = .ok (.int i) S1) (h2 : evalE P cf b ρ S1 = .ok (.int j) S2) : evalE P cf (.cmp .eq a b) ρ S = .ok (.bl (decide (i = j))) S2 := (ev_cmp h1 h2).trans (by rw [x_eq, x_eqI]; rfl)
theorem ev_neI (h1 : evalE P cf a ρ S = .ok (.int i) S1) (h2 : evalE P cf b ρ S1 = .ok (.int j) S2) : evalE P cf (.cmp .ne a b) ρ S = .ok (.bl (!decide (i = j))) S2 := (ev_cmp h1 h2).trans (by rw [x_ne, x_eqI]; rfl)
theorem ev_ltI (h1 : evalE P cf a ρ S = .ok (.int i) S1) (h2 : evalE P cf b ρ S1 = .ok (.int j) S2) : evalE P cf (.cmp .lt a b) ρ S = .ok (.bl (decide (i < j))) S2 := (ev_cmp h1 h2).trans rfl
theorem ev_gtI (h1 : evalE P cf a ρ S = .ok (.int i) S1) (h2 : evalE P cf b ρ S1 = .ok (.int j) S2) : evalE P cf (.cmp .gt a b) ρ S = .ok (.bl (decide (j < i))) S2 := (ev_cmp h1 h2).trans rfl
theorem ev_leI (h1 : evalE P cf a ρ S = .ok (.int i) S1) (h2 : evalE P cf b ρ S1 = .ok (.int j) S2) : evalE P cf (.cmp .le a b) ρ S = .ok (.bl (decide (i ≤ j))) S2 := (ev_cmp h1 h2).trans rfl
theorem ev_geI (h1 : evalE P cf a ρ S = .ok (.int i) S1) (h2 : evalE P cf b ρ S1 = .ok (.int j) S2) : evalE P cf (.cmp .ge a b) ρ S = .ok (.bl (decide (j ≤ i))) S2 := (ev_cmp h1 h2).trans rfl
theorem ev_add (h1 : evalE P cf a ρ S = .ok (.int i) S1) (h2 : evalE P cf b ρ S1 = .ok (.int j) S2) : evalE P cf (.bin .add a b) ρ S = .ok (.int (i + j)) S2 := (ev_bin h1 h2).trans x_add
theorem ev_sub (h1 : evalE P cf a ρ S = .ok (.int i) S1) (h2 : evalE P cf b ρ S1 = .ok (.int j) S2) : evalE P cf (.bin .sub a b) ρ S = .ok (.int (i - j)) S2 := (ev_bin h1 h2).trans x_sub
theorem ev_mod (h1 : evalE P cf a ρ S = .ok (.int i) S1) (h2 : evalE P cf b ρ S1 = .ok (.int j) S2) (hj : 0 < j) : evalE P cf (.bin .mod a b) ρ S = .ok (.int (i % j)) S2 := (ev_bin h1 h2).trans (x_mod hj)
theorem ev_fdiv (h1 : evalE P cf a ρ S = .ok (.int i) S1) (h2 : evalE P cf b ρ S1 = .ok (.int j) S2) (hj : 0 < j) (hk : j < 18446744073709551616) : evalE P cf (.bin .fdiv a b) ρ S = .ok (.int (i / j)) S2 := (ev_bin h1 h2).trans (x_fdiv hj (mid_of (by omega) hk))
theorem ev_cat (h1 : evalE P cf a ρ S = .ok (.ref p) S1) (h2 : evalE P cf b ρ S1 = .ok (.ref q) S2) (hp : S2[p]? = some (.lst xs)) (hq : S2[q]? = some (.lst ys)) (hl : xs.length + ys.length ≤ 1000) : evalE P cf (.bin .add a b) ρ S = .ok (.ref S2.length) (S2 ++ [.lst (xs ++ ys)]) := by
  rw [ev_bin h1 h2]
  show catS (.ref p) (.ref q) S2 = _
  simp only [catS, hp, hq, x_lim]
  rw [if_pos (by omega)]
theorem el_lits (h : evalEs P cf es ρ S = .ok vs S1) (hl : vs.length ≤ 1000) : evalL P cf (.llit es) ρ S = .ok (.tmp vs) S1 := by
  simp only [evalL, h, x_bind_ok]
  rw [if_pos (by rw [x_lim]; omega)]
theorem el_nil : evalL P cf (.llit .nil) ρ S = .ok (.tmp []) S := el_lits (es := .nil) (by simp only [evalEs]) (by simp)
theorem ev_nil : evalE P cf (.list (.llit .nil)) ρ S = .ok (.ref S.length) (S ++ [.lst []]) := ev_list el_nil
theorem cp_lst (h : evalE P cf a ρ S = .ok (.ref q) S1) (hq : S1[q]? = some (.lst xs)) : evalE P cf (.list (.lcopy (.lof a))) ρ S = .ok (.ref S1.length) (S1 ++ [.lst xs]) := by
  refine ev_list ?_
  simp only [evalL, h, x_bind_ok, lvOf, x_lst hq, Option.map_some, x_ofO_some, LV.now]
/-- items one behind the other: what a + [..] is -/
theorem el_cat {v w : LV} (h1 : evalL P cf a ρ S = .ok v S1) (h2 : evalL P cf b ρ S1 = .ok w S2) (hv : v.lst S2 = some xs) (hw : w.lst S2 = some ys) (hl : xs.length + ys.length ≤ 1000) : evalL P cf (.lcat a b) ρ S = .ok (.tmp (xs ++ ys)) S2 := by
  rw [evalL.eq_5, h1, x_bind_ok, h2, x_bind_ok]
  simp only [hv, hw, x_lim]
  rw [if_pos (by omega)]
theorem el_ref (h : evalE P cf a ρ S = .ok (.ref q) S1) (hq : S1[q]? = some (.lst xs)) : evalL P cf (.lof a) ρ S = .ok (.trk q) S1 := el_lst h (x_lst hq)
theorem ll_trk (hq : S[q]? = some (.lst xs)) : (LV.trk q).lst S = some xs := by simp only [LV.lst, hq]
theorem ev_app1 (h1 : evalE P cf a ρ S = .ok (.ref q) S) (hq : S[q]? = some (.lst xs)) (hx : evalE P cf x ρ S = .ok v S1) (hq1 : S1[q]? = some (.lst xs)) (hl : xs.length ≤ 999) : evalE P cf (.list (.lcat (.lof a) (.llit (.cons x .nil)))) ρ S = .ok (.ref S1.length) (S1 ++ [.lst (xs ++ [v])]) :=
  ev_list (el_cat (el_ref h1 hq) (el_lits (evs_cons hx evs_nil) (by simp)) (ll_trk hq1) rfl (by simp; omega))
theorem ev_slhi (ha : evalE P cf a ρ S = .ok (.ref p) S1) (hw : S2[p]? = some (.lst xs)) (hb : evalE P cf b ρ S1 = .ok (.int i) S2) (hn : b.isNo = false) : evalE P cf (.sl a .noPart b) ρ S = .ok (.ref S2.length) (S2 ++ [.lst (MP.cut xs none (some i))]) := by
  have h := x_lst hw
  have hno : E.isNo .noPart = true := rfl
  simp [evalE, ha, hb, hn, hno, optI, h]
theorem ev_sllo (ha : evalE P cf a ρ S = .ok (.ref p) S1) (hw : S2[p]? = some (.lst xs)) (hb : evalE P cf b ρ S1 = .ok (.int i) S2) (hn : b.isNo = false) : evalE P cf (.sl a b .noPart) ρ S = .ok (.ref S2.length) (S2 ++ [.lst (MP.cut xs (some i) none)]) := by
  have h := x_lst hw
  have hno : E.isNo .noPart = true := rfl
  simp [evalE, ha, hb, hn, hno, optI, h]
theorem x_inR (hq : S[q]? = some (.lst xs)) : cmpop S .isin v (.ref q) = inVs v xs := by
  cases v <;> simp only [cmpop, hq]
theorem x_ninR (hq : S[q]? = some (.lst xs)) : cmpop S .notin v (.ref q) = (inVs v xs).map (!·) := by
  cases v <;> simp only [cmpop, hq]
theorem inVs_int (t : Int) (ts : List Int) : inVs (.int t) (ts.map Val.int) = some (decide (t ∈ ts)) := by
  unfold inVs
  have h : (ts.map Val.int).all flat = true := by
    rw [List.all_eq_true]
    intro v hv
    obtain ⟨o, _, rfl⟩ := List.mem_map.mp hv
    rfl
  rw [h]
  simp only [flat, Bool.and_self, if_true, List.any_map]
  congr 1
  rw [Bool.eq_iff_iff]
  simp only [List.any_eq_true, Function.comp, decide_eq_true_eq, sEq]
  constructor
  · rintro ⟨o, ho, e⟩
    rw [← e]; exact ho
  · intro ho
    exact ⟨t, ho, rfl⟩
theorem es_app (h1 : evalE P cf a ρ S = .ok (.ref q) S) (hq : S[q]? = some (.lst xs)) (hx : evalE P cf x ρ S = .ok v S1) (hq1 : S1[q]? = some (.lst ys)) (hl : ys.length < 900) : evalS P cf (.ex (.bm .append a (.cons x .nil))) ρ S = .nx ρ (S1.set q (.lst (ys ++ [v]))) := by
  have hb : bmPre S .append (.ref q) = true := by simp [bmPre, Store.lstAt, hq]
  have hlt : ys.length < LIM := by first | (rw [x_lim2]; omega) | (rw [x_lim]; omega)
  have hm : bmop S1 .append (.ref q) [v] = .ok .non (S1.set q (.lst (ys ++ [v]))) := by simp [bmop, Store.put, hq1, hlt]
  refine es_ex (v := .non) ?_
  rw [evalE.eq_def]
  simp only [h1, x_bind_ok, hb, if_true, evs_cons hx evs_nil, hm]
theorem ev_sortK {v : LV} {f : Nat} {ks : List Int} (h : evalL P cf a ρ S = .ok v S1) (ht : v.isT = false) (hn : v.now S1 = some xs) (hk : keysN cf f (P.dfl f) xs S1 = some (ks, S2)) : evalL P cf (.lsortK a f) ρ S = .ok (.tmp (sortK ks xs)) S2 := by
  simp only [evalL, h, x_bind_ok, ht, hn, hk, Bool.false_eq_true, if_false]
/-- xs[:A] + [v] + xs[B:] -/
theorem ev_put {y : E} {A B : Nat} (hS : S[p]? = some (.lst xs)) (hy : ∀ X, evalE P cf y ρ X = .ok (.ref p) X) (ha : ∀ X, evalE P cf a ρ X = .ok (.int (A : Int)) X) (hb : ∀ X, evalE P cf b ρ X = .ok (.int (B : Int)) X) (na : a.isNo = false) (nb : b.isNo = false) (he : ∀ X : Store, X[p]? = some (.lst xs) → evalE P cf e ρ X = .ok v X) (hl : xs.length ≤ 400) :
    evalE P cf (.list (.lcat (.lcat (.lof (.sl y .noPart a)) (.llit (.cons e .nil))) (.lof (.sl y b .noPart)))) ρ S = .ok (.ref (S.length + 2)) (S ++ [.lst (xs.take A), .lst (xs.drop B), .lst (xs.take A ++ [v] ++ xs.drop B)]) := by
  have h1 := ev_slhi (cf := cf) (ρ := ρ) (hy S) hS (ha S) na
  rw [cut_hi] at h1
  obtain ⟨X, hX⟩ : ∃ X, S ++ [Ob.lst (xs.take A)] = X := ⟨_, rfl⟩
  rw [hX] at h1
  have hXs : X[p]? = some (.lst xs) := by rw [← hX]; exact x_old hS
  have hXp : X[S.length]? = some (.lst (xs.take A)) := by rw [← hX]; simp
  have h2 := ev_sllo (cf := cf) (ρ := ρ) (hy X) hXs (hb X) nb
  rw [cut_lo] at h2
  obtain ⟨Y, hY⟩ : ∃ Y, X ++ [Ob.lst (xs.drop B)] = Y := ⟨_, rfl⟩
  rw [hY] at h2
  have hYq : Y[X.length]? = some (.lst (xs.drop B)) := by rw [← hY]; simp
  have hYp : Y[S.length]? = some (.lst (xs.take A)) := by rw [← hY]; exact x_old hXp
  have l1 := el_cat (el_ref h1 hXp) (el_lits (evs_cons (he X hXs) evs_nil) (by simp)) (ll_trk hXp) rfl (by simp; omega)
  have e1 := ev_list (el_cat l1 (el_ref h2 hYq) rfl (ll_trk hYq) (by simp; omega))
  rw [e1]
  have hYl : Y.length = S.length + 2 := by rw [← hY, ← hX]; simp
  rw [hYl, ← hY, ← hX]
  simp
theorem range_map {α β : Type} (xs : List α) (g : α → β) (d : β) : (List.range xs.length).map (fun i => (xs.map g).getD i d) = xs.map g := by
  apply List.ext_getElem
  · simp
  · intro i h1 h2
    have h1' : i < xs.length := by simpa using h1
    simp [List.getD, h1']
end
theorem in_run (t : Int) : ∀ (i : Nat) (L : List Int), (∀ j : Nat, j < i → t + (j : Int) ∈ L) → i ≤ L.length
  | 0, _, _ => Nat.zero_le _
  | i + 1, L, h => by
    have h1 := h i (Nat.lt_succ_self i)
    have h2 := in_run t i (L.erase (t + (i : Int))) fun j hj => (List.mem_erase_of_ne (by omega)).mpr (h j (by omega))
    rw [List.length_erase_of_mem h1] at h2
    have := List.length_pos_of_mem h1
    omega
section
variable {P : Prog} {cf : Nat → List Val → Store → R Val} {e : E} {ρ : Ev} {S S1 : Store} {xs : List Val} {q : Nat} {tg : List Nat} {one : Bool} {u : MP.S}
theorem ei_rev (he : evalE P cf e ρ S = .ok (.ref q) S1) (h : S1.lstAt q = some xs) : evalI P cf (.irev (.lof e)) ρ S = .ok ⟨xs.length, fun i S => (LV.trk q).get (xs.length - 1 - i) S, fun _ => true, none⟩ S1 := by
  have h2 := el_lst (P := P) (cf := cf) he h
  simp only [evalI, h2, R.bind, x_nowK, h, Option.map_some, MP.ofO]
/-- backwards over a list that stays -/
theorem for_rev_any (he : evalE P cf e ρ S = .ok (.ref q) S1) (I : Nat → Ev → Store → Prop) (Q : F → Prop) (kp : ∀ i ρ S, I i ρ S → S.lstAt q = some xs)
    (step : ∀ i ρ S (hi : i < xs.length), I i ρ S → ∃ ρ1, Ev.tg tg one (xs.reverse[i]'(by simpa using hi)) ρ = some ρ1 ∧ match evalS P cf u ρ1 S with
      | .nx ρ2 S2 => I (i + 1) ρ2 S2
      | .ct ρ2 S2 => I (i + 1) ρ2 S2
      | .bk ρ2 S2 => Q (.nx ρ2 S2)
      | r => Q r) (last : ∀ ρ S, I xs.length ρ S → Q (.nx ρ S)) (h0 : I 0 ρ S1) : Q (evalS P cf (.for_ tg one (.irev (.lof e)) u) ρ S) :=
  for_any (ei_rev he (kp _ _ _ h0)) rfl I Q (fun i ρ S hi h => by
    have hi : i < xs.length := hi
    obtain ⟨ρ1, s1, s2⟩ := step i ρ S hi h
    refine ⟨_, ρ1, ?_, s1, s2⟩
    simp [kp _ _ _ h, List.getElem_reverse]) (fun ρ S h => ⟨rfl, last ρ S h⟩) h0
end
/-! stores and loads -/
structure Sto where
  t : Int
  p : Option Int
  w : Option Int
structure Lod where
  t : Int
  p : Int
  g : Option Int
def Sto.val (s : Sto) : Val := .tup [.int s.t, oi s.p, oi s.w]
def Lod.val (s : Lod) : Val := .tup [.int s.t, .int s.p, oi s.g]
structure ShelfAt (c : Nat) (col : Nat → Nat) (o : Nat) (ss : List Sto) (ls : List Lod) (S : Store) (A B : Nat) : Prop where
  ho : S[o]? = some (.ins C_Shelf [(F_kept_stores, .ref A), (F_kept_loads, .ref B)])
  hA : S[A]? = some (.lst (ss.map Sto.val))
  hB : S[B]? = some (.lst (ls.map Lod.val))
  co : col o = c
  cA : col A = c
  cB : col B = c
  ne : A ≠ B
  fs : ss.length ≤ 10000
  fl : ls.length ≤ 10000
def IsShelf (c : Nat) (col : Nat → Nat) (o : Nat) (ss : List Sto) (ls : List Lod) (S : Store) : Prop := ∃ A B, ShelfAt c col o ss ls S A B
theorem IsShelf.frame {C c col o ss ls S col' S'} (h : IsShelf c col o ss ls S) (a : Stp C col S col' S') (hc : ¬ C c) : IsShelf c col' o ss ls S' := by
  obtain ⟨A, B, h⟩ := h
  have f := fun l o (e : S[l]? = some o) (z : col l = c) => a.at_ e z hc
  exact ⟨A, B, (f _ _ h.ho h.co).1, (f _ _ h.hA h.cA).1, (f _ _ h.hB h.cB).1, (f _ _ h.ho h.co).2, (f _ _ h.hA h.cA).2, (f _ _ h.hB h.cB).2, h.ne, h.fs, h.fl⟩
def kt : Val → Int
  | .tup (.int i :: _) => i
  | _ => 0
def spotI (vs : List Val) (t : Int) : Option Nat := vs.findIdx? fun v => decide (kt v = t)
def on : Option Nat → Val
  | none => .non
  | some j => .int (j : Int)
def Hd (v : Val) : Prop := ∃ i r, v = .tup (.int i :: r)
theorem spot_body (j : Nat) (i t : Int) (r : List Val) (a0 : Option Val) (n : Nat) (S : Store) : evalS P (callN P n) l_spot_of_0 [a0, some (.int t), some (.int (j : Int)), some (.tup (.int i :: r))] S = if i = t then .rt (.int (j : Int)) S else .nx [a0, some (.int t), some (.int (j : Int)), some (.tup (.int i :: r))] S := by
  by_cases h : i = t
  · simp [-getElem?_neg, -getElem?_pos, List.getElem?_cons_zero, List.getElem?_cons_succ, evalS.eq_1, evalS.eq_2, evalS.eq_3, evalS.eq_4, evalS.eq_5, evalS.eq_6, evalS.eq_7, evalS.eq_8, evalS.eq_9, evalS.eq_10, evalS.eq_11, evalS.eq_12, evalS.eq_13, evalS.eq_14, evalS.eq_15, evalS.eq_16, evalE.eq_1, evalE.eq_2, evalE.eq_3, evalE.eq_4, evalE.eq_5, evalE.eq_6, evalE.eq_7, evalE.eq_8, evalE.eq_9, evalE.eq_10, evalE.eq_11, evalE.eq_12, evalE.eq_13, evalE.eq_14, evalE.eq_15, evalE.eq_16, evalE.eq_17, evalE.eq_18, evalE.eq_19, evalE.eq_20, evalE.eq_21, evalE.eq_22, evalE.eq_23, evalE.eq_24, evalE.eq_25, evalE.eq_26, evalE.eq_27, evalE.eq_28, evalE.eq_29, evalE.eq_30, evalE.eq_31, evalE.eq_32, evalE.eq_33, evalE.eq_34, evalE.eq_35, evalE.eq_36, evalEs.eq_1, evalEs.eq_2, evalL.eq_1, evalL.eq_2, evalL.eq_3, evalL.eq_4, evalL.eq_5, evalL.eq_6, evalL.eq_7, evalL.eq_8, evalL.eq_9, evalI.eq_1, evalI.eq_2, evalI.eq_3, evalI.eq_4, evalI.eq_5, evalI.eq_6, evalI.eq_7, evalI.eq_8, evalI.eq_9, evalI.eq_10, evalT, evalAnd.eq_1, evalOr.eq_1, evalH.eq_1, evalH.eq_2, handle, E.isNil, E.isNo, Val.isNon, truth, optI, x_lim, x_lim2, Ev.puts.eq_1, Ev.puts.eq_2, lvOf.eq_1, lvOf.eq_2, x_ofO_ite, x_bind_ite, x_toF_ite, x_fb_ite, x_fin_ite, j_ok, j_rt, j_nx, j_int, j_str, j_bl, j_cons, j_some, j_isNon, j_bl2, j_bl3, j_and, j_or, x_mod, x_fdv, x_pw, x_shr, x_mul, x_mulL, x_mulM, x_mulN, l_spot_of_0, h]
  · simp [-getElem?_neg, -getElem?_pos, List.getElem?_cons_zero, List.getElem?_cons_succ, evalS.eq_1, evalS.eq_2, evalS.eq_3, evalS.eq_4, evalS.eq_5, evalS.eq_6, evalS.eq_7, evalS.eq_8, evalS.eq_9, evalS.eq_10, evalS.eq_11, evalS.eq_12, evalS.eq_13, evalS.eq_14, evalS.eq_15, evalS.eq_16, evalE.eq_1, evalE.eq_2, evalE.eq_3, evalE.eq_4, evalE.eq_5, evalE.eq_6, evalE.eq_7, evalE.eq_8, evalE.eq_9, evalE.eq_10, evalE.eq_11, evalE.eq_12, evalE.eq_13, evalE.eq_14, evalE.eq_15, evalE.eq_16, evalE.eq_17, evalE.eq_18, evalE.eq_19, evalE.eq_20, evalE.eq_21, evalE.eq_22, evalE.eq_23, evalE.eq_24, evalE.eq_25, evalE.eq_26, evalE.eq_27, evalE.eq_28, evalE.eq_29, evalE.eq_30, evalE.eq_31, evalE.eq_32, evalE.eq_33, evalE.eq_34, evalE.eq_35, evalE.eq_36, evalEs.eq_1, evalEs.eq_2, evalL.eq_1, evalL.eq_2, evalL.eq_3, evalL.eq_4, evalL.eq_5, evalL.eq_6, evalL.eq_7, evalL.eq_8, evalL.eq_9, evalI.eq_1, evalI.eq_2, evalI.eq_3, evalI.eq_4, evalI.eq_5, evalI.eq_6, evalI.eq_7, evalI.eq_8, evalI.eq_9, evalI.eq_10, evalT, evalAnd.eq_1, evalOr.eq_1, evalH.eq_1, evalH.eq_2, handle, E.isNil, E.isNo, Val.isNon, truth, optI, x_lim, x_lim2, Ev.puts.eq_1, Ev.puts.eq_2, lvOf.eq_1, lvOf.eq_2, x_ofO_ite, x_bind_ite, x_toF_ite, x_fb_ite, x_fin_ite, j_ok, j_rt, j_nx, j_int, j_str, j_bl, j_cons, j_some, j_isNon, j_bl2, j_bl3, j_and, j_or, x_mod, x_fdv, x_pw, x_shr, x_mul, x_mulL, x_mulM, x_mulN, l_spot_of_0, h]
theorem spot_ok (l : Nat) (vs : List Val) (hv : ∀ v ∈ vs, Hd v) (t : Int) (S : Store) (h : S[l]? = some (.lst vs)) (n : Nat) : callN P (n+1) f_spot_of [.ref l, .int t] S = .ok (on (spotI vs t)) S := by
  have key := for_enumK_any (P := P) (cf := callN P n) (e := .var 0) (u := l_spot_of_0) (tg := [2, 3]) (one := false) (xs := vs) (q := l) (ρ := [some (.ref l), some (.int t), none, none]) (S := S) (S1 := S) (ev_var rfl)
    (fun i ρ S' => ∃ a b, ρ = [some (.ref l), some (.int t), a, b] ∧ S' = S ∧ ∀ j (hj : j < vs.length), j < i → kt vs[j] ≠ t)
    (fun r => (F.bind r fun ρ1 S1 => evalS P (callN P n) (.cons (.ret .non) .nil) ρ1 S1) = .rt (on (spotI vs t)) S)
    (fun i ρ S' ⟨_, _, _, q, _⟩ => by rw [q]; exact x_lst h) (fun i ρ S' hi ⟨a, b, q1, q2, q3⟩ => by
      subst q1; subst q2
      obtain ⟨k, r, e⟩ := hv _ (List.getElem_mem hi)
      refine ⟨[some (.ref l), some (.int t), some (.int (i : Int)), some vs[i]], by simp [Ev.puts], ?_⟩
      rw [e, spot_body]
      have ek : kt vs[i] = k := by rw [e]; rfl
      by_cases z : k = t
      · rw [if_pos z]
        have hs : spotI vs t = some i := by
          unfold spotI
          rw [List.findIdx?_eq_some_iff_getElem]
          exact ⟨hi, by simp [ek, z], fun j hj => by simpa using q3 j (by omega) hj⟩
        rw [hs]; rfl
      · rw [if_neg z]
        refine ⟨_, _, rfl, rfl, fun j hj h2 => ?_⟩
        by_cases w : j = i
        · subst w; rw [ek]; exact z
        · exact q3 j hj (by omega)) (fun ρ S' ⟨a, b, q1, q2, q3⟩ => by
      subst q1; subst q2
      have hs : spotI vs t = none := by
        unfold spotI
        rw [List.findIdx?_eq_none_iff]
        intro x hx
        obtain ⟨j, hj, rfl⟩ := List.getElem_of_mem hx
        simpa using q3 j hj hj
      rw [hs]
      simp [-getElem?_neg, -getElem?_pos, List.getElem?_cons_zero, List.getElem?_cons_succ, evalS.eq_1, evalS.eq_2, evalS.eq_3, evalS.eq_4, evalS.eq_5, evalS.eq_6, evalS.eq_7, evalS.eq_8, evalS.eq_9, evalS.eq_10, evalS.eq_11, evalS.eq_12, evalS.eq_13, evalS.eq_14, evalS.eq_15, evalS.eq_16, evalE.eq_1, evalE.eq_2, evalE.eq_3, evalE.eq_4, evalE.eq_5, evalE.eq_6, evalE.eq_7, evalE.eq_8, evalE.eq_9, evalE.eq_10, evalE.eq_11, evalE.eq_12, evalE.eq_13, evalE.eq_14, evalE.eq_15, evalE.eq_16, evalE.eq_17, evalE.eq_18, evalE.eq_19, evalE.eq_20, evalE.eq_21, evalE.eq_22, evalE.eq_23, evalE.eq_24, evalE.eq_25, evalE.eq_26, evalE.eq_27, evalE.eq_28, evalE.eq_29, evalE.eq_30, evalE.eq_31, evalE.eq_32, evalE.eq_33, evalE.eq_34, evalE.eq_35, evalE.eq_36, evalEs.eq_1, evalEs.eq_2, evalL.eq_1, evalL.eq_2, evalL.eq_3, evalL.eq_4, evalL.eq_5, evalL.eq_6, evalL.eq_7, evalL.eq_8, evalL.eq_9, evalI.eq_1, evalI.eq_2, evalI.eq_3, evalI.eq_4, evalI.eq_5, evalI.eq_6, evalI.eq_7, evalI.eq_8, evalI.eq_9, evalI.eq_10, evalT, evalAnd.eq_1, evalOr.eq_1, evalH.eq_1, evalH.eq_2, handle, E.isNil, E.isNo, Val.isNon, truth, optI, x_lim, x_lim2, Ev.puts.eq_1, Ev.puts.eq_2, lvOf.eq_1, lvOf.eq_2, x_ofO_ite, x_bind_ite, x_toF_ite, x_fb_ite, x_fin_ite, j_ok, j_rt, j_nx, j_int, j_str, j_bl, j_cons, j_some, j_isNon, j_bl2, j_bl3, j_and, j_or, x_mod, x_fdv, x_pw, x_shr, x_mul, x_mulL, x_mulM, x_mulN, on]) ⟨none, none, rfl, rfl, fun j _ h => absurd h (Nat.not_lt_zero _)⟩
  rw [u_spot_of]
  unfold b_spot_of
  refine s_fin (?_ : _ = MP.F.rt _ _) rfl
  rw [evalS.eq_2]
  exact key
theorem sto_rw (ss : List Sto) : ∀ v ∈ ss.map Sto.val, Hd v := fun v hv => by
  obtain ⟨s, _, rfl⟩ := List.mem_map.mp hv
  exact ⟨_, _, rfl⟩
theorem lod_rw (ss : List Lod) : ∀ v ∈ ss.map Lod.val, Hd v := fun v hv => by
  obtain ⟨s, _, rfl⟩ := List.mem_map.mp hv
  exact ⟨_, _, rfl⟩
def spotS (ss : List Sto) (t : Int) : Option Nat := ss.findIdx? fun s => decide (s.t = t)
def spotL (ss : List Lod) (t : Int) : Option Nat := ss.findIdx? fun s => decide (s.t = t)
theorem spot_sto (ss : List Sto) (t : Int) : spotI (ss.map Sto.val) t = spotS ss t := by
  unfold spotI spotS
  rw [List.findIdx?_map]
  rfl
theorem spot_lod (ss : List Lod) (t : Int) : spotI (ss.map Lod.val) t = spotL ss t := by
  unfold spotI spotL
  rw [List.findIdx?_map]
  rfl
theorem on_isN (o : Option Nat) : (on o).isNon = o.isNone := by cases o <;> rfl
def lastT (ss : List Sto) : Option Int := ss.getLast?.map (·.t)
/-- whether a store may come -/
def stoOk (ss : List Sto) (ls : List Lod) (t : Int) : Prop := (∀ k, lastT ss = some k → k < t) ∧ spotL ls t = none
theorem shelf_store {c col o ss ls S} (h : IsShelf c col o ss ls S) (t : Int) (ht : stoOk ss ls t) (hl : ss.length < 10000) (n : Nat) : ∃ S', callN P (n+2) f_Shelf_store [.ref o, .int t] S = .ok .non S' ∧ IsShelf c col o (ss ++ [⟨t, none, none⟩]) ls S' ∧ Stp (· = c) col S col S' := by
  obtain ⟨A, B, h⟩ := h
  have h1 := h.ho; have h2 := h.hA; have h3 := h.hB
  have hlen : ss.length < 1000000 := by omega
  have e := spot_ok B (ls.map Lod.val) (lod_rw ls) t S h3 n
  rw [spot_lod, ht.2] at e
  refine ⟨S.set A (.lst (ss.map Sto.val ++ [.tup [.int t, .non, .non]])), ?_, ⟨A, B, ?_, ?_, ?_, h.co, h.cA, h.cB, h.ne, by simp; omega, h.fl⟩, Stp.set _ h.cA⟩
  · rw [u_Shelf_store]
    rcases List.eq_nil_or_concat ss with q | ⟨xs, x, q⟩
    · rw [q] at h2
      simp at h2
      simp [-getElem?_neg, -getElem?_pos, List.getElem?_cons_zero, List.getElem?_cons_succ, evalS.eq_1, evalS.eq_2, evalS.eq_3, evalS.eq_4, evalS.eq_5, evalS.eq_6, evalS.eq_7, evalS.eq_8, evalS.eq_9, evalS.eq_10, evalS.eq_11, evalS.eq_12, evalS.eq_13, evalS.eq_14, evalS.eq_15, evalS.eq_16, evalE.eq_1, evalE.eq_2, evalE.eq_3, evalE.eq_4, evalE.eq_5, evalE.eq_6, evalE.eq_7, evalE.eq_8, evalE.eq_9, evalE.eq_10, evalE.eq_11, evalE.eq_12, evalE.eq_13, evalE.eq_14, evalE.eq_15, evalE.eq_16, evalE.eq_17, evalE.eq_18, evalE.eq_19, evalE.eq_20, evalE.eq_21, evalE.eq_22, evalE.eq_23, evalE.eq_24, evalE.eq_25, evalE.eq_26, evalE.eq_27, evalE.eq_28, evalE.eq_29, evalE.eq_30, evalE.eq_31, evalE.eq_32, evalE.eq_33, evalE.eq_34, evalE.eq_35, evalE.eq_36, evalEs.eq_1, evalEs.eq_2, evalL.eq_1, evalL.eq_2, evalL.eq_3, evalL.eq_4, evalL.eq_5, evalL.eq_6, evalL.eq_7, evalL.eq_8, evalL.eq_9, evalI.eq_1, evalI.eq_2, evalI.eq_3, evalI.eq_4, evalI.eq_5, evalI.eq_6, evalI.eq_7, evalI.eq_8, evalI.eq_9, evalI.eq_10, evalT, evalAnd.eq_1, evalOr.eq_1, evalH.eq_1, evalH.eq_2, handle, E.isNil, E.isNo, Val.isNon, truth, optI, x_lim, x_lim2, Ev.puts.eq_1, Ev.puts.eq_2, lvOf.eq_1, lvOf.eq_2, x_ofO_ite, x_bind_ite, x_toF_ite, x_fb_ite, x_fin_ite, j_ok, j_rt, j_nx, j_int, j_str, j_bl, j_cons, j_some, j_isNon, j_bl2, j_bl3, j_and, j_or, x_mod, x_fdv, x_pw, x_shr, x_mul, x_mulL, x_mulM, x_mulN, b_Shelf_store, h1, h2, e, on, Store.put, q]
    · rw [List.concat_eq_append] at q
      have hx := ht.1 x.t (by rw [q]; simp [lastT])
      have hx' : ¬ t ≤ x.t := by omega
      have q2 : ss.map Sto.val = xs.map Sto.val ++ [x.val] := by rw [q]; simp
      rw [q2] at h2 ⊢
      have hlen : xs.length + 1 < 1000000 := by rw [q] at hlen; simpa using hlen
      have e2 : MP.atI (xs.map Sto.val ++ [x.val]) (-1) = some x.val := at_m1
      have e3 : (0 < (xs.length + 1 : Int)) = True := eq_true (by omega)
      have e4 : getI S x.val (.int 0) = some (.int x.t) := by simp [Sto.val]
      generalize x.val = xv at *
      simp [-getElem?_neg, -getElem?_pos, List.getElem?_cons_zero, List.getElem?_cons_succ, evalS.eq_1, evalS.eq_2, evalS.eq_3, evalS.eq_4, evalS.eq_5, evalS.eq_6, evalS.eq_7, evalS.eq_8, evalS.eq_9, evalS.eq_10, evalS.eq_11, evalS.eq_12, evalS.eq_13, evalS.eq_14, evalS.eq_15, evalS.eq_16, evalE.eq_1, evalE.eq_2, evalE.eq_3, evalE.eq_4, evalE.eq_5, evalE.eq_6, evalE.eq_7, evalE.eq_8, evalE.eq_9, evalE.eq_10, evalE.eq_11, evalE.eq_12, evalE.eq_13, evalE.eq_14, evalE.eq_15, evalE.eq_16, evalE.eq_17, evalE.eq_18, evalE.eq_19, evalE.eq_20, evalE.eq_21, evalE.eq_22, evalE.eq_23, evalE.eq_24, evalE.eq_25, evalE.eq_26, evalE.eq_27, evalE.eq_28, evalE.eq_29, evalE.eq_30, evalE.eq_31, evalE.eq_32, evalE.eq_33, evalE.eq_34, evalE.eq_35, evalE.eq_36, evalEs.eq_1, evalEs.eq_2, evalL.eq_1, evalL.eq_2, evalL.eq_3, evalL.eq_4, evalL.eq_5, evalL.eq_6, evalL.eq_7, evalL.eq_8, evalL.eq_9, evalI.eq_1, evalI.eq_2, evalI.eq_3, evalI.eq_4, evalI.eq_5, evalI.eq_6, evalI.eq_7, evalI.eq_8, evalI.eq_9, evalI.eq_10, evalT, evalAnd.eq_1, evalOr.eq_1, evalH.eq_1, evalH.eq_2, handle, E.isNil, E.isNo, Val.isNon, truth, optI, x_lim, x_lim2, Ev.puts.eq_1, Ev.puts.eq_2, lvOf.eq_1, lvOf.eq_2, x_ofO_ite, x_bind_ite, x_toF_ite, x_fb_ite, x_fin_ite, j_ok, j_rt, j_nx, j_int, j_str, j_bl, j_cons, j_some, j_isNon, j_bl2, j_bl3, j_and, j_or, x_mod, x_fdv, x_pw, x_shr, x_mul, x_mulL, x_mulM, x_mulN, b_Shelf_store, h1, h2, e, on, Store.put, e2, e3, e4, hx', hlen]
  · rw [x_set_ne (fun z => by rw [z, h2] at h1; cases h1)]; exact h1
  · rw [x_set_at h2]; simp [Sto.val, oi]
  · rw [x_set_ne (Ne.symm h.ne)]; exact h3
theorem shelf_nostore {c col o ss ls S} (h : IsShelf c col o ss ls S) (t : Int) (ht : ¬ stoOk ss ls t) (n : Nat) : callN P (n+2) f_Shelf_store [.ref o, .int t] S = .exc C_NoTicket [] S := by
  obtain ⟨A, B, h⟩ := h
  have h1 := h.ho; have h2 := h.hA; have h3 := h.hB
  have e := spot_ok B (ls.map Lod.val) (lod_rw ls) t S h3 n
  rw [spot_lod] at e
  rw [u_Shelf_store]
  rcases List.eq_nil_or_concat ss with q | ⟨xs, x, q⟩
  · have hn : ∃ j, spotL ls t = some j := by
      cases z : spotL ls t with
      | some j => exact ⟨j, rfl⟩
      | none => exact absurd ⟨by rw [q]; simp [lastT], z⟩ ht
    obtain ⟨j, hj⟩ := hn
    rw [hj] at e
    rw [q] at h2
    simp at h2
    simp [-getElem?_neg, -getElem?_pos, List.getElem?_cons_zero, List.getElem?_cons_succ, evalS.eq_1, evalS.eq_2, evalS.eq_3, evalS.eq_4, evalS.eq_5, evalS.eq_6, evalS.eq_7, evalS.eq_8, evalS.eq_9, evalS.eq_10, evalS.eq_11, evalS.eq_12, evalS.eq_13, evalS.eq_14, evalS.eq_15, evalS.eq_16, evalE.eq_1, evalE.eq_2, evalE.eq_3, evalE.eq_4, evalE.eq_5, evalE.eq_6, evalE.eq_7, evalE.eq_8, evalE.eq_9, evalE.eq_10, evalE.eq_11, evalE.eq_12, evalE.eq_13, evalE.eq_14, evalE.eq_15, evalE.eq_16, evalE.eq_17, evalE.eq_18, evalE.eq_19, evalE.eq_20, evalE.eq_21, evalE.eq_22, evalE.eq_23, evalE.eq_24, evalE.eq_25, evalE.eq_26, evalE.eq_27, evalE.eq_28, evalE.eq_29, evalE.eq_30, evalE.eq_31, evalE.eq_32, evalE.eq_33, evalE.eq_34, evalE.eq_35, evalE.eq_36, evalEs.eq_1, evalEs.eq_2, evalL.eq_1, evalL.eq_2, evalL.eq_3, evalL.eq_4, evalL.eq_5, evalL.eq_6, evalL.eq_7, evalL.eq_8, evalL.eq_9, evalI.eq_1, evalI.eq_2, evalI.eq_3, evalI.eq_4, evalI.eq_5, evalI.eq_6, evalI.eq_7, evalI.eq_8, evalI.eq_9, evalI.eq_10, evalT, evalAnd.eq_1, evalOr.eq_1, evalH.eq_1, evalH.eq_2, handle, E.isNil, E.isNo, Val.isNon, truth, optI, x_lim, x_lim2, Ev.puts.eq_1, Ev.puts.eq_2, lvOf.eq_1, lvOf.eq_2, x_ofO_ite, x_bind_ite, x_toF_ite, x_fb_ite, x_fin_ite, j_ok, j_rt, j_nx, j_int, j_str, j_bl, j_cons, j_some, j_isNon, j_bl2, j_bl3, j_and, j_or, x_mod, x_fdv, x_pw, x_shr, x_mul, x_mulL, x_mulM, x_mulN, b_Shelf_store, h1, h2, e, on]
  · rw [List.concat_eq_append] at q
    rw [q] at h2
    simp at h2
    have e2 : MP.atI (xs.map Sto.val ++ [x.val]) (-1) = some x.val := at_m1
    have e3 : (0 < (xs.length + 1 : Int)) = True := eq_true (by omega)
    have e4 : getI S x.val (.int 0) = some (.int x.t) := by simp [Sto.val]
    by_cases z : t ≤ x.t
    · generalize x.val = xv at *
      simp [-getElem?_neg, -getElem?_pos, List.getElem?_cons_zero, List.getElem?_cons_succ, evalS.eq_1, evalS.eq_2, evalS.eq_3, evalS.eq_4, evalS.eq_5, evalS.eq_6, evalS.eq_7, evalS.eq_8, evalS.eq_9, evalS.eq_10, evalS.eq_11, evalS.eq_12, evalS.eq_13, evalS.eq_14, evalS.eq_15, evalS.eq_16, evalE.eq_1, evalE.eq_2, evalE.eq_3, evalE.eq_4, evalE.eq_5, evalE.eq_6, evalE.eq_7, evalE.eq_8, evalE.eq_9, evalE.eq_10, evalE.eq_11, evalE.eq_12, evalE.eq_13, evalE.eq_14, evalE.eq_15, evalE.eq_16, evalE.eq_17, evalE.eq_18, evalE.eq_19, evalE.eq_20, evalE.eq_21, evalE.eq_22, evalE.eq_23, evalE.eq_24, evalE.eq_25, evalE.eq_26, evalE.eq_27, evalE.eq_28, evalE.eq_29, evalE.eq_30, evalE.eq_31, evalE.eq_32, evalE.eq_33, evalE.eq_34, evalE.eq_35, evalE.eq_36, evalEs.eq_1, evalEs.eq_2, evalL.eq_1, evalL.eq_2, evalL.eq_3, evalL.eq_4, evalL.eq_5, evalL.eq_6, evalL.eq_7, evalL.eq_8, evalL.eq_9, evalI.eq_1, evalI.eq_2, evalI.eq_3, evalI.eq_4, evalI.eq_5, evalI.eq_6, evalI.eq_7, evalI.eq_8, evalI.eq_9, evalI.eq_10, evalT, evalAnd.eq_1, evalOr.eq_1, evalH.eq_1, evalH.eq_2, handle, E.isNil, E.isNo, Val.isNon, truth, optI, x_lim, x_lim2, Ev.puts.eq_1, Ev.puts.eq_2, lvOf.eq_1, lvOf.eq_2, x_ofO_ite, x_bind_ite, x_toF_ite, x_fb_ite, x_fin_ite, j_ok, j_rt, j_nx, j_int, j_str, j_bl, j_cons, j_some, j_isNon, j_bl2, j_bl3, j_and, j_or, x_mod, x_fdv, x_pw, x_shr, x_mul, x_mulL, x_mulM, x_mulN, b_Shelf_store, h1, h2, e2, e3, e4, z]
    · have hn : ∃ j, spotL ls t = some j := by
        cases w : spotL ls t with
        | some j => exact ⟨j, rfl⟩
        | none => exact absurd ⟨by rw [q]; intro k hk; simp [lastT] at hk; omega, w⟩ ht
      obtain ⟨j, hj⟩ := hn
      rw [hj] at e
      generalize x.val = xv at *
      simp [-getElem?_neg, -getElem?_pos, List.getElem?_cons_zero, List.getElem?_cons_succ, evalS.eq_1, evalS.eq_2, evalS.eq_3, evalS.eq_4, evalS.eq_5, evalS.eq_6, evalS.eq_7, evalS.eq_8, evalS.eq_9, evalS.eq_10, evalS.eq_11, evalS.eq_12, evalS.eq_13, evalS.eq_14, evalS.eq_15, evalS.eq_16, evalE.eq_1, evalE.eq_2, evalE.eq_3, evalE.eq_4, evalE.eq_5, evalE.eq_6, evalE.eq_7, evalE.eq_8, evalE.eq_9, evalE.eq_10, evalE.eq_11, evalE.eq_12, evalE.eq_13, evalE.eq_14, evalE.eq_15, evalE.eq_16, evalE.eq_17, evalE.eq_18, evalE.eq_19, evalE.eq_20, evalE.eq_21, evalE.eq_22, evalE.eq_23, evalE.eq_24, evalE.eq_25, evalE.eq_26, evalE.eq_27, evalE.eq_28, evalE.eq_29, evalE.eq_30, evalE.eq_31, evalE.eq_32, evalE.eq_33, evalE.eq_34, evalE.eq_35, evalE.eq_36, evalEs.eq_1, evalEs.eq_2, evalL.eq_1, evalL.eq_2, evalL.eq_3, evalL.eq_4, evalL.eq_5, evalL.eq_6, evalL.eq_7, evalL.eq_8, evalL.eq_9, evalI.eq_1, evalI.eq_2, evalI.eq_3, evalI.eq_4, evalI.eq_5, evalI.eq_6, evalI.eq_7, evalI.eq_8, evalI.eq_9, evalI.eq_10, evalT, evalAnd.eq_1, evalOr.eq_1, evalH.eq_1, evalH.eq_2, handle, E.isNil, E.isNo, Val.isNon, truth, optI, x_lim, x_lim2, Ev.puts.eq_1, Ev.puts.eq_2, lvOf.eq_1, lvOf.eq_2, x_ofO_ite, x_bind_ite, x_toF_ite, x_fb_ite, x_fin_ite, j_ok, j_rt, j_nx, j_int, j_str, j_bl, j_cons, j_some, j_isNon, j_bl2, j_bl3, j_and, j_or, x_mod, x_fdv, x_pw, x_shr, x_mul, x_mulL, x_mulM, x_mulN, b_Shelf_store, h1, h2, e2, e3, e4, z, e, on]
theorem spotS_get {ss : List Sto} {t : Int} {j : Nat} (h : spotS ss t = some j) : ∃ hj : j < ss.length, ss[j].t = t := by
  unfold spotS at h
  rw [List.findIdx?_eq_some_iff_getElem] at h
  obtain ⟨h1, h2, _⟩ := h
  exact ⟨h1, by simpa using h2⟩
/-- the least ticket that is bitten -/
def biteB (t p : Int) (b : Option Int) (l : Lod) : Option Int :=
  if t < l.t ∧ l.p = p ∧ (∀ g, l.g = some g → g < t) then (match b with | none => some l.t | some k => if l.t < k then some l.t else some k) else b
def bitten (ls : List Lod) (t p : Int) : Option Int := ls.foldl (biteB t p) none
theorem bite_body (a0 a3 : Option Val) (t p : Int) (b : Option Int) (l : Lod) (n : Nat) (S : Store) : evalS P (callN P n) l_Shelf_placed_0 [a0, some (.int t), some (.int p), a3, some (oi b), some (.int l.t), some (.int l.p), some (oi l.g)] S = .nx [a0, some (.int t), some (.int p), a3, some (oi (biteB t p b l)), some (.int l.t), some (.int l.p), some (oi l.g)] S := by
  obtain ⟨lt, lp, g⟩ := l
  by_cases h1 : t < lt
  · by_cases h2 : lp = p
    · cases g with
      | none =>
        cases b with
        | none => simp [-getElem?_neg, -getElem?_pos, List.getElem?_cons_zero, List.getElem?_cons_succ, evalS.eq_1, evalS.eq_2, evalS.eq_3, evalS.eq_4, evalS.eq_5, evalS.eq_6, evalS.eq_7, evalS.eq_8, evalS.eq_9, evalS.eq_10, evalS.eq_11, evalS.eq_12, evalS.eq_13, evalS.eq_14, evalS.eq_15, evalS.eq_16, evalE.eq_1, evalE.eq_2, evalE.eq_3, evalE.eq_4, evalE.eq_5, evalE.eq_6, evalE.eq_7, evalE.eq_8, evalE.eq_9, evalE.eq_10, evalE.eq_11, evalE.eq_12, evalE.eq_13, evalE.eq_14, evalE.eq_15, evalE.eq_16, evalE.eq_17, evalE.eq_18, evalE.eq_19, evalE.eq_20, evalE.eq_21, evalE.eq_22, evalE.eq_23, evalE.eq_24, evalE.eq_25, evalE.eq_26, evalE.eq_27, evalE.eq_28, evalE.eq_29, evalE.eq_30, evalE.eq_31, evalE.eq_32, evalE.eq_33, evalE.eq_34, evalE.eq_35, evalE.eq_36, evalEs.eq_1, evalEs.eq_2, evalL.eq_1, evalL.eq_2, evalL.eq_3, evalL.eq_4, evalL.eq_5, evalL.eq_6, evalL.eq_7, evalL.eq_8, evalL.eq_9, evalI.eq_1, evalI.eq_2, evalI.eq_3, evalI.eq_4, evalI.eq_5, evalI.eq_6, evalI.eq_7, evalI.eq_8, evalI.eq_9, evalI.eq_10, evalT, evalAnd.eq_1, evalOr.eq_1, evalH.eq_1, evalH.eq_2, handle, E.isNil, E.isNo, Val.isNon, truth, optI, x_lim, x_lim2, Ev.puts.eq_1, Ev.puts.eq_2, lvOf.eq_1, lvOf.eq_2, x_ofO_ite, x_bind_ite, x_toF_ite, x_fb_ite, x_fin_ite, j_ok, j_rt, j_nx, j_int, j_str, j_bl, j_cons, j_some, j_isNon, j_bl2, j_bl3, j_and, j_or, x_mod, x_fdv, x_pw, x_shr, x_mul, x_mulL, x_mulM, x_mulN, l_Shelf_placed_0, oi, biteB, h1, h2]
        | some k =>
          by_cases h3 : lt < k
          · simp [-getElem?_neg, -getElem?_pos, List.getElem?_cons_zero, List.getElem?_cons_succ, evalS.eq_1, evalS.eq_2, evalS.eq_3, evalS.eq_4, evalS.eq_5, evalS.eq_6, evalS.eq_7, evalS.eq_8, evalS.eq_9, evalS.eq_10, evalS.eq_11, evalS.eq_12, evalS.eq_13, evalS.eq_14, evalS.eq_15, evalS.eq_16, evalE.eq_1, evalE.eq_2, evalE.eq_3, evalE.eq_4, evalE.eq_5, evalE.eq_6, evalE.eq_7, evalE.eq_8, evalE.eq_9, evalE.eq_10, evalE.eq_11, evalE.eq_12, evalE.eq_13, evalE.eq_14, evalE.eq_15, evalE.eq_16, evalE.eq_17, evalE.eq_18, evalE.eq_19, evalE.eq_20, evalE.eq_21, evalE.eq_22, evalE.eq_23, evalE.eq_24, evalE.eq_25, evalE.eq_26, evalE.eq_27, evalE.eq_28, evalE.eq_29, evalE.eq_30, evalE.eq_31, evalE.eq_32, evalE.eq_33, evalE.eq_34, evalE.eq_35, evalE.eq_36, evalEs.eq_1, evalEs.eq_2, evalL.eq_1, evalL.eq_2, evalL.eq_3, evalL.eq_4, evalL.eq_5, evalL.eq_6, evalL.eq_7, evalL.eq_8, evalL.eq_9, evalI.eq_1, evalI.eq_2, evalI.eq_3, evalI.eq_4, evalI.eq_5, evalI.eq_6, evalI.eq_7, evalI.eq_8, evalI.eq_9, evalI.eq_10, evalT, evalAnd.eq_1, evalOr.eq_1, evalH.eq_1, evalH.eq_2, handle, E.isNil, E.isNo, Val.isNon, truth, optI, x_lim, x_lim2, Ev.puts.eq_1, Ev.puts.eq_2, lvOf.eq_1, lvOf.eq_2, x_ofO_ite, x_bind_ite, x_toF_ite, x_fb_ite, x_fin_ite, j_ok, j_rt, j_nx, j_int, j_str, j_bl, j_cons, j_some, j_isNon, j_bl2, j_bl3, j_and, j_or, x_mod, x_fdv, x_pw, x_shr, x_mul, x_mulL, x_mulM, x_mulN, l_Shelf_placed_0, oi, biteB, h1, h2, h3]
          · simp [-getElem?_neg, -getElem?_pos, List.getElem?_cons_zero, List.getElem?_cons_succ, evalS.eq_1, evalS.eq_2, evalS.eq_3, evalS.eq_4, evalS.eq_5, evalS.eq_6, evalS.eq_7, evalS.eq_8, evalS.eq_9, evalS.eq_10, evalS.eq_11, evalS.eq_12, evalS.eq_13, evalS.eq_14, evalS.eq_15, evalS.eq_16, evalE.eq_1, evalE.eq_2, evalE.eq_3, evalE.eq_4, evalE.eq_5, evalE.eq_6, evalE.eq_7, evalE.eq_8, evalE.eq_9, evalE.eq_10, evalE.eq_11, evalE.eq_12, evalE.eq_13, evalE.eq_14, evalE.eq_15, evalE.eq_16, evalE.eq_17, evalE.eq_18, evalE.eq_19, evalE.eq_20, evalE.eq_21, evalE.eq_22, evalE.eq_23, evalE.eq_24, evalE.eq_25, evalE.eq_26, evalE.eq_27, evalE.eq_28, evalE.eq_29, evalE.eq_30, evalE.eq_31, evalE.eq_32, evalE.eq_33, evalE.eq_34, evalE.eq_35, evalE.eq_36, evalEs.eq_1, evalEs.eq_2, evalL.eq_1, evalL.eq_2, evalL.eq_3, evalL.eq_4, evalL.eq_5, evalL.eq_6, evalL.eq_7, evalL.eq_8, evalL.eq_9, evalI.eq_1, evalI.eq_2, evalI.eq_3, evalI.eq_4, evalI.eq_5, evalI.eq_6, evalI.eq_7, evalI.eq_8, evalI.eq_9, evalI.eq_10, evalT, evalAnd.eq_1, evalOr.eq_1, evalH.eq_1, evalH.eq_2, handle, E.isNil, E.isNo, Val.isNon, truth, optI, x_lim, x_lim2, Ev.puts.eq_1, Ev.puts.eq_2, lvOf.eq_1, lvOf.eq_2, x_ofO_ite, x_bind_ite, x_toF_ite, x_fb_ite, x_fin_ite, j_ok, j_rt, j_nx, j_int, j_str, j_bl, j_cons, j_some, j_isNon, j_bl2, j_bl3, j_and, j_or, x_mod, x_fdv, x_pw, x_shr, x_mul, x_mulL, x_mulM, x_mulN, l_Shelf_placed_0, oi, biteB, h1, h2, h3]
      | some g =>
        by_cases h4 : g < t
        · cases b with
          | none => simp [-getElem?_neg, -getElem?_pos, List.getElem?_cons_zero, List.getElem?_cons_succ, evalS.eq_1, evalS.eq_2, evalS.eq_3, evalS.eq_4, evalS.eq_5, evalS.eq_6, evalS.eq_7, evalS.eq_8, evalS.eq_9, evalS.eq_10, evalS.eq_11, evalS.eq_12, evalS.eq_13, evalS.eq_14, evalS.eq_15, evalS.eq_16, evalE.eq_1, evalE.eq_2, evalE.eq_3, evalE.eq_4, evalE.eq_5, evalE.eq_6, evalE.eq_7, evalE.eq_8, evalE.eq_9, evalE.eq_10, evalE.eq_11, evalE.eq_12, evalE.eq_13, evalE.eq_14, evalE.eq_15, evalE.eq_16, evalE.eq_17, evalE.eq_18, evalE.eq_19, evalE.eq_20, evalE.eq_21, evalE.eq_22, evalE.eq_23, evalE.eq_24, evalE.eq_25, evalE.eq_26, evalE.eq_27, evalE.eq_28, evalE.eq_29, evalE.eq_30, evalE.eq_31, evalE.eq_32, evalE.eq_33, evalE.eq_34, evalE.eq_35, evalE.eq_36, evalEs.eq_1, evalEs.eq_2, evalL.eq_1, evalL.eq_2, evalL.eq_3, evalL.eq_4, evalL.eq_5, evalL.eq_6, evalL.eq_7, evalL.eq_8, evalL.eq_9, evalI.eq_1, evalI.eq_2, evalI.eq_3, evalI.eq_4, evalI.eq_5, evalI.eq_6, evalI.eq_7, evalI.eq_8, evalI.eq_9, evalI.eq_10, evalT, evalAnd.eq_1, evalOr.eq_1, evalH.eq_1, evalH.eq_2, handle, E.isNil, E.isNo, Val.isNon, truth, optI, x_lim, x_lim2, Ev.puts.eq_1, Ev.puts.eq_2, lvOf.eq_1, lvOf.eq_2, x_ofO_ite, x_bind_ite, x_toF_ite, x_fb_ite, x_fin_ite, j_ok, j_rt, j_nx, j_int, j_str, j_bl, j_cons, j_some, j_isNon, j_bl2, j_bl3, j_and, j_or, x_mod, x_fdv, x_pw, x_shr, x_mul, x_mulL, x_mulM, x_mulN, l_Shelf_placed_0, oi, biteB, h1, h2, h4]
          | some k =>
            by_cases h3 : lt < k
            · simp [-getElem?_neg, -getElem?_pos, List.getElem?_cons_zero, List.getElem?_cons_succ, evalS.eq_1, evalS.eq_2, evalS.eq_3, evalS.eq_4, evalS.eq_5, evalS.eq_6, evalS.eq_7, evalS.eq_8, evalS.eq_9, evalS.eq_10, evalS.eq_11, evalS.eq_12, evalS.eq_13, evalS.eq_14, evalS.eq_15, evalS.eq_16, evalE.eq_1, evalE.eq_2, evalE.eq_3, evalE.eq_4, evalE.eq_5, evalE.eq_6, evalE.eq_7, evalE.eq_8, evalE.eq_9, evalE.eq_10, evalE.eq_11, evalE.eq_12, evalE.eq_13, evalE.eq_14, evalE.eq_15, evalE.eq_16, evalE.eq_17, evalE.eq_18, evalE.eq_19, evalE.eq_20, evalE.eq_21, evalE.eq_22, evalE.eq_23, evalE.eq_24, evalE.eq_25, evalE.eq_26, evalE.eq_27, evalE.eq_28, evalE.eq_29, evalE.eq_30, evalE.eq_31, evalE.eq_32, evalE.eq_33, evalE.eq_34, evalE.eq_35, evalE.eq_36, evalEs.eq_1, evalEs.eq_2, evalL.eq_1, evalL.eq_2, evalL.eq_3, evalL.eq_4, evalL.eq_5, evalL.eq_6, evalL.eq_7, evalL.eq_8, evalL.eq_9, evalI.eq_1, evalI.eq_2, evalI.eq_3, evalI.eq_4, evalI.eq_5, evalI.eq_6, evalI.eq_7, evalI.eq_8, evalI.eq_9, evalI.eq_10, evalT, evalAnd.eq_1, evalOr.eq_1, evalH.eq_1, evalH.eq_2, handle, E.isNil, E.isNo, Val.isNon, truth, optI, x_lim, x_lim2, Ev.puts.eq_1, Ev.puts.eq_2, lvOf.eq_1, lvOf.eq_2, x_ofO_ite, x_bind_ite, x_toF_ite, x_fb_ite, x_fin_ite, j_ok, j_rt, j_nx, j_int, j_str, j_bl, j_cons, j_some, j_isNon, j_bl2, j_bl3, j_and, j_or, x_mod, x_fdv, x_pw, x_shr, x_mul, x_mulL, x_mulM, x_mulN, l_Shelf_placed_0, oi, biteB, h1, h2, h3, h4]
            · simp [-getElem?_neg, -getElem?_pos, List.getElem?_cons_zero, List.getElem?_cons_succ, evalS.eq_1, evalS.eq_2, evalS.eq_3, evalS.eq_4, evalS.eq_5, evalS.eq_6, evalS.eq_7, evalS.eq_8, evalS.eq_9, evalS.eq_10, evalS.eq_11, evalS.eq_12, evalS.eq_13, evalS.eq_14, evalS.eq_15, evalS.eq_16, evalE.eq_1, evalE.eq_2, evalE.eq_3, evalE.eq_4, evalE.eq_5, evalE.eq_6, evalE.eq_7, evalE.eq_8, evalE.eq_9, evalE.eq_10, evalE.eq_11, evalE.eq_12, evalE.eq_13, evalE.eq_14, evalE.eq_15, evalE.eq_16, evalE.eq_17, evalE.eq_18, evalE.eq_19, evalE.eq_20, evalE.eq_21, evalE.eq_22, evalE.eq_23, evalE.eq_24, evalE.eq_25, evalE.eq_26, evalE.eq_27, evalE.eq_28, evalE.eq_29, evalE.eq_30, evalE.eq_31, evalE.eq_32, evalE.eq_33, evalE.eq_34, evalE.eq_35, evalE.eq_36, evalEs.eq_1, evalEs.eq_2, evalL.eq_1, evalL.eq_2, evalL.eq_3, evalL.eq_4, evalL.eq_5, evalL.eq_6, evalL.eq_7, evalL.eq_8, evalL.eq_9, evalI.eq_1, evalI.eq_2, evalI.eq_3, evalI.eq_4, evalI.eq_5, evalI.eq_6, evalI.eq_7, evalI.eq_8, evalI.eq_9, evalI.eq_10, evalT, evalAnd.eq_1, evalOr.eq_1, evalH.eq_1, evalH.eq_2, handle, E.isNil, E.isNo, Val.isNon, truth, optI, x_lim, x_lim2, Ev.puts.eq_1, Ev.puts.eq_2, lvOf.eq_1, lvOf.eq_2, x_ofO_ite, x_bind_ite, x_toF_ite, x_fb_ite, x_fin_ite, j_ok, j_rt, j_nx, j_int, j_str, j_bl, j_cons, j_some, j_isNon, j_bl2, j_bl3, j_and, j_or, x_mod, x_fdv, x_pw, x_shr, x_mul, x_mulL, x_mulM, x_mulN, l_Shelf_placed_0, oi, biteB, h1, h2, h3, h4]
        · simp [-getElem?_neg, -getElem?_pos, List.getElem?_cons_zero, List.getElem?_cons_succ, evalS.eq_1, evalS.eq_2, evalS.eq_3, evalS.eq_4, evalS.eq_5, evalS.eq_6, evalS.eq_7, evalS.eq_8, evalS.eq_9, evalS.eq_10, evalS.eq_11, evalS.eq_12, evalS.eq_13, evalS.eq_14, evalS.eq_15, evalS.eq_16, evalE.eq_1, evalE.eq_2, evalE.eq_3, evalE.eq_4, evalE.eq_5, evalE.eq_6, evalE.eq_7, evalE.eq_8, evalE.eq_9, evalE.eq_10, evalE.eq_11, evalE.eq_12, evalE.eq_13, evalE.eq_14, evalE.eq_15, evalE.eq_16, evalE.eq_17, evalE.eq_18, evalE.eq_19, evalE.eq_20, evalE.eq_21, evalE.eq_22, evalE.eq_23, evalE.eq_24, evalE.eq_25, evalE.eq_26, evalE.eq_27, evalE.eq_28, evalE.eq_29, evalE.eq_30, evalE.eq_31, evalE.eq_32, evalE.eq_33, evalE.eq_34, evalE.eq_35, evalE.eq_36, evalEs.eq_1, evalEs.eq_2, evalL.eq_1, evalL.eq_2, evalL.eq_3, evalL.eq_4, evalL.eq_5, evalL.eq_6, evalL.eq_7, evalL.eq_8, evalL.eq_9, evalI.eq_1, evalI.eq_2, evalI.eq_3, evalI.eq_4, evalI.eq_5, evalI.eq_6, evalI.eq_7, evalI.eq_8, evalI.eq_9, evalI.eq_10, evalT, evalAnd.eq_1, evalOr.eq_1, evalH.eq_1, evalH.eq_2, handle, E.isNil, E.isNo, Val.isNon, truth, optI, x_lim, x_lim2, Ev.puts.eq_1, Ev.puts.eq_2, lvOf.eq_1, lvOf.eq_2, x_ofO_ite, x_bind_ite, x_toF_ite, x_fb_ite, x_fin_ite, j_ok, j_rt, j_nx, j_int, j_str, j_bl, j_cons, j_some, j_isNon, j_bl2, j_bl3, j_and, j_or, x_mod, x_fdv, x_pw, x_shr, x_mul, x_mulL, x_mulM, x_mulN, l_Shelf_placed_0, oi, biteB, h1, h2, h4]
    · simp [-getElem?_neg, -getElem?_pos, List.getElem?_cons_zero, List.getElem?_cons_succ, evalS.eq_1, evalS.eq_2, evalS.eq_3, evalS.eq_4, evalS.eq_5, evalS.eq_6, evalS.eq_7, evalS.eq_8, evalS.eq_9, evalS.eq_10, evalS.eq_11, evalS.eq_12, evalS.eq_13, evalS.eq_14, evalS.eq_15, evalS.eq_16, evalE.eq_1, evalE.eq_2, evalE.eq_3, evalE.eq_4, evalE.eq_5, evalE.eq_6, evalE.eq_7, evalE.eq_8, evalE.eq_9, evalE.eq_10, evalE.eq_11, evalE.eq_12, evalE.eq_13, evalE.eq_14, evalE.eq_15, evalE.eq_16, evalE.eq_17, evalE.eq_18, evalE.eq_19, evalE.eq_20, evalE.eq_21, evalE.eq_22, evalE.eq_23, evalE.eq_24, evalE.eq_25, evalE.eq_26, evalE.eq_27, evalE.eq_28, evalE.eq_29, evalE.eq_30, evalE.eq_31, evalE.eq_32, evalE.eq_33, evalE.eq_34, evalE.eq_35, evalE.eq_36, evalEs.eq_1, evalEs.eq_2, evalL.eq_1, evalL.eq_2, evalL.eq_3, evalL.eq_4, evalL.eq_5, evalL.eq_6, evalL.eq_7, evalL.eq_8, evalL.eq_9, evalI.eq_1, evalI.eq_2, evalI.eq_3, evalI.eq_4, evalI.eq_5, evalI.eq_6, evalI.eq_7, evalI.eq_8, evalI.eq_9, evalI.eq_10, evalT, evalAnd.eq_1, evalOr.eq_1, evalH.eq_1, evalH.eq_2, handle, E.isNil, E.isNo, Val.isNon, truth, optI, x_lim, x_lim2, Ev.puts.eq_1, Ev.puts.eq_2, lvOf.eq_1, lvOf.eq_2, x_ofO_ite, x_bind_ite, x_toF_ite, x_fb_ite, x_fin_ite, j_ok, j_rt, j_nx, j_int, j_str, j_bl, j_cons, j_some, j_isNon, j_bl2, j_bl3, j_and, j_or, x_mod, x_fdv, x_pw, x_shr, x_mul, x_mulL, x_mulM, x_mulN, l_Shelf_placed_0, oi, biteB, h1, h2]
  · simp [-getElem?_neg, -getElem?_pos, List.getElem?_cons_zero, List.getElem?_cons_succ, evalS.eq_1, evalS.eq_2, evalS.eq_3, evalS.eq_4, evalS.eq_5, evalS.eq_6, evalS.eq_7, evalS.eq_8, evalS.eq_9, evalS.eq_10, evalS.eq_11, evalS.eq_12, evalS.eq_13, evalS.eq_14, evalS.eq_15, evalS.eq_16, evalE.eq_1, evalE.eq_2, evalE.eq_3, evalE.eq_4, evalE.eq_5, evalE.eq_6, evalE.eq_7, evalE.eq_8, evalE.eq_9, evalE.eq_10, evalE.eq_11, evalE.eq_12, evalE.eq_13, evalE.eq_14, evalE.eq_15, evalE.eq_16, evalE.eq_17, evalE.eq_18, evalE.eq_19, evalE.eq_20, evalE.eq_21, evalE.eq_22, evalE.eq_23, evalE.eq_24, evalE.eq_25, evalE.eq_26, evalE.eq_27, evalE.eq_28, evalE.eq_29, evalE.eq_30, evalE.eq_31, evalE.eq_32, evalE.eq_33, evalE.eq_34, evalE.eq_35, evalE.eq_36, evalEs.eq_1, evalEs.eq_2, evalL.eq_1, evalL.eq_2, evalL.eq_3, evalL.eq_4, evalL.eq_5, evalL.eq_6, evalL.eq_7, evalL.eq_8, evalL.eq_9, evalI.eq_1, evalI.eq_2, evalI.eq_3, evalI.eq_4, evalI.eq_5, evalI.eq_6, evalI.eq_7, evalI.eq_8, evalI.eq_9, evalI.eq_10, evalT, evalAnd.eq_1, evalOr.eq_1, evalH.eq_1, evalH.eq_2, handle, E.isNil, E.isNo, Val.isNon, truth, optI, x_lim, x_lim2, Ev.puts.eq_1, Ev.puts.eq_2, lvOf.eq_1, lvOf.eq_2, x_ofO_ite, x_bind_ite, x_toF_ite, x_fb_ite, x_fin_ite, j_ok, j_rt, j_nx, j_int, j_str, j_bl, j_cons, j_some, j_isNon, j_bl2, j_bl3, j_and, j_or, x_mod, x_fdv, x_pw, x_shr, x_mul, x_mulL, x_mulM, x_mulN, l_Shelf_placed_0, oi, biteB, h1]
def setP (ss : List Sto) (j : Nat) (p : Int) : List Sto := match ss[j]? with
  | some s => ss.set j ⟨s.t, some p, s.w⟩
  | none => ss
def setW (ss : List Sto) (j : Nat) (w : Int) : List Sto := match ss[j]? with
  | some s => ss.set j ⟨s.t, s.p, some w⟩
  | none => ss
theorem setP_len (ss : List Sto) (j : Nat) (p : Int) : (setP ss j p).length = ss.length := by unfold setP; split <;> simp
theorem setW_len (ss : List Sto) (j : Nat) (p : Int) : (setW ss j p).length = ss.length := by unfold setW; split <;> simp
theorem shelf_placed {c col o ss ls S} (h : IsShelf c col o ss ls S) (t p : Int) (j : Nat) (hj : spotS ss t = some j) (hp : ∀ s, ss[j]? = some s → s.p = none) (n : Nat) : ∃ S', callN P (n+2) f_Shelf_placed [.ref o, .int t, .int p] S = .ok (oi (bitten ls t p)) S' ∧ IsShelf c col o (setP ss j p) ls S' ∧ Stp (· = c) col S col S' := by
  obtain ⟨A, B, h⟩ := h
  have h1 := h.ho; have h2 := h.hA; have h3 := h.hB
  have e := spot_ok A (ss.map Sto.val) (sto_rw ss) t S h2 n
  rw [spot_sto, hj] at e
  obtain ⟨hjl, hjt⟩ := spotS_get hj
  have hpn := hp ss[j] (List.getElem?_eq_getElem hjl)
  have eg : MP.atI (ss.map Sto.val) (j : Int) = some ss[j].val := by rw [at_nat]; simp [hjl]
  have ei : ixOf ss.length (j : Int) = some j := ix_nat hjl
  obtain ⟨D, hD⟩ : ∃ D, (ss.map Sto.val).set j (.tup [.int t, .int p, oi ss[j].w]) = D := ⟨_, rfl⟩
  have hD2 : (setP ss j p).map Sto.val = D := by
    unfold setP
    rw [List.getElem?_eq_getElem hjl]
    simp only [List.map_set]
    rw [← hD, ← hjt]
    rfl
  have k1 : (S.set A (.lst D))[o]? = some (.ins C_Shelf [(F_kept_stores, .ref A), (F_kept_loads, .ref B)]) := by rw [x_set_ne (fun z => by rw [z, h2] at h1; cases h1)]; exact h1
  have k2 : (S.set A (.lst D))[A]? = some (.lst D) := x_set_at h2
  have k3 : (S.set A (.lst D))[B]? = some (.lst (ls.map Lod.val)) := by rw [x_set_ne (Ne.symm h.ne)]; exact h3
  obtain ⟨ρ', S', r1, a5, a6, a7, hρ, hS⟩ := for_lst (P := P) (cf := callN P (n+1)) (e := .fld (.var 0) F_kept_loads) (u := l_Shelf_placed_0) (tg := [5, 6, 7]) (one := false) (xs := ls.map Lod.val) (q := B) (ρ := [some (.ref o), some (.int t), some (.int p), some (.int (j : Int)), some .non, none, none, none]) (S := S.set A (.lst D)) (S1 := S.set A (.lst D)) (ev_fld (ev_var rfl) k1 (by simp))
    (fun i ρ S' => ∃ a5 a6 a7, ρ = [some (.ref o), some (.int t), some (.int p), some (.int (j : Int)), some (oi ((ls.take i).foldl (biteB t p) none)), a5, a6, a7] ∧ S' = S.set A (.lst D)) (fun i ρ S' ⟨_, _, _, _, q⟩ => by rw [q]; exact x_lst k3) (fun i ρ S' hi ⟨a5, a6, a7, q1, q2⟩ => by
      subst q1; subst q2
      have hi : i < ls.length := by simpa using hi
      refine ⟨[some (.ref o), some (.int t), some (.int p), some (.int (j : Int)), some (oi ((ls.take i).foldl (biteB t p) none)), some (.int ls[i].t), some (.int ls[i].p), some (oi ls[i].g)], _, _, by simp [Lod.val, Ev.puts], .of (bite_body _ _ t p _ ls[i] _ _), some (.int ls[i].t), some (.int ls[i].p), some (oi ls[i].g), ?_, rfl⟩
      rw [take_snoc hi, List.foldl_append]
      rfl) ⟨none, none, none, rfl, rfl⟩
  subst hρ; subst hS
  rw [List.length_map, List.take_length] at r1
  refine ⟨S.set A (.lst D), ?_, ⟨A, B, k1, by rw [hD2]; exact k2, k3, h.co, h.cA, h.cB, h.ne, by rw [setP_len]; exact h.fs, h.fl⟩, Stp.set _ h.cA⟩
  have g1 : getI S ss[j].val (.int 1) = some .non := by simp [Sto.val, hpn, oi]
  have g2 : getI S ss[j].val (.int 2) = some (oi ss[j].w) := by simp [Sto.val]
  rw [u_Shelf_placed]
  unfold b_Shelf_placed
  refine s_fin (?_ : _ = MP.F.rt _ _) rfl
  generalize ss[j].val = xv at *
  refine (s_nx (by simp [-getElem?_neg, -getElem?_pos, List.getElem?_cons_zero, List.getElem?_cons_succ, evalS.eq_1, evalS.eq_2, evalS.eq_3, evalS.eq_4, evalS.eq_5, evalS.eq_6, evalS.eq_7, evalS.eq_8, evalS.eq_9, evalS.eq_10, evalS.eq_11, evalS.eq_12, evalS.eq_13, evalS.eq_14, evalS.eq_15, evalS.eq_16, evalE.eq_1, evalE.eq_2, evalE.eq_3, evalE.eq_4, evalE.eq_5, evalE.eq_6, evalE.eq_7, evalE.eq_8, evalE.eq_9, evalE.eq_10, evalE.eq_11, evalE.eq_12, evalE.eq_13, evalE.eq_14, evalE.eq_15, evalE.eq_16, evalE.eq_17, evalE.eq_18, evalE.eq_19, evalE.eq_20, evalE.eq_21, evalE.eq_22, evalE.eq_23, evalE.eq_24, evalE.eq_25, evalE.eq_26, evalE.eq_27, evalE.eq_28, evalE.eq_29, evalE.eq_30, evalE.eq_31, evalE.eq_32, evalE.eq_33, evalE.eq_34, evalE.eq_35, evalE.eq_36, evalEs.eq_1, evalEs.eq_2, evalL.eq_1, evalL.eq_2, evalL.eq_3, evalL.eq_4, evalL.eq_5, evalL.eq_6, evalL.eq_7, evalL.eq_8, evalL.eq_9, evalI.eq_1, evalI.eq_2, evalI.eq_3, evalI.eq_4, evalI.eq_5, evalI.eq_6, evalI.eq_7, evalI.eq_8, evalI.eq_9, evalI.eq_10, evalT, evalAnd.eq_1, evalOr.eq_1, evalH.eq_1, evalH.eq_2, handle, E.isNil, E.isNo, Val.isNon, truth, optI, x_lim, x_lim2, Ev.puts.eq_1, Ev.puts.eq_2, lvOf.eq_1, lvOf.eq_2, x_ofO_ite, x_bind_ite, x_toF_ite, x_fb_ite, x_fin_ite, j_ok, j_rt, j_nx, j_int, j_str, j_bl, j_cons, j_some, j_isNon, j_bl2, j_bl3, j_and, j_or, x_mod, x_fdv, x_pw, x_shr, x_mul, x_mulL, x_mulM, x_mulN, h1, e, on]; first | done | exact ⟨rfl, rfl⟩ | rfl)).trans ?_
  refine (s_nx (by simp [-getElem?_neg, -getElem?_pos, List.getElem?_cons_zero, List.getElem?_cons_succ, evalS.eq_1, evalS.eq_2, evalS.eq_3, evalS.eq_4, evalS.eq_5, evalS.eq_6, evalS.eq_7, evalS.eq_8, evalS.eq_9, evalS.eq_10, evalS.eq_11, evalS.eq_12, evalS.eq_13, evalS.eq_14, evalS.eq_15, evalS.eq_16, evalE.eq_1, evalE.eq_2, evalE.eq_3, evalE.eq_4, evalE.eq_5, evalE.eq_6, evalE.eq_7, evalE.eq_8, evalE.eq_9, evalE.eq_10, evalE.eq_11, evalE.eq_12, evalE.eq_13, evalE.eq_14, evalE.eq_15, evalE.eq_16, evalE.eq_17, evalE.eq_18, evalE.eq_19, evalE.eq_20, evalE.eq_21, evalE.eq_22, evalE.eq_23, evalE.eq_24, evalE.eq_25, evalE.eq_26, evalE.eq_27, evalE.eq_28, evalE.eq_29, evalE.eq_30, evalE.eq_31, evalE.eq_32, evalE.eq_33, evalE.eq_34, evalE.eq_35, evalE.eq_36, evalEs.eq_1, evalEs.eq_2, evalL.eq_1, evalL.eq_2, evalL.eq_3, evalL.eq_4, evalL.eq_5, evalL.eq_6, evalL.eq_7, evalL.eq_8, evalL.eq_9, evalI.eq_1, evalI.eq_2, evalI.eq_3, evalI.eq_4, evalI.eq_5, evalI.eq_6, evalI.eq_7, evalI.eq_8, evalI.eq_9, evalI.eq_10, evalT, evalAnd.eq_1, evalOr.eq_1, evalH.eq_1, evalH.eq_2, handle, E.isNil, E.isNo, Val.isNon, truth, optI, x_lim, x_lim2, Ev.puts.eq_1, Ev.puts.eq_2, lvOf.eq_1, lvOf.eq_2, x_ofO_ite, x_bind_ite, x_toF_ite, x_fb_ite, x_fin_ite, j_ok, j_rt, j_nx, j_int, j_str, j_bl, j_cons, j_some, j_isNon, j_bl2, j_bl3, j_and, j_or, x_mod, x_fdv, x_pw, x_shr, x_mul, x_mulL, x_mulM, x_mulN, h1, h2, eg, g1]; first | done | exact ⟨rfl, rfl⟩ | rfl)).trans ?_
  refine (s_nx (by simp [-getElem?_neg, -getElem?_pos, List.getElem?_cons_zero, List.getElem?_cons_succ, evalS.eq_1, evalS.eq_2, evalS.eq_3, evalS.eq_4, evalS.eq_5, evalS.eq_6, evalS.eq_7, evalS.eq_8, evalS.eq_9, evalS.eq_10, evalS.eq_11, evalS.eq_12, evalS.eq_13, evalS.eq_14, evalS.eq_15, evalS.eq_16, evalE.eq_1, evalE.eq_2, evalE.eq_3, evalE.eq_4, evalE.eq_5, evalE.eq_6, evalE.eq_7, evalE.eq_8, evalE.eq_9, evalE.eq_10, evalE.eq_11, evalE.eq_12, evalE.eq_13, evalE.eq_14, evalE.eq_15, evalE.eq_16, evalE.eq_17, evalE.eq_18, evalE.eq_19, evalE.eq_20, evalE.eq_21, evalE.eq_22, evalE.eq_23, evalE.eq_24, evalE.eq_25, evalE.eq_26, evalE.eq_27, evalE.eq_28, evalE.eq_29, evalE.eq_30, evalE.eq_31, evalE.eq_32, evalE.eq_33, evalE.eq_34, evalE.eq_35, evalE.eq_36, evalEs.eq_1, evalEs.eq_2, evalL.eq_1, evalL.eq_2, evalL.eq_3, evalL.eq_4, evalL.eq_5, evalL.eq_6, evalL.eq_7, evalL.eq_8, evalL.eq_9, evalI.eq_1, evalI.eq_2, evalI.eq_3, evalI.eq_4, evalI.eq_5, evalI.eq_6, evalI.eq_7, evalI.eq_8, evalI.eq_9, evalI.eq_10, evalT, evalAnd.eq_1, evalOr.eq_1, evalH.eq_1, evalH.eq_2, handle, E.isNil, E.isNo, Val.isNon, truth, optI, x_lim, x_lim2, Ev.puts.eq_1, Ev.puts.eq_2, lvOf.eq_1, lvOf.eq_2, x_ofO_ite, x_bind_ite, x_toF_ite, x_fb_ite, x_fin_ite, j_ok, j_rt, j_nx, j_int, j_str, j_bl, j_cons, j_some, j_isNon, j_bl2, j_bl3, j_and, j_or, x_mod, x_fdv, x_pw, x_shr, x_mul, x_mulL, x_mulM, x_mulN, h1, h2, eg, g2, setSub, ei, Store.put, hD]; first | done | exact ⟨rfl, rfl⟩ | rfl)).trans ?_
  refine (s_nx (by simp [-getElem?_neg, -getElem?_pos, List.getElem?_cons_zero, List.getElem?_cons_succ, evalS.eq_1, evalS.eq_2, evalS.eq_3, evalS.eq_4, evalS.eq_5, evalS.eq_6, evalS.eq_7, evalS.eq_8, evalS.eq_9, evalS.eq_10, evalS.eq_11, evalS.eq_12, evalS.eq_13, evalS.eq_14, evalS.eq_15, evalS.eq_16, evalE.eq_1, evalE.eq_2, evalE.eq_3, evalE.eq_4, evalE.eq_5, evalE.eq_6, evalE.eq_7, evalE.eq_8, evalE.eq_9, evalE.eq_10, evalE.eq_11, evalE.eq_12, evalE.eq_13, evalE.eq_14, evalE.eq_15, evalE.eq_16, evalE.eq_17, evalE.eq_18, evalE.eq_19, evalE.eq_20, evalE.eq_21, evalE.eq_22, evalE.eq_23, evalE.eq_24, evalE.eq_25, evalE.eq_26, evalE.eq_27, evalE.eq_28, evalE.eq_29, evalE.eq_30, evalE.eq_31, evalE.eq_32, evalE.eq_33, evalE.eq_34, evalE.eq_35, evalE.eq_36, evalEs.eq_1, evalEs.eq_2, evalL.eq_1, evalL.eq_2, evalL.eq_3, evalL.eq_4, evalL.eq_5, evalL.eq_6, evalL.eq_7, evalL.eq_8, evalL.eq_9, evalI.eq_1, evalI.eq_2, evalI.eq_3, evalI.eq_4, evalI.eq_5, evalI.eq_6, evalI.eq_7, evalI.eq_8, evalI.eq_9, evalI.eq_10, evalT, evalAnd.eq_1, evalOr.eq_1, evalH.eq_1, evalH.eq_2, handle, E.isNil, E.isNo, Val.isNon, truth, optI, x_lim, x_lim2, Ev.puts.eq_1, Ev.puts.eq_2, lvOf.eq_1, lvOf.eq_2, x_ofO_ite, x_bind_ite, x_toF_ite, x_fb_ite, x_fin_ite, j_ok, j_rt, j_nx, j_int, j_str, j_bl, j_cons, j_some, j_isNon, j_bl2, j_bl3, j_and, j_or, x_mod, x_fdv, x_pw, x_shr, x_mul, x_mulL, x_mulM, x_mulN]; first | done | exact ⟨rfl, rfl⟩ | rfl)).trans ?_
  refine (s_nx r1).trans ?_
  refine s_rt (by simp [-getElem?_neg, -getElem?_pos, List.getElem?_cons_zero, List.getElem?_cons_succ, evalS.eq_1, evalS.eq_2, evalS.eq_3, evalS.eq_4, evalS.eq_5, evalS.eq_6, evalS.eq_7, evalS.eq_8, evalS.eq_9, evalS.eq_10, evalS.eq_11, evalS.eq_12, evalS.eq_13, evalS.eq_14, evalS.eq_15, evalS.eq_16, evalE.eq_1, evalE.eq_2, evalE.eq_3, evalE.eq_4, evalE.eq_5, evalE.eq_6, evalE.eq_7, evalE.eq_8, evalE.eq_9, evalE.eq_10, evalE.eq_11, evalE.eq_12, evalE.eq_13, evalE.eq_14, evalE.eq_15, evalE.eq_16, evalE.eq_17, evalE.eq_18, evalE.eq_19, evalE.eq_20, evalE.eq_21, evalE.eq_22, evalE.eq_23, evalE.eq_24, evalE.eq_25, evalE.eq_26, evalE.eq_27, evalE.eq_28, evalE.eq_29, evalE.eq_30, evalE.eq_31, evalE.eq_32, evalE.eq_33, evalE.eq_34, evalE.eq_35, evalE.eq_36, evalEs.eq_1, evalEs.eq_2, evalL.eq_1, evalL.eq_2, evalL.eq_3, evalL.eq_4, evalL.eq_5, evalL.eq_6, evalL.eq_7, evalL.eq_8, evalL.eq_9, evalI.eq_1, evalI.eq_2, evalI.eq_3, evalI.eq_4, evalI.eq_5, evalI.eq_6, evalI.eq_7, evalI.eq_8, evalI.eq_9, evalI.eq_10, evalT, evalAnd.eq_1, evalOr.eq_1, evalH.eq_1, evalH.eq_2, handle, E.isNil, E.isNo, Val.isNon, truth, optI, x_lim, x_lim2, Ev.puts.eq_1, Ev.puts.eq_2, lvOf.eq_1, lvOf.eq_2, x_ofO_ite, x_bind_ite, x_toF_ite, x_fb_ite, x_fin_ite, j_ok, j_rt, j_nx, j_int, j_str, j_bl, j_cons, j_some, j_isNon, j_bl2, j_bl3, j_and, j_or, x_mod, x_fdv, x_pw, x_shr, x_mul, x_mulL, x_mulM, x_mulN, bitten]; first | done | exact ⟨rfl, rfl⟩ | rfl)
theorem shelf_worded {c col o ss ls S} (h : IsShelf c col o ss ls S) (t w : Int) (j : Nat) (hj : spotS ss t = some j) (hp : ∀ s, ss[j]? = some s → s.w = none) (n : Nat) : ∃ S', callN P (n+2) f_Shelf_worded [.ref o, .int t, .int w] S = .ok .non S' ∧ IsShelf c col o (setW ss j w) ls S' ∧ Stp (· = c) col S col S' := by
  obtain ⟨A, B, h⟩ := h
  have h1 := h.ho; have h2 := h.hA; have h3 := h.hB
  have e := spot_ok A (ss.map Sto.val) (sto_rw ss) t S h2 n
  rw [spot_sto, hj] at e
  obtain ⟨hjl, hjt⟩ := spotS_get hj
  have hpn := hp ss[j] (List.getElem?_eq_getElem hjl)
  have eg : MP.atI (ss.map Sto.val) (j : Int) = some ss[j].val := by rw [at_nat]; simp [hjl]
  have ei : ixOf ss.length (j : Int) = some j := ix_nat hjl
  obtain ⟨D, hD⟩ : ∃ D, (ss.map Sto.val).set j (.tup [.int t, oi ss[j].p, .int w]) = D := ⟨_, rfl⟩
  have hD2 : (setW ss j w).map Sto.val = D := by
    unfold setW
    rw [List.getElem?_eq_getElem hjl]
    simp only [List.map_set]
    rw [← hD, ← hjt]
    rfl
  have k1 : (S.set A (.lst D))[o]? = some (.ins C_Shelf [(F_kept_stores, .ref A), (F_kept_loads, .ref B)]) := by rw [x_set_ne (fun z => by rw [z, h2] at h1; cases h1)]; exact h1
  have k2 : (S.set A (.lst D))[A]? = some (.lst D) := x_set_at h2
  have k3 : (S.set A (.lst D))[B]? = some (.lst (ls.map Lod.val)) := by rw [x_set_ne (Ne.symm h.ne)]; exact h3
  refine ⟨S.set A (.lst D), ?_, ⟨A, B, k1, by rw [hD2]; exact k2, k3, h.co, h.cA, h.cB, h.ne, by rw [setW_len]; exact h.fs, h.fl⟩, Stp.set _ h.cA⟩
  have g1 : getI S ss[j].val (.int 2) = some .non := by simp [Sto.val, hpn, oi]
  have g2 : getI S ss[j].val (.int 1) = some (oi ss[j].p) := by simp [Sto.val]
  rw [u_Shelf_worded]
  unfold b_Shelf_worded
  generalize ss[j].val = xv at *
  rw [s_nx (ρ1 := [some (.ref o), some (.int t), some (.int w), some (.int (j : Int))]) (S1 := S) (by simp [-getElem?_neg, -getElem?_pos, List.getElem?_cons_zero, List.getElem?_cons_succ, evalS.eq_1, evalS.eq_2, evalS.eq_3, evalS.eq_4, evalS.eq_5, evalS.eq_6, evalS.eq_7, evalS.eq_8, evalS.eq_9, evalS.eq_10, evalS.eq_11, evalS.eq_12, evalS.eq_13, evalS.eq_14, evalS.eq_15, evalS.eq_16, evalE.eq_1, evalE.eq_2, evalE.eq_3, evalE.eq_4, evalE.eq_5, evalE.eq_6, evalE.eq_7, evalE.eq_8, evalE.eq_9, evalE.eq_10, evalE.eq_11, evalE.eq_12, evalE.eq_13, evalE.eq_14, evalE.eq_15, evalE.eq_16, evalE.eq_17, evalE.eq_18, evalE.eq_19, evalE.eq_20, evalE.eq_21, evalE.eq_22, evalE.eq_23, evalE.eq_24, evalE.eq_25, evalE.eq_26, evalE.eq_27, evalE.eq_28, evalE.eq_29, evalE.eq_30, evalE.eq_31, evalE.eq_32, evalE.eq_33, evalE.eq_34, evalE.eq_35, evalE.eq_36, evalEs.eq_1, evalEs.eq_2, evalL.eq_1, evalL.eq_2, evalL.eq_3, evalL.eq_4, evalL.eq_5, evalL.eq_6, evalL.eq_7, evalL.eq_8, evalL.eq_9, evalI.eq_1, evalI.eq_2, evalI.eq_3, evalI.eq_4, evalI.eq_5, evalI.eq_6, evalI.eq_7, evalI.eq_8, evalI.eq_9, evalI.eq_10, evalT, evalAnd.eq_1, evalOr.eq_1, evalH.eq_1, evalH.eq_2, handle, E.isNil, E.isNo, Val.isNon, truth, optI, x_lim, x_lim2, Ev.puts.eq_1, Ev.puts.eq_2, lvOf.eq_1, lvOf.eq_2, x_ofO_ite, x_bind_ite, x_toF_ite, x_fb_ite, x_fin_ite, j_ok, j_rt, j_nx, j_int, j_str, j_bl, j_cons, j_some, j_isNon, j_bl2, j_bl3, j_and, j_or, x_mod, x_fdv, x_pw, x_shr, x_mul, x_mulL, x_mulM, x_mulN, h1, e, on])]
  simp [-getElem?_neg, -getElem?_pos, List.getElem?_cons_zero, List.getElem?_cons_succ, evalS.eq_1, evalS.eq_2, evalS.eq_3, evalS.eq_4, evalS.eq_5, evalS.eq_6, evalS.eq_7, evalS.eq_8, evalS.eq_9, evalS.eq_10, evalS.eq_11, evalS.eq_12, evalS.eq_13, evalS.eq_14, evalS.eq_15, evalS.eq_16, evalE.eq_1, evalE.eq_2, evalE.eq_3, evalE.eq_4, evalE.eq_5, evalE.eq_6, evalE.eq_7, evalE.eq_8, evalE.eq_9, evalE.eq_10, evalE.eq_11, evalE.eq_12, evalE.eq_13, evalE.eq_14, evalE.eq_15, evalE.eq_16, evalE.eq_17, evalE.eq_18, evalE.eq_19, evalE.eq_20, evalE.eq_21, evalE.eq_22, evalE.eq_23, evalE.eq_24, evalE.eq_25, evalE.eq_26, evalE.eq_27, evalE.eq_28, evalE.eq_29, evalE.eq_30, evalE.eq_31, evalE.eq_32, evalE.eq_33, evalE.eq_34, evalE.eq_35, evalE.eq_36, evalEs.eq_1, evalEs.eq_2, evalL.eq_1, evalL.eq_2, evalL.eq_3, evalL.eq_4, evalL.eq_5, evalL.eq_6, evalL.eq_7, evalL.eq_8, evalL.eq_9, evalI.eq_1, evalI.eq_2, evalI.eq_3, evalI.eq_4, evalI.eq_5, evalI.eq_6, evalI.eq_7, evalI.eq_8, evalI.eq_9, evalI.eq_10, evalT, evalAnd.eq_1, evalOr.eq_1, evalH.eq_1, evalH.eq_2, handle, E.isNil, E.isNo, Val.isNon, truth, optI, x_lim, x_lim2, Ev.puts.eq_1, Ev.puts.eq_2, lvOf.eq_1, lvOf.eq_2, x_ofO_ite, x_bind_ite, x_toF_ite, x_fb_ite, x_fin_ite, j_ok, j_rt, j_nx, j_int, j_str, j_bl, j_cons, j_some, j_isNon, j_bl2, j_bl3, j_and, j_or, x_mod, x_fdv, x_pw, x_shr, x_mul, x_mulL, x_mulM, x_mulN, h1, h2, eg, g1, g2, setSub, ei, Store.put, hD]
/-- a store that has no place (no word) to be told -/
theorem shelf_noplace {c col o ss ls S} (h : IsShelf c col o ss ls S) (t p : Int) (hn : ∀ j, spotS ss t = some j → ∃ s q, ss[j]? = some s ∧ s.p = some q) (n : Nat) : callN P (n+2) f_Shelf_placed [.ref o, .int t, .int p] S = .exc C_NoTicket [] S := by
  obtain ⟨A, B, h⟩ := h
  have h1 := h.ho; have h2 := h.hA
  have e := spot_ok A (ss.map Sto.val) (sto_rw ss) t S h2 n
  rw [spot_sto] at e
  rw [u_Shelf_placed]
  cases z : spotS ss t with
  | none => rw [z] at e; simp [-getElem?_neg, -getElem?_pos, List.getElem?_cons_zero, List.getElem?_cons_succ, evalS.eq_1, evalS.eq_2, evalS.eq_3, evalS.eq_4, evalS.eq_5, evalS.eq_6, evalS.eq_7, evalS.eq_8, evalS.eq_9, evalS.eq_10, evalS.eq_11, evalS.eq_12, evalS.eq_13, evalS.eq_14, evalS.eq_15, evalS.eq_16, evalE.eq_1, evalE.eq_2, evalE.eq_3, evalE.eq_4, evalE.eq_5, evalE.eq_6, evalE.eq_7, evalE.eq_8, evalE.eq_9, evalE.eq_10, evalE.eq_11, evalE.eq_12, evalE.eq_13, evalE.eq_14, evalE.eq_15, evalE.eq_16, evalE.eq_17, evalE.eq_18, evalE.eq_19, evalE.eq_20, evalE.eq_21, evalE.eq_22, evalE.eq_23, evalE.eq_24, evalE.eq_25, evalE.eq_26, evalE.eq_27, evalE.eq_28, evalE.eq_29, evalE.eq_30, evalE.eq_31, evalE.eq_32, evalE.eq_33, evalE.eq_34, evalE.eq_35, evalE.eq_36, evalEs.eq_1, evalEs.eq_2, evalL.eq_1, evalL.eq_2, evalL.eq_3, evalL.eq_4, evalL.eq_5, evalL.eq_6, evalL.eq_7, evalL.eq_8, evalL.eq_9, evalI.eq_1, evalI.eq_2, evalI.eq_3, evalI.eq_4, evalI.eq_5, evalI.eq_6, evalI.eq_7, evalI.eq_8, evalI.eq_9, evalI.eq_10, evalT, evalAnd.eq_1, evalOr.eq_1, evalH.eq_1, evalH.eq_2, handle, E.isNil, E.isNo, Val.isNon, truth, optI, x_lim, x_lim2, Ev.puts.eq_1, Ev.puts.eq_2, lvOf.eq_1, lvOf.eq_2, x_ofO_ite, x_bind_ite, x_toF_ite, x_fb_ite, x_fin_ite, j_ok, j_rt, j_nx, j_int, j_str, j_bl, j_cons, j_some, j_isNon, j_bl2, j_bl3, j_and, j_or, x_mod, x_fdv, x_pw, x_shr, x_mul, x_mulL, x_mulM, x_mulN, b_Shelf_placed, h1, e, on]
  | some j =>
    rw [z] at e
    obtain ⟨s, q, g1, g2⟩ := hn j z
    have eg : MP.atI (ss.map Sto.val) (j : Int) = some s.val := by rw [at_nat]; simp [g1]
    have g3 : getI S s.val (.int 1) = some (.int q) := by simp [Sto.val, g2, oi]
    generalize s.val = xv at *
    simp [-getElem?_neg, -getElem?_pos, List.getElem?_cons_zero, List.getElem?_cons_succ, evalS.eq_1, evalS.eq_2, evalS.eq_3, evalS.eq_4, evalS.eq_5, evalS.eq_6, evalS.eq_7, evalS.eq_8, evalS.eq_9, evalS.eq_10, evalS.eq_11, evalS.eq_12, evalS.eq_13, evalS.eq_14, evalS.eq_15, evalS.eq_16, evalE.eq_1, evalE.eq_2, evalE.eq_3, evalE.eq_4, evalE.eq_5, evalE.eq_6, evalE.eq_7, evalE.eq_8, evalE.eq_9, evalE.eq_10, evalE.eq_11, evalE.eq_12, evalE.eq_13, evalE.eq_14, evalE.eq_15, evalE.eq_16, evalE.eq_17, evalE.eq_18, evalE.eq_19, evalE.eq_20, evalE.eq_21, evalE.eq_22, evalE.eq_23, evalE.eq_24, evalE.eq_25, evalE.eq_26, evalE.eq_27, evalE.eq_28, evalE.eq_29, evalE.eq_30, evalE.eq_31, evalE.eq_32, evalE.eq_33, evalE.eq_34, evalE.eq_35, evalE.eq_36, evalEs.eq_1, evalEs.eq_2, evalL.eq_1, evalL.eq_2, evalL.eq_3, evalL.eq_4, evalL.eq_5, evalL.eq_6, evalL.eq_7, evalL.eq_8, evalL.eq_9, evalI.eq_1, evalI.eq_2, evalI.eq_3, evalI.eq_4, evalI.eq_5, evalI.eq_6, evalI.eq_7, evalI.eq_8, evalI.eq_9, evalI.eq_10, evalT, evalAnd.eq_1, evalOr.eq_1, evalH.eq_1, evalH.eq_2, handle, E.isNil, E.isNo, Val.isNon, truth, optI, x_lim, x_lim2, Ev.puts.eq_1, Ev.puts.eq_2, lvOf.eq_1, lvOf.eq_2, x_ofO_ite, x_bind_ite, x_toF_ite, x_fb_ite, x_fin_ite, j_ok, j_rt, j_nx, j_int, j_str, j_bl, j_cons, j_some, j_isNon, j_bl2, j_bl3, j_and, j_or, x_mod, x_fdv, x_pw, x_shr, x_mul, x_mulL, x_mulM, x_mulN, b_Shelf_placed, h1, h2, e, on, eg, g3]
theorem shelf_noword {c col o ss ls S} (h : IsShelf c col o ss ls S) (t w : Int) (hn : ∀ j, spotS ss t = some j → ∃ s q, ss[j]? = some s ∧ s.w = some q) (n : Nat) : callN P (n+2) f_Shelf_worded [.ref o, .int t, .int w] S = .exc C_NoTicket [] S := by
  obtain ⟨A, B, h⟩ := h
  have h1 := h.ho; have h2 := h.hA
  have e := spot_ok A (ss.map Sto.val) (sto_rw ss) t S h2 n
  rw [spot_sto] at e
  rw [u_Shelf_worded]
  cases z : spotS ss t with
  | none => rw [z] at e; simp [-getElem?_neg, -getElem?_pos, List.getElem?_cons_zero, List.getElem?_cons_succ, evalS.eq_1, evalS.eq_2, evalS.eq_3, evalS.eq_4, evalS.eq_5, evalS.eq_6, evalS.eq_7, evalS.eq_8, evalS.eq_9, evalS.eq_10, evalS.eq_11, evalS.eq_12, evalS.eq_13, evalS.eq_14, evalS.eq_15, evalS.eq_16, evalE.eq_1, evalE.eq_2, evalE.eq_3, evalE.eq_4, evalE.eq_5, evalE.eq_6, evalE.eq_7, evalE.eq_8, evalE.eq_9, evalE.eq_10, evalE.eq_11, evalE.eq_12, evalE.eq_13, evalE.eq_14, evalE.eq_15, evalE.eq_16, evalE.eq_17, evalE.eq_18, evalE.eq_19, evalE.eq_20, evalE.eq_21, evalE.eq_22, evalE.eq_23, evalE.eq_24, evalE.eq_25, evalE.eq_26, evalE.eq_27, evalE.eq_28, evalE.eq_29, evalE.eq_30, evalE.eq_31, evalE.eq_32, evalE.eq_33, evalE.eq_34, evalE.eq_35, evalE.eq_36, evalEs.eq_1, evalEs.eq_2, evalL.eq_1, evalL.eq_2, evalL.eq_3, evalL.eq_4, evalL.eq_5, evalL.eq_6, evalL.eq_7, evalL.eq_8, evalL.eq_9, evalI.eq_1, evalI.eq_2, evalI.eq_3, evalI.eq_4, evalI.eq_5, evalI.eq_6, evalI.eq_7, evalI.eq_8, evalI.eq_9, evalI.eq_10, evalT, evalAnd.eq_1, evalOr.eq_1, evalH.eq_1, evalH.eq_2, handle, E.isNil, E.isNo, Val.isNon, truth, optI, x_lim, x_lim2, Ev.puts.eq_1, Ev.puts.eq_2, lvOf.eq_1, lvOf.eq_2, x_ofO_ite, x_bind_ite, x_toF_ite, x_fb_ite, x_fin_ite, j_ok, j_rt, j_nx, j_int, j_str, j_bl, j_cons, j_some, j_isNon, j_bl2, j_bl3, j_and, j_or, x_mod, x_fdv, x_pw, x_shr, x_mul, x_mulL, x_mulM, x_mulN, b_Shelf_worded, h1, e, on]
  | some j =>
    rw [z] at e
    obtain ⟨s, q, g1, g2⟩ := hn j z
    have eg : MP.atI (ss.map Sto.val) (j : Int) = some s.val := by rw [at_nat]; simp [g1]
    have g3 : getI S s.val (.int 2) = some (.int q) := by simp [Sto.val, g2, oi]
    generalize s.val = xv at *
    simp [-getElem?_neg, -getElem?_pos, List.getElem?_cons_zero, List.getElem?_cons_succ, evalS.eq_1, evalS.eq_2, evalS.eq_3, evalS.eq_4, evalS.eq_5, evalS.eq_6, evalS.eq_7, evalS.eq_8, evalS.eq_9, evalS.eq_10, evalS.eq_11, evalS.eq_12, evalS.eq_13, evalS.eq_14, evalS.eq_15, evalS.eq_16, evalE.eq_1, evalE.eq_2, evalE.eq_3, evalE.eq_4, evalE.eq_5, evalE.eq_6, evalE.eq_7, evalE.eq_8, evalE.eq_9, evalE.eq_10, evalE.eq_11, evalE.eq_12, evalE.eq_13, evalE.eq_14, evalE.eq_15, evalE.eq_16, evalE.eq_17, evalE.eq_18, evalE.eq_19, evalE.eq_20, evalE.eq_21, evalE.eq_22, evalE.eq_23, evalE.eq_24, evalE.eq_25, evalE.eq_26, evalE.eq_27, evalE.eq_28, evalE.eq_29, evalE.eq_30, evalE.eq_31, evalE.eq_32, evalE.eq_33, evalE.eq_34, evalE.eq_35, evalE.eq_36, evalEs.eq_1, evalEs.eq_2, evalL.eq_1, evalL.eq_2, evalL.eq_3, evalL.eq_4, evalL.eq_5, evalL.eq_6, evalL.eq_7, evalL.eq_8, evalL.eq_9, evalI.eq_1, evalI.eq_2, evalI.eq_3, evalI.eq_4, evalI.eq_5, evalI.eq_6, evalI.eq_7, evalI.eq_8, evalI.eq_9, evalI.eq_10, evalT, evalAnd.eq_1, evalOr.eq_1, evalH.eq_1, evalH.eq_2, handle, E.isNil, E.isNo, Val.isNon, truth, optI, x_lim, x_lim2, Ev.puts.eq_1, Ev.puts.eq_2, lvOf.eq_1, lvOf.eq_2, x_ofO_ite, x_bind_ite, x_toF_ite, x_fb_ite, x_fin_ite, j_ok, j_rt, j_nx, j_int, j_str, j_bl, j_cons, j_some, j_isNon, j_bl2, j_bl3, j_and, j_or, x_mod, x_fdv, x_pw, x_shr, x_mul, x_mulL, x_mulM, x_mulN, b_Shelf_worded, h1, h2, e, on, eg, g3]
def lookO (t p : Int) (d : Bool) (s : Sto) : Option Val := if t ≤ s.t then none else match s.p with
  | none => if d = true then none else some .non
  | some q => if q = p then some (match s.w with | none => .non | some w => .tup [.int s.t, .int w]) else none
def lookV (ss : List Sto) (t p : Int) (d : Bool) : Val := match ss.reverse.findSome? (lookO t p d) with
  | some v => v
  | none => .tup [.non, .non]
theorem look_body (a0 : Option Val) (t p : Int) (d : Bool) (s : Sto) (n : Nat) (S : Store) : match lookO t p d s with
    | some v => evalS P (callN P n) l_Shelf_look_0 [a0, some (.int t), some (.int p), some (.bl d), some (.int s.t), some (oi s.p), some (oi s.w)] S = .rt v S
    | none => Nx (evalS P (callN P n) l_Shelf_look_0 [a0, some (.int t), some (.int p), some (.bl d), some (.int s.t), some (oi s.p), some (oi s.w)] S) [a0, some (.int t), some (.int p), some (.bl d), some (.int s.t), some (oi s.p), some (oi s.w)] S := by
  obtain ⟨st, sp, sw⟩ := s
  by_cases h1 : t ≤ st
  · simp only [lookO, if_pos h1]
    exact .inr (by simp [-getElem?_neg, -getElem?_pos, List.getElem?_cons_zero, List.getElem?_cons_succ, evalS.eq_1, evalS.eq_2, evalS.eq_3, evalS.eq_4, evalS.eq_5, evalS.eq_6, evalS.eq_7, evalS.eq_8, evalS.eq_9, evalS.eq_10, evalS.eq_11, evalS.eq_12, evalS.eq_13, evalS.eq_14, evalS.eq_15, evalS.eq_16, evalE.eq_1, evalE.eq_2, evalE.eq_3, evalE.eq_4, evalE.eq_5, evalE.eq_6, evalE.eq_7, evalE.eq_8, evalE.eq_9, evalE.eq_10, evalE.eq_11, evalE.eq_12, evalE.eq_13, evalE.eq_14, evalE.eq_15, evalE.eq_16, evalE.eq_17, evalE.eq_18, evalE.eq_19, evalE.eq_20, evalE.eq_21, evalE.eq_22, evalE.eq_23, evalE.eq_24, evalE.eq_25, evalE.eq_26, evalE.eq_27, evalE.eq_28, evalE.eq_29, evalE.eq_30, evalE.eq_31, evalE.eq_32, evalE.eq_33, evalE.eq_34, evalE.eq_35, evalE.eq_36, evalEs.eq_1, evalEs.eq_2, evalL.eq_1, evalL.eq_2, evalL.eq_3, evalL.eq_4, evalL.eq_5, evalL.eq_6, evalL.eq_7, evalL.eq_8, evalL.eq_9, evalI.eq_1, evalI.eq_2, evalI.eq_3, evalI.eq_4, evalI.eq_5, evalI.eq_6, evalI.eq_7, evalI.eq_8, evalI.eq_9, evalI.eq_10, evalT, evalAnd.eq_1, evalOr.eq_1, evalH.eq_1, evalH.eq_2, handle, E.isNil, E.isNo, Val.isNon, truth, optI, x_lim, x_lim2, Ev.puts.eq_1, Ev.puts.eq_2, lvOf.eq_1, lvOf.eq_2, x_ofO_ite, x_bind_ite, x_toF_ite, x_fb_ite, x_fin_ite, j_ok, j_rt, j_nx, j_int, j_str, j_bl, j_cons, j_some, j_isNon, j_bl2, j_bl3, j_and, j_or, x_mod, x_fdv, x_pw, x_shr, x_mul, x_mulL, x_mulM, x_mulN, l_Shelf_look_0, h1])
  · cases sp with
    | none =>
      cases d with
      | true =>
        simp only [lookO, if_neg h1, if_true]
        exact .inl (by simp [-getElem?_neg, -getElem?_pos, List.getElem?_cons_zero, List.getElem?_cons_succ, evalS.eq_1, evalS.eq_2, evalS.eq_3, evalS.eq_4, evalS.eq_5, evalS.eq_6, evalS.eq_7, evalS.eq_8, evalS.eq_9, evalS.eq_10, evalS.eq_11, evalS.eq_12, evalS.eq_13, evalS.eq_14, evalS.eq_15, evalS.eq_16, evalE.eq_1, evalE.eq_2, evalE.eq_3, evalE.eq_4, evalE.eq_5, evalE.eq_6, evalE.eq_7, evalE.eq_8, evalE.eq_9, evalE.eq_10, evalE.eq_11, evalE.eq_12, evalE.eq_13, evalE.eq_14, evalE.eq_15, evalE.eq_16, evalE.eq_17, evalE.eq_18, evalE.eq_19, evalE.eq_20, evalE.eq_21, evalE.eq_22, evalE.eq_23, evalE.eq_24, evalE.eq_25, evalE.eq_26, evalE.eq_27, evalE.eq_28, evalE.eq_29, evalE.eq_30, evalE.eq_31, evalE.eq_32, evalE.eq_33, evalE.eq_34, evalE.eq_35, evalE.eq_36, evalEs.eq_1, evalEs.eq_2, evalL.eq_1, evalL.eq_2, evalL.eq_3, evalL.eq_4, evalL.eq_5, evalL.eq_6, evalL.eq_7, evalL.eq_8, evalL.eq_9, evalI.eq_1, evalI.eq_2, evalI.eq_3, evalI.eq_4, evalI.eq_5, evalI.eq_6, evalI.eq_7, evalI.eq_8, evalI.eq_9, evalI.eq_10, evalT, evalAnd.eq_1, evalOr.eq_1, evalH.eq_1, evalH.eq_2, handle, E.isNil, E.isNo, Val.isNon, truth, optI, x_lim, x_lim2, Ev.puts.eq_1, Ev.puts.eq_2, lvOf.eq_1, lvOf.eq_2, x_ofO_ite, x_bind_ite, x_toF_ite, x_fb_ite, x_fin_ite, j_ok, j_rt, j_nx, j_int, j_str, j_bl, j_cons, j_some, j_isNon, j_bl2, j_bl3, j_and, j_or, x_mod, x_fdv, x_pw, x_shr, x_mul, x_mulL, x_mulM, x_mulN, l_Shelf_look_0, oi, h1])
      | false =>
        simp only [lookO, if_neg h1, Bool.false_eq_true, if_false]
        simp [-getElem?_neg, -getElem?_pos, List.getElem?_cons_zero, List.getElem?_cons_succ, evalS.eq_1, evalS.eq_2, evalS.eq_3, evalS.eq_4, evalS.eq_5, evalS.eq_6, evalS.eq_7, evalS.eq_8, evalS.eq_9, evalS.eq_10, evalS.eq_11, evalS.eq_12, evalS.eq_13, evalS.eq_14, evalS.eq_15, evalS.eq_16, evalE.eq_1, evalE.eq_2, evalE.eq_3, evalE.eq_4, evalE.eq_5, evalE.eq_6, evalE.eq_7, evalE.eq_8, evalE.eq_9, evalE.eq_10, evalE.eq_11, evalE.eq_12, evalE.eq_13, evalE.eq_14, evalE.eq_15, evalE.eq_16, evalE.eq_17, evalE.eq_18, evalE.eq_19, evalE.eq_20, evalE.eq_21, evalE.eq_22, evalE.eq_23, evalE.eq_24, evalE.eq_25, evalE.eq_26, evalE.eq_27, evalE.eq_28, evalE.eq_29, evalE.eq_30, evalE.eq_31, evalE.eq_32, evalE.eq_33, evalE.eq_34, evalE.eq_35, evalE.eq_36, evalEs.eq_1, evalEs.eq_2, evalL.eq_1, evalL.eq_2, evalL.eq_3, evalL.eq_4, evalL.eq_5, evalL.eq_6, evalL.eq_7, evalL.eq_8, evalL.eq_9, evalI.eq_1, evalI.eq_2, evalI.eq_3, evalI.eq_4, evalI.eq_5, evalI.eq_6, evalI.eq_7, evalI.eq_8, evalI.eq_9, evalI.eq_10, evalT, evalAnd.eq_1, evalOr.eq_1, evalH.eq_1, evalH.eq_2, handle, E.isNil, E.isNo, Val.isNon, truth, optI, x_lim, x_lim2, Ev.puts.eq_1, Ev.puts.eq_2, lvOf.eq_1, lvOf.eq_2, x_ofO_ite, x_bind_ite, x_toF_ite, x_fb_ite, x_fin_ite, j_ok, j_rt, j_nx, j_int, j_str, j_bl, j_cons, j_some, j_isNon, j_bl2, j_bl3, j_and, j_or, x_mod, x_fdv, x_pw, x_shr, x_mul, x_mulL, x_mulM, x_mulN, l_Shelf_look_0, oi, h1]
    | some q =>
      by_cases h2 : q = p
      · simp only [lookO, if_neg h1, if_pos h2]
        cases sw with
        | none => simp [-getElem?_neg, -getElem?_pos, List.getElem?_cons_zero, List.getElem?_cons_succ, evalS.eq_1, evalS.eq_2, evalS.eq_3, evalS.eq_4, evalS.eq_5, evalS.eq_6, evalS.eq_7, evalS.eq_8, evalS.eq_9, evalS.eq_10, evalS.eq_11, evalS.eq_12, evalS.eq_13, evalS.eq_14, evalS.eq_15, evalS.eq_16, evalE.eq_1, evalE.eq_2, evalE.eq_3, evalE.eq_4, evalE.eq_5, evalE.eq_6, evalE.eq_7, evalE.eq_8, evalE.eq_9, evalE.eq_10, evalE.eq_11, evalE.eq_12, evalE.eq_13, evalE.eq_14, evalE.eq_15, evalE.eq_16, evalE.eq_17, evalE.eq_18, evalE.eq_19, evalE.eq_20, evalE.eq_21, evalE.eq_22, evalE.eq_23, evalE.eq_24, evalE.eq_25, evalE.eq_26, evalE.eq_27, evalE.eq_28, evalE.eq_29, evalE.eq_30, evalE.eq_31, evalE.eq_32, evalE.eq_33, evalE.eq_34, evalE.eq_35, evalE.eq_36, evalEs.eq_1, evalEs.eq_2, evalL.eq_1, evalL.eq_2, evalL.eq_3, evalL.eq_4, evalL.eq_5, evalL.eq_6, evalL.eq_7, evalL.eq_8, evalL.eq_9, evalI.eq_1, evalI.eq_2, evalI.eq_3, evalI.eq_4, evalI.eq_5, evalI.eq_6, evalI.eq_7, evalI.eq_8, evalI.eq_9, evalI.eq_10, evalT, evalAnd.eq_1, evalOr.eq_1, evalH.eq_1, evalH.eq_2, handle, E.isNil, E.isNo, Val.isNon, truth, optI, x_lim, x_lim2, Ev.puts.eq_1, Ev.puts.eq_2, lvOf.eq_1, lvOf.eq_2, x_ofO_ite, x_bind_ite, x_toF_ite, x_fb_ite, x_fin_ite, j_ok, j_rt, j_nx, j_int, j_str, j_bl, j_cons, j_some, j_isNon, j_bl2, j_bl3, j_and, j_or, x_mod, x_fdv, x_pw, x_shr, x_mul, x_mulL, x_mulM, x_mulN, l_Shelf_look_0, oi, h1, h2]
        | some w => simp [-getElem?_neg, -getElem?_pos, List.getElem?_cons_zero, List.getElem?_cons_succ, evalS.eq_1, evalS.eq_2, evalS.eq_3, evalS.eq_4, evalS.eq_5, evalS.eq_6, evalS.eq_7, evalS.eq_8, evalS.eq_9, evalS.eq_10, evalS.eq_11, evalS.eq_12, evalS.eq_13, evalS.eq_14, evalS.eq_15, evalS.eq_16, evalE.eq_1, evalE.eq_2, evalE.eq_3, evalE.eq_4, evalE.eq_5, evalE.eq_6, evalE.eq_7, evalE.eq_8, evalE.eq_9, evalE.eq_10, evalE.eq_11, evalE.eq_12, evalE.eq_13, evalE.eq_14, evalE.eq_15, evalE.eq_16, evalE.eq_17, evalE.eq_18, evalE.eq_19, evalE.eq_20, evalE.eq_21, evalE.eq_22, evalE.eq_23, evalE.eq_24, evalE.eq_25, evalE.eq_26, evalE.eq_27, evalE.eq_28, evalE.eq_29, evalE.eq_30, evalE.eq_31, evalE.eq_32, evalE.eq_33, evalE.eq_34, evalE.eq_35, evalE.eq_36, evalEs.eq_1, evalEs.eq_2, evalL.eq_1, evalL.eq_2, evalL.eq_3, evalL.eq_4, evalL.eq_5, evalL.eq_6, evalL.eq_7, evalL.eq_8, evalL.eq_9, evalI.eq_1, evalI.eq_2, evalI.eq_3, evalI.eq_4, evalI.eq_5, evalI.eq_6, evalI.eq_7, evalI.eq_8, evalI.eq_9, evalI.eq_10, evalT, evalAnd.eq_1, evalOr.eq_1, evalH.eq_1, evalH.eq_2, handle, E.isNil, E.isNo, Val.isNon, truth, optI, x_lim, x_lim2, Ev.puts.eq_1, Ev.puts.eq_2, lvOf.eq_1, lvOf.eq_2, x_ofO_ite, x_bind_ite, x_toF_ite, x_fb_ite, x_fin_ite, j_ok, j_rt, j_nx, j_int, j_str, j_bl, j_cons, j_some, j_isNon, j_bl2, j_bl3, j_and, j_or, x_mod, x_fdv, x_pw, x_shr, x_mul, x_mulL, x_mulM, x_mulN, l_Shelf_look_0, oi, h1, h2]
      · simp only [lookO, if_neg h1, if_neg h2]
        exact .inl (by simp [-getElem?_neg, -getElem?_pos, List.getElem?_cons_zero, List.getElem?_cons_succ, evalS.eq_1, evalS.eq_2, evalS.eq_3, evalS.eq_4, evalS.eq_5, evalS.eq_6, evalS.eq_7, evalS.eq_8, evalS.eq_9, evalS.eq_10, evalS.eq_11, evalS.eq_12, evalS.eq_13, evalS.eq_14, evalS.eq_15, evalS.eq_16, evalE.eq_1, evalE.eq_2, evalE.eq_3, evalE.eq_4, evalE.eq_5, evalE.eq_6, evalE.eq_7, evalE.eq_8, evalE.eq_9, evalE.eq_10, evalE.eq_11, evalE.eq_12, evalE.eq_13, evalE.eq_14, evalE.eq_15, evalE.eq_16, evalE.eq_17, evalE.eq_18, evalE.eq_19, evalE.eq_20, evalE.eq_21, evalE.eq_22, evalE.eq_23, evalE.eq_24, evalE.eq_25, evalE.eq_26, evalE.eq_27, evalE.eq_28, evalE.eq_29, evalE.eq_30, evalE.eq_31, evalE.eq_32, evalE.eq_33, evalE.eq_34, evalE.eq_35, evalE.eq_36, evalEs.eq_1, evalEs.eq_2, evalL.eq_1, evalL.eq_2, evalL.eq_3, evalL.eq_4, evalL.eq_5, evalL.eq_6, evalL.eq_7, evalL.eq_8, evalL.eq_9, evalI.eq_1, evalI.eq_2, evalI.eq_3, evalI.eq_4, evalI.eq_5, evalI.eq_6, evalI.eq_7, evalI.eq_8, evalI.eq_9, evalI.eq_10, evalT, evalAnd.eq_1, evalOr.eq_1, evalH.eq_1, evalH.eq_2, handle, E.isNil, E.isNo, Val.isNon, truth, optI, x_lim, x_lim2, Ev.puts.eq_1, Ev.puts.eq_2, lvOf.eq_1, lvOf.eq_2, x_ofO_ite, x_bind_ite, x_toF_ite, x_fb_ite, x_fin_ite, j_ok, j_rt, j_nx, j_int, j_str, j_bl, j_cons, j_some, j_isNon, j_bl2, j_bl3, j_and, j_or, x_mod, x_fdv, x_pw, x_shr, x_mul, x_mulL, x_mulM, x_mulN, l_Shelf_look_0, oi, h1, h2])
theorem shelf_look {c col o ss ls S} (h : IsShelf c col o ss ls S) (t p : Int) (d : Bool) (n : Nat) : callN P (n+1) f_Shelf_look [.ref o, .int t, .int p, .bl d] S = .ok (lookV ss t p d) S := by
  obtain ⟨A, B, h⟩ := h
  have h1 := h.ho; have h2 := h.hA
  have key := for_rev_any (P := P) (cf := callN P n) (e := .fld (.var 0) F_kept_stores) (u := l_Shelf_look_0) (tg := [4, 5, 6]) (one := false) (xs := ss.map Sto.val) (q := A) (ρ := [some (.ref o), some (.int t), some (.int p), some (.bl d), none, none, none]) (S := S) (S1 := S) (ev_fld (ev_var rfl) h1 (by simp))
    (fun i ρ S' => ∃ a b c, ρ = [some (.ref o), some (.int t), some (.int p), some (.bl d), a, b, c] ∧ S' = S ∧ ∀ s ∈ ss.reverse.take i, lookO t p d s = none)
    (fun r => (F.bind r fun ρ1 S1 => evalS P (callN P n) (.cons (.ret (.tup (.cons .non (.cons .non .nil)))) .nil) ρ1 S1) = .rt (lookV ss t p d) S)
    (fun i ρ S' ⟨_, _, _, _, q, _⟩ => by rw [q]; exact x_lst h2) (fun i ρ S' hi ⟨a, b, c, q1, q2, q3⟩ => by
      subst q1; subst q2
      have hi : i < ss.reverse.length := by simpa using hi
      refine ⟨[some (.ref o), some (.int t), some (.int p), some (.bl d), some (.int ss.reverse[i].t), some (oi ss.reverse[i].p), some (oi ss.reverse[i].w)], by simp [← List.map_reverse, Sto.val, Ev.puts], ?_⟩
      have hb := look_body (some (.ref o)) t p d ss.reverse[i] n S'
      have tk := take_snoc hi
      cases z : lookO t p d ss.reverse[i] with
      | some v =>
        rw [z] at hb
        simp only at hb
        rw [hb]
        have e : ss.reverse.findSome? (lookO t p d) = some v := by
          rw [← List.take_append_drop (i+1) ss.reverse, List.findSome?_append, tk, List.findSome?_append]
          have e1 : (ss.reverse.take i).findSome? (lookO t p d) = none := List.findSome?_eq_none_iff.mpr q3
          rw [e1]
          simp only [List.findSome?_cons, List.findSome?_nil, z, Option.none_or, Option.some_or]
        show F.rt v S' = _
        rw [lookV, e]
      | none =>
        rw [z] at hb
        simp only at hb
        have nx : ∃ a b c, [some (.ref o), some (.int t), some (.int p), some (.bl d), some (.int ss.reverse[i].t), some (oi ss.reverse[i].p), some (oi ss.reverse[i].w)] = [some (.ref o), some (.int t), some (.int p), some (.bl d), a, b, c] ∧ S' = S' ∧ ∀ s ∈ ss.reverse.take (i+1), lookO t p d s = none := ⟨_, _, _, rfl, rfl, fun s hs => by
          rw [tk] at hs
          rcases List.mem_append.mp hs with w | w
          · exact q3 s w
          · simp only [List.mem_singleton] at w; rw [w]; exact z⟩
        rcases hb with hb | hb <;> (rw [hb]; exact nx)) (fun ρ S' ⟨a, b, c, q1, q2, q3⟩ => by
      subst q1; subst q2
      have e : ss.reverse.findSome? (lookO t p d) = none := List.findSome?_eq_none_iff.mpr fun s hs => q3 s (by
        rw [List.length_map, ← List.length_reverse, List.take_length]; exact hs)
      rw [lookV, e]
      simp [-getElem?_neg, -getElem?_pos, List.getElem?_cons_zero, List.getElem?_cons_succ, evalS.eq_1, evalS.eq_2, evalS.eq_3, evalS.eq_4, evalS.eq_5, evalS.eq_6, evalS.eq_7, evalS.eq_8, evalS.eq_9, evalS.eq_10, evalS.eq_11, evalS.eq_12, evalS.eq_13, evalS.eq_14, evalS.eq_15, evalS.eq_16, evalE.eq_1, evalE.eq_2, evalE.eq_3, evalE.eq_4, evalE.eq_5, evalE.eq_6, evalE.eq_7, evalE.eq_8, evalE.eq_9, evalE.eq_10, evalE.eq_11, evalE.eq_12, evalE.eq_13, evalE.eq_14, evalE.eq_15, evalE.eq_16, evalE.eq_17, evalE.eq_18, evalE.eq_19, evalE.eq_20, evalE.eq_21, evalE.eq_22, evalE.eq_23, evalE.eq_24, evalE.eq_25, evalE.eq_26, evalE.eq_27, evalE.eq_28, evalE.eq_29, evalE.eq_30, evalE.eq_31, evalE.eq_32, evalE.eq_33, evalE.eq_34, evalE.eq_35, evalE.eq_36, evalEs.eq_1, evalEs.eq_2, evalL.eq_1, evalL.eq_2, evalL.eq_3, evalL.eq_4, evalL.eq_5, evalL.eq_6, evalL.eq_7, evalL.eq_8, evalL.eq_9, evalI.eq_1, evalI.eq_2, evalI.eq_3, evalI.eq_4, evalI.eq_5, evalI.eq_6, evalI.eq_7, evalI.eq_8, evalI.eq_9, evalI.eq_10, evalT, evalAnd.eq_1, evalOr.eq_1, evalH.eq_1, evalH.eq_2, handle, E.isNil, E.isNo, Val.isNon, truth, optI, x_lim, x_lim2, Ev.puts.eq_1, Ev.puts.eq_2, lvOf.eq_1, lvOf.eq_2, x_ofO_ite, x_bind_ite, x_toF_ite, x_fb_ite, x_fin_ite, j_ok, j_rt, j_nx, j_int, j_str, j_bl, j_cons, j_some, j_isNon, j_bl2, j_bl3, j_and, j_or, x_mod, x_fdv, x_pw, x_shr, x_mul, x_mulL, x_mulM, x_mulN]) ⟨none, none, none, rfl, rfl, by simp⟩
  rw [u_Shelf_look]
  unfold b_Shelf_look
  refine s_fin (?_ : _ = MP.F.rt _ _) rfl
  rw [evalS.eq_2]
  exact key
theorem vEq_ni {S : Store} {i : Int} : vEq S .non (.int i) = some false := by
  unfold vEq
  simp [toD, PyData.eqv]
theorem vEq_in {S : Store} {i : Int} : vEq S (.int i) .non = some false := by
  unfold vEq
  simp [toD, PyData.eqv]
theorem look_kind (ss : List Sto) (t p : Int) (d : Bool) : lookV ss t p d = .non ∨ lookV ss t p d = .tup [.non, .non] ∨ ∃ k w, lookV ss t p d = .tup [.int k, .int w] := by
  unfold lookV
  cases e : ss.reverse.findSome? (lookO t p d) with
  | none => exact .inr (.inl rfl)
  | some v =>
    obtain ⟨s, _, hs⟩ := List.exists_of_findSome?_eq_some e
    simp only
    unfold lookO at hs
    split at hs
    · cases hs
    · split at hs
      · split at hs
        · cases hs
        · cases hs; exact .inl rfl
      · split at hs
        · cases hs
          cases s.w with
          | none => exact .inl rfl
          | some w => exact .inr (.inr ⟨_, _, rfl⟩)
        · cases hs
theorem shelf_loaded {c col o ss ls S} (h : IsShelf c col o ss ls S) (t p : Int) (g : Option Int) (h1 : spotS ss t = none) (h2 : spotL ls t = none) (hl : ls.length < 10000) (n : Nat) : ∃ S', callN P (n+2) f_Shelf_loaded [.ref o, .int t, .int p, oi g] S = .ok .non S' ∧ IsShelf c col o ss (ls ++ [⟨t, p, g⟩]) S' ∧ Stp (· = c) col S col S' := by
  obtain ⟨A, B, h⟩ := h
  have k1 := h.ho; have k2 := h.hA; have k3 := h.hB
  have hlen : ls.length < 1000000 := by omega
  have e1 := spot_ok B (ls.map Lod.val) (lod_rw ls) t S k3 n
  rw [spot_lod, h2] at e1
  have e2 := spot_ok A (ss.map Sto.val) (sto_rw ss) t S k2 n
  rw [spot_sto, h1] at e2
  refine ⟨S.set B (.lst (ls.map Lod.val ++ [.tup [.int t, .int p, oi g]])), ?_, ⟨A, B, ?_, ?_, ?_, h.co, h.cA, h.cB, h.ne, h.fs, by simp; omega⟩, Stp.set _ h.cB⟩
  · rw [u_Shelf_loaded]
    generalize oi g = gv at *
    simp [-getElem?_neg, -getElem?_pos, List.getElem?_cons_zero, List.getElem?_cons_succ, evalS.eq_1, evalS.eq_2, evalS.eq_3, evalS.eq_4, evalS.eq_5, evalS.eq_6, evalS.eq_7, evalS.eq_8, evalS.eq_9, evalS.eq_10, evalS.eq_11, evalS.eq_12, evalS.eq_13, evalS.eq_14, evalS.eq_15, evalS.eq_16, evalE.eq_1, evalE.eq_2, evalE.eq_3, evalE.eq_4, evalE.eq_5, evalE.eq_6, evalE.eq_7, evalE.eq_8, evalE.eq_9, evalE.eq_10, evalE.eq_11, evalE.eq_12, evalE.eq_13, evalE.eq_14, evalE.eq_15, evalE.eq_16, evalE.eq_17, evalE.eq_18, evalE.eq_19, evalE.eq_20, evalE.eq_21, evalE.eq_22, evalE.eq_23, evalE.eq_24, evalE.eq_25, evalE.eq_26, evalE.eq_27, evalE.eq_28, evalE.eq_29, evalE.eq_30, evalE.eq_31, evalE.eq_32, evalE.eq_33, evalE.eq_34, evalE.eq_35, evalE.eq_36, evalEs.eq_1, evalEs.eq_2, evalL.eq_1, evalL.eq_2, evalL.eq_3, evalL.eq_4, evalL.eq_5, evalL.eq_6, evalL.eq_7, evalL.eq_8, evalL.eq_9, evalI.eq_1, evalI.eq_2, evalI.eq_3, evalI.eq_4, evalI.eq_5, evalI.eq_6, evalI.eq_7, evalI.eq_8, evalI.eq_9, evalI.eq_10, evalT, evalAnd.eq_1, evalOr.eq_1, evalH.eq_1, evalH.eq_2, handle, E.isNil, E.isNo, Val.isNon, truth, optI, x_lim, x_lim2, Ev.puts.eq_1, Ev.puts.eq_2, lvOf.eq_1, lvOf.eq_2, x_ofO_ite, x_bind_ite, x_toF_ite, x_fb_ite, x_fin_ite, j_ok, j_rt, j_nx, j_int, j_str, j_bl, j_cons, j_some, j_isNon, j_bl2, j_bl3, j_and, j_or, x_mod, x_fdv, x_pw, x_shr, x_mul, x_mulL, x_mulM, x_mulN, b_Shelf_loaded, k1, k3, e1, e2, on, Store.put, hlen]
  · rw [x_set_ne (fun z => by rw [z, k3] at k1; cases k1)]; exact k1
  · rw [x_set_ne h.ne]; exact k2
  · rw [x_set_at k3]; simp [Lod.val]
theorem shelf_noload {c col o ss ls S} (h : IsShelf c col o ss ls S) (t p : Int) (g : Option Int) (hn : ¬ (spotS ss t = none ∧ spotL ls t = none)) (n : Nat) : callN P (n+2) f_Shelf_loaded [.ref o, .int t, .int p, oi g] S = .exc C_NoTicket [] S := by
  obtain ⟨A, B, h⟩ := h
  have k1 := h.ho; have k2 := h.hA; have k3 := h.hB
  have e1 := spot_ok B (ls.map Lod.val) (lod_rw ls) t S k3 n
  rw [spot_lod] at e1
  have e2 := spot_ok A (ss.map Sto.val) (sto_rw ss) t S k2 n
  rw [spot_sto] at e2
  rw [u_Shelf_loaded]
  generalize oi g = gv at *
  cases q1 : spotL ls t with
  | some j => rw [q1] at e1; simp [-getElem?_neg, -getElem?_pos, List.getElem?_cons_zero, List.getElem?_cons_succ, evalS.eq_1, evalS.eq_2, evalS.eq_3, evalS.eq_4, evalS.eq_5, evalS.eq_6, evalS.eq_7, evalS.eq_8, evalS.eq_9, evalS.eq_10, evalS.eq_11, evalS.eq_12, evalS.eq_13, evalS.eq_14, evalS.eq_15, evalS.eq_16, evalE.eq_1, evalE.eq_2, evalE.eq_3, evalE.eq_4, evalE.eq_5, evalE.eq_6, evalE.eq_7, evalE.eq_8, evalE.eq_9, evalE.eq_10, evalE.eq_11, evalE.eq_12, evalE.eq_13, evalE.eq_14, evalE.eq_15, evalE.eq_16, evalE.eq_17, evalE.eq_18, evalE.eq_19, evalE.eq_20, evalE.eq_21, evalE.eq_22, evalE.eq_23, evalE.eq_24, evalE.eq_25, evalE.eq_26, evalE.eq_27, evalE.eq_28, evalE.eq_29, evalE.eq_30, evalE.eq_31, evalE.eq_32, evalE.eq_33, evalE.eq_34, evalE.eq_35, evalE.eq_36, evalEs.eq_1, evalEs.eq_2, evalL.eq_1, evalL.eq_2, evalL.eq_3, evalL.eq_4, evalL.eq_5, evalL.eq_6, evalL.eq_7, evalL.eq_8, evalL.eq_9, evalI.eq_1, evalI.eq_2, evalI.eq_3, evalI.eq_4, evalI.eq_5, evalI.eq_6, evalI.eq_7, evalI.eq_8, evalI.eq_9, evalI.eq_10, evalT, evalAnd.eq_1, evalOr.eq_1, evalH.eq_1, evalH.eq_2, handle, E.isNil, E.isNo, Val.isNon, truth, optI, x_lim, x_lim2, Ev.puts.eq_1, Ev.puts.eq_2, lvOf.eq_1, lvOf.eq_2, x_ofO_ite, x_bind_ite, x_toF_ite, x_fb_ite, x_fin_ite, j_ok, j_rt, j_nx, j_int, j_str, j_bl, j_cons, j_some, j_isNon, j_bl2, j_bl3, j_and, j_or, x_mod, x_fdv, x_pw, x_shr, x_mul, x_mulL, x_mulM, x_mulN, b_Shelf_loaded, k1, e1, on]
  | none =>
    cases q2 : spotS ss t with
    | none => exact absurd ⟨q2, q1⟩ hn
    | some j => rw [q1] at e1; rw [q2] at e2; simp [-getElem?_neg, -getElem?_pos, List.getElem?_cons_zero, List.getElem?_cons_succ, evalS.eq_1, evalS.eq_2, evalS.eq_3, evalS.eq_4, evalS.eq_5, evalS.eq_6, evalS.eq_7, evalS.eq_8, evalS.eq_9, evalS.eq_10, evalS.eq_11, evalS.eq_12, evalS.eq_13, evalS.eq_14, evalS.eq_15, evalS.eq_16, evalE.eq_1, evalE.eq_2, evalE.eq_3, evalE.eq_4, evalE.eq_5, evalE.eq_6, evalE.eq_7, evalE.eq_8, evalE.eq_9, evalE.eq_10, evalE.eq_11, evalE.eq_12, evalE.eq_13, evalE.eq_14, evalE.eq_15, evalE.eq_16, evalE.eq_17, evalE.eq_18, evalE.eq_19, evalE.eq_20, evalE.eq_21, evalE.eq_22, evalE.eq_23, evalE.eq_24, evalE.eq_25, evalE.eq_26, evalE.eq_27, evalE.eq_28, evalE.eq_29, evalE.eq_30, evalE.eq_31, evalE.eq_32, evalE.eq_33, evalE.eq_34, evalE.eq_35, evalE.eq_36, evalEs.eq_1, evalEs.eq_2, evalL.eq_1, evalL.eq_2, evalL.eq_3, evalL.eq_4, evalL.eq_5, evalL.eq_6, evalL.eq_7, evalL.eq_8, evalL.eq_9, evalI.eq_1, evalI.eq_2, evalI.eq_3, evalI.eq_4, evalI.eq_5, evalI.eq_6, evalI.eq_7, evalI.eq_8, evalI.eq_9, evalI.eq_10, evalT, evalAnd.eq_1, evalOr.eq_1, evalH.eq_1, evalH.eq_2, handle, E.isNil, E.isNo, Val.isNon, truth, optI, x_lim, x_lim2, Ev.puts.eq_1, Ev.puts.eq_2, lvOf.eq_1, lvOf.eq_2, x_ofO_ite, x_bind_ite, x_toF_ite, x_fb_ite, x_fin_ite, j_ok, j_rt, j_nx, j_int, j_str, j_bl, j_cons, j_some, j_isNon, j_bl2, j_bl3, j_and, j_or, x_mod, x_fdv, x_pw, x_shr, x_mul, x_mulL, x_mulM, x_mulN, b_Shelf_loaded, k1, e1, e2, on]
theorem shelf_stores {c col o ss ls S} (h : IsShelf c col o ss ls S) (n : Nat) : callN P (n+1) f_Shelf_stores [.ref o] S = .ok (.ref S.length) (S ++ [.lst (ss.map Sto.val)]) := by
  obtain ⟨A, B, h⟩ := h
  rw [u_Shelf_stores]
  unfold b_Shelf_stores
  exact s_fin (es_one (es_ret (cp_lst (ev_fld (ev_var rfl) h.ho (by simp)) h.hA))) rfl
def leL (a b : Lod) : Bool := decide (a.t ≤ b.t)
def leS (a b : Sto) : Bool := decide (a.t ≤ b.t)
theorem keysN_map {α : Type} (g : α → Val) (k : α → Int) (f : Nat) (cf : Nat → List Val → Store → R Val) (S : Store) (h : ∀ x, cf f [g x] S = .ok (.int (k x)) S) : ∀ xs : List α, keysN cf f [] (xs.map g) S = some (xs.map k, S)
  | [] => rfl
  | x :: xs => by
    rw [List.map_cons, keysN, h x]
    simp only
    rw [keysN_map g k f cf S h xs]
    rfl
theorem sortK_map {α : Type} (g : α → Val) (k : α → Int) (xs : List α) : sortK (xs.map k) (xs.map g) = (xs.mergeSort fun a b => decide (k a ≤ k b)).map g := by
  unfold sortK
  have e : (xs.map g).zip (xs.map k) = xs.map fun x => (g x, k x) := by rw [List.zip_map']
  rw [e, ← List.map_mergeSort (r := fun a b => decide (k a ≤ k b)) (fun _ _ _ _ => rfl), List.map_map]
  rfl
theorem first_of_ok (v : Val) (t : Int) (r : List Val) (h : v = .tup (.int t :: r)) (n : Nat) (S : Store) : callN P (n+1) f_first_of [v] S = .ok (.int t) S := by
  subst h
  rw [u_first_of]
  unfold b_first_of
  exact s_fin (es_one (es_ret (ev_ixt (xs := .int t :: r) (ev_var rfl) (ev_int 0) (by show MP.atI _ ((0 : Nat) : Int) = _; rw [at_nat]; rfl)))) rfl
theorem shelf_loads {c col o ss ls S} (h : IsShelf c col o ss ls S) (n : Nat) : callN P (n+2) f_Shelf_loads [.ref o] S = .ok (.ref S.length) (S ++ [.lst ((ls.mergeSort leL).map Lod.val)]) := by
  obtain ⟨A, B, h⟩ := h
  have hk := keysN_map Lod.val (fun x : Lod => x.t) f_first_of (callN P (n+1)) S (fun x => first_of_ok x.val x.t _ rfl n S) ls
  have e := ev_sortK (cf := callN P (n+1)) (a := .lof (.fld (.var 0) F_kept_loads)) (ρ := [some (.ref o)]) (f := f_first_of) (el_ref (ev_fld (ev_var rfl) h.ho (by simp)) h.hB) rfl (x_lst h.hB) hk
  rw [sortK_map] at e
  rw [u_Shelf_loads]
  unfold b_Shelf_loads
  exact s_fin (es_one (es_ret (ev_list e))) rfl
def AscL (ls : List Lod) : Prop := ls.Pairwise fun a b => a.t < b.t
theorem asc_uniq {ls : List Lod} (h : AscL ls) {a b : Lod} (ha : a ∈ ls) (hb : b ∈ ls) (e : a.t = b.t) : a = b := by
  obtain ⟨i, hi, rfl⟩ := List.mem_iff_getElem.mp ha
  obtain ⟨j, hj, rfl⟩ := List.mem_iff_getElem.mp hb
  have h' := List.pairwise_iff_getElem.mp h
  rcases Nat.lt_trichotomy i j with z | z | z
  · have := h' i j hi hj z; omega
  · subst z; rfl
  · have := h' j i hj hi z; omega
theorem leL_srt (ls : List Lod) : (ls.mergeSort leL).Pairwise fun a b => a.t ≤ b.t := by
  have h := List.pairwise_mergeSort (le := leL) (fun a b c h1 h2 => by simp only [leL, decide_eq_true_eq] at *; omega) (fun a b => by simp only [leL, Bool.or_eq_true, decide_eq_true_eq]; omega) ls
  exact h.imp fun h => by simpa [leL] using h
/-- the one rising order -/
theorem sort_asc {ls l0 : List Lod} (ha : AscL ls) (hp : ls.Perm l0) : l0.mergeSort leL = ls := by
  have hm : (l0.mergeSort leL).Perm ls := (List.mergeSort_perm l0 leL).trans hp.symm
  refine List.Perm.eq_of_pairwise (le := fun a b : Lod => a.t ≤ b.t) (fun a b h1 h2 h3 h4 => ?_) (leL_srt l0) (List.Pairwise.imp (fun h => by omega) ha) hm
  exact asc_uniq ha (hm.mem_iff.mp h1) h2 (by omega)
/-- one more, with a free ticket -/
theorem asc_more {ls : List Lod} (ha : AscL ls) (x : Lod) (hx : ∀ y ∈ ls, y.t ≠ x.t) : AscL ((ls ++ [x]).mergeSort leL) := by
  have hm := List.mergeSort_perm (ls ++ [x]) leL
  have nd : ((ls ++ [x]).map (·.t)).Nodup := by
    rw [List.map_append]
    refine List.nodup_append.mpr ⟨?_, by simp, fun a h1 b h2 => ?_⟩
    · unfold List.Nodup
      rw [List.pairwise_map]
      exact List.Pairwise.imp (fun h => by omega) ha
    · obtain ⟨y, hy, rfl⟩ := List.mem_map.mp h1
      simp at h2; subst h2
      exact hx y hy
  have nd2 : (((ls ++ [x]).mergeSort leL).map (·.t)).Nodup := (hm.map (·.t)).nodup_iff.mpr nd
  unfold List.Nodup at nd2
  rw [List.pairwise_map] at nd2
  unfold AscL
  exact (List.Pairwise.and (leL_srt (ls ++ [x])) nd2).imp fun ⟨h1, h2⟩ => by omega
def BiteC (t p : Int) (l : Lod) : Prop := t < l.t ∧ l.p = p ∧ ∀ g, l.g = some g → g < t
instance (t p : Int) (l : Lod) : Decidable (BiteC t p l) := by unfold BiteC; infer_instance
theorem bite_spec (t p : Int) : ∀ (ls : List Lod) (b : Option Int), match ls.foldl (biteB t p) b with
    | none => b = none ∧ ∀ l ∈ ls, ¬ BiteC t p l
    | some k => (b = some k ∨ ∃ l ∈ ls, BiteC t p l ∧ l.t = k) ∧ (∀ l ∈ ls, BiteC t p l → k ≤ l.t) ∧ ∀ m, b = some m → k ≤ m
  | [], b => by
    simp only [List.foldl_nil]
    cases b with
    | none => exact ⟨rfl, by simp⟩
    | some k => exact ⟨.inl rfl, by simp, fun m h => by cases h; omega⟩
  | l :: ls, b => by
    rw [List.foldl_cons]
    have hb0 : BiteC t p l → biteB t p b l = match b with | none => some l.t | some k => if l.t < k then some l.t else some k := fun hc => if_pos hc
    have ih := bite_spec t p ls (biteB t p b l)
    by_cases hc : BiteC t p l
    · have hb := hb0 hc
      cases h : ls.foldl (biteB t p) (biteB t p b l) with
      | none =>
        rw [h] at ih
        have h1 : biteB t p b l = none := ih.1
        rw [hb] at h1
        cases b with
        | none => cases h1
        | some k => simp only at h1; split at h1 <;> cases h1
      | some k =>
        rw [h] at ih
        obtain ⟨i1, i2, i3⟩ := ih
        rw [hb] at i1 i3
        refine ⟨?_, fun y hy hy2 => ?_, fun m hm => ?_⟩
        · rcases i1 with i1 | ⟨y, a1, a2, a3⟩
          · cases b with
            | none => exact .inr ⟨l, by simp, hc, by simpa using i1⟩
            | some m =>
              simp only at i1
              split at i1
              · exact .inr ⟨l, by simp, hc, by simpa using i1⟩
              · exact .inl i1
          · exact .inr ⟨y, List.mem_cons_of_mem _ a1, a2, a3⟩
        · rcases List.mem_cons.mp hy with rfl | hy
          · cases b with
            | none => exact i3 _ rfl
            | some m =>
              simp only at i3
              split at i3
              · exact i3 _ rfl
              · have := i3 _ rfl; omega
          · exact i2 y hy hy2
        · subst hm
          simp only at i3
          split at i3
          · have := i3 _ rfl; omega
          · exact i3 _ rfl
    · have hb : biteB t p b l = b := if_neg hc
      rw [hb] at ih ⊢
      cases h : ls.foldl (biteB t p) b with
      | none =>
        rw [h] at ih
        exact ⟨ih.1, fun y hy => by
          rcases List.mem_cons.mp hy with rfl | hy
          · exact hc
          · exact ih.2 y hy⟩
      | some k =>
        rw [h] at ih
        obtain ⟨i1, i2, i3⟩ := ih
        refine ⟨i1.imp id fun ⟨y, a1, a2⟩ => ⟨y, List.mem_cons_of_mem _ a1, a2⟩, fun y hy hy2 => ?_, i3⟩
        rcases List.mem_cons.mp hy with rfl | hy
        · exact absurd hy2 hc
        · exact i2 y hy hy2
/-- the first one that is bitten, where they rise -/
def firstB (ls : List Lod) (t p : Int) : Option Int := (ls.find? fun l => decide (BiteC t p l)).map (·.t)
theorem first_bitten {ls l0 : List Lod} (ha : AscL ls) (hp : ls.Perm l0) (t p : Int) : bitten l0 t p = firstB ls t p := by
  have h := bite_spec t p l0 none
  unfold bitten
  cases e : l0.foldl (biteB t p) none with
  | none =>
    rw [e] at h
    have : ls.find? (fun l => decide (BiteC t p l)) = none := by
      rw [List.find?_eq_none]
      intro x hx
      simpa using h.2 x (hp.mem_iff.mp hx)
    rw [firstB, this]; rfl
  | some k =>
    rw [e] at h
    obtain ⟨h1, h2, _⟩ := h
    rcases h1 with h1 | ⟨l, a1, a2, a3⟩
    · cases h1
    have hl := hp.mem_iff.mpr a1
    cases q : ls.find? (fun l => decide (BiteC t p l)) with
    | none =>
      rw [List.find?_eq_none] at q
      have := q l hl
      simp at this
      exact absurd a2 this
    | some m =>
      have m1 := List.find?_some q
      have m1 : BiteC t p m := by simpa using m1
      have m2 := List.mem_of_find?_eq_some q
      have m3 := h2 m (hp.mem_iff.mp m2) m1
      rw [firstB, q]
      show some k = some m.t
      congr 1
      -- m is the first: none ahead of it
      obtain ⟨i, hi, hm⟩ := List.mem_iff_getElem.mp m2
      obtain ⟨j, hj, hl2⟩ := List.mem_iff_getElem.mp hl
      have h' := List.pairwise_iff_getElem.mp ha
      rw [List.find?_eq_some_iff_getElem] at q
      obtain ⟨_, i2, hi2, hm2, hbef⟩ := q
      rcases Nat.lt_trichotomy i2 j with z | z | z
      · have := h' i2 j hi2 hj z
        rw [hm2, hl2] at this; omega
      · subst z; rw [hm2] at hl2; rw [hl2]; exact a3.symm
      · have := hbef j z
        rw [hl2] at this
        simp at this
        exact absurd a2 this
def AscS (rs : List Sto) : Prop := rs.Pairwise fun a b => a.t < b.t
theorem asc_spot {rs : List Sto} (h : AscS rs) {k : Nat} (hk : k < rs.length) : spotS rs rs[k].t = some k := by
  unfold spotS
  rw [List.findIdx?_eq_some_iff_getElem]
  refine ⟨hk, by simp, fun j hj => ?_⟩
  have := List.pairwise_iff_getElem.mp h j k (by omega) hk hj
  simp; omega
theorem asc_last {rs : List Sto} {x : Sto} (h : AscS (rs ++ [x])) : ∀ q ∈ rs ++ [x], q.t ≤ x.t := fun q hq => by
  rcases List.mem_append.mp hq with z | z
  · have := (List.pairwise_append.mp h).2.2 q z x (by simp); omega
  · simp at z; subst z; omega
theorem asc_set {rs : List Sto} (h : AscS rs) {k : Nat} (hk : k < rs.length) {x : Sto} (hx : x.t = rs[k].t) : AscS (rs.set k x) := by
  unfold AscS
  rw [List.pairwise_iff_getElem]
  intro i j hi hj hij
  have h' := List.pairwise_iff_getElem.mp h
  have hi' : i < rs.length := by simpa using hi
  have hj' : j < rs.length := by simpa using hj
  have := h' i j hi' hj' hij
  rw [List.getElem_set, List.getElem_set]
  split
  · split
    · omega
    · rename_i z _; subst z; rw [hx]; exact this
  · split
    · rename_i z; subst z; rw [hx]; exact this
    · exact this
def flatN : Nat → Val → Bool
  | _, .non => true
  | _, .int _ => true
  | d + 1, .tup xs => xs.all (flatN d)
  | _, _ => false
theorem alike_tup (k : Nat) (xs : List Val) (h : ∀ x ∈ xs, ∀ n S, callN P (n+k) f_Lalike [x, x] S = .ok (.bl true) S) (n : Nat) (S : Store) : callN P (n+k+1) f_Lalike [.tup xs, .tup xs] S = .ok (.bl true) S := by
  rw [u_Lalike]
  simp [-getElem?_neg, -getElem?_pos, List.getElem?_cons_zero, List.getElem?_cons_succ, evalS.eq_1, evalS.eq_2, evalS.eq_3, evalS.eq_4, evalS.eq_5, evalS.eq_6, evalS.eq_7, evalS.eq_8, evalS.eq_9, evalS.eq_10, evalS.eq_11, evalS.eq_12, evalS.eq_13, evalS.eq_14, evalS.eq_15, evalS.eq_16, evalE.eq_1, evalE.eq_2, evalE.eq_3, evalE.eq_4, evalE.eq_5, evalE.eq_6, evalE.eq_7, evalE.eq_8, evalE.eq_9, evalE.eq_10, evalE.eq_11, evalE.eq_12, evalE.eq_13, evalE.eq_14, evalE.eq_15, evalE.eq_16, evalE.eq_17, evalE.eq_18, evalE.eq_19, evalE.eq_20, evalE.eq_21, evalE.eq_22, evalE.eq_23, evalE.eq_24, evalE.eq_25, evalE.eq_26, evalE.eq_27, evalE.eq_28, evalE.eq_29, evalE.eq_30, evalE.eq_31, evalE.eq_32, evalE.eq_33, evalE.eq_34, evalE.eq_35, evalE.eq_36, evalEs.eq_1, evalEs.eq_2, evalL.eq_1, evalL.eq_2, evalL.eq_3, evalL.eq_4, evalL.eq_5, evalL.eq_6, evalL.eq_7, evalL.eq_8, evalL.eq_9, evalI.eq_1, evalI.eq_2, evalI.eq_3, evalI.eq_4, evalI.eq_5, evalI.eq_6, evalI.eq_7, evalI.eq_8, evalI.eq_9, evalI.eq_10, evalT, evalAnd.eq_1, evalOr.eq_1, evalH.eq_1, evalH.eq_2, handle, E.isNil, E.isNo, Val.isNon, truth, optI, x_lim, x_lim2, Ev.puts.eq_1, Ev.puts.eq_2, lvOf.eq_1, lvOf.eq_2, x_ofO_ite, x_bind_ite, x_toF_ite, x_fb_ite, x_fin_ite, j_ok, j_rt, j_nx, j_int, j_str, j_bl, j_cons, j_some, j_isNon, j_bl2, j_bl3, j_and, j_or, x_mod, x_fdv, x_pw, x_shr, x_mul, x_mulL, x_mulM, x_mulN, b_Lalike, isTy]
  refine for_run (fun _ ρ S' => ∃ a b, ρ = [some (.tup xs), some (.tup xs), a, b] ∧ S' = S) (fun r => (F.bind r fun ρ1 S1 => F.rt (.bl true) S1).fin = .ok (.bl true) S) (fun i ρ S' hi ⟨a, b, e1, e2⟩ => ?_) (fun ρ S' ⟨a, b, e1, e2⟩ => ?_) ⟨none, none, rfl, rfl⟩
  · subst e1; subst e2
    have hi : i < xs.length := by simpa using hi
    have hx : xs[i]? = some xs[i] := List.getElem?_eq_getElem hi
    refine ⟨.tup [xs[i], xs[i]], [some (.tup xs), some (.tup xs), some xs[i], some xs[i]], by simp [-getElem?_neg, -getElem?_pos, List.getElem?_cons_zero, List.getElem?_cons_succ, evalS.eq_1, evalS.eq_2, evalS.eq_3, evalS.eq_4, evalS.eq_5, evalS.eq_6, evalS.eq_7, evalS.eq_8, evalS.eq_9, evalS.eq_10, evalS.eq_11, evalS.eq_12, evalS.eq_13, evalS.eq_14, evalS.eq_15, evalS.eq_16, evalE.eq_1, evalE.eq_2, evalE.eq_3, evalE.eq_4, evalE.eq_5, evalE.eq_6, evalE.eq_7, evalE.eq_8, evalE.eq_9, evalE.eq_10, evalE.eq_11, evalE.eq_12, evalE.eq_13, evalE.eq_14, evalE.eq_15, evalE.eq_16, evalE.eq_17, evalE.eq_18, evalE.eq_19, evalE.eq_20, evalE.eq_21, evalE.eq_22, evalE.eq_23, evalE.eq_24, evalE.eq_25, evalE.eq_26, evalE.eq_27, evalE.eq_28, evalE.eq_29, evalE.eq_30, evalE.eq_31, evalE.eq_32, evalE.eq_33, evalE.eq_34, evalE.eq_35, evalE.eq_36, evalEs.eq_1, evalEs.eq_2, evalL.eq_1, evalL.eq_2, evalL.eq_3, evalL.eq_4, evalL.eq_5, evalL.eq_6, evalL.eq_7, evalL.eq_8, evalL.eq_9, evalI.eq_1, evalI.eq_2, evalI.eq_3, evalI.eq_4, evalI.eq_5, evalI.eq_6, evalI.eq_7, evalI.eq_8, evalI.eq_9, evalI.eq_10, evalT, evalAnd.eq_1, evalOr.eq_1, evalH.eq_1, evalH.eq_2, handle, E.isNil, E.isNo, Val.isNon, truth, optI, x_lim, x_lim2, Ev.puts.eq_1, Ev.puts.eq_2, lvOf.eq_1, lvOf.eq_2, x_ofO_ite, x_bind_ite, x_toF_ite, x_fb_ite, x_fin_ite, j_ok, j_rt, j_nx, j_int, j_str, j_bl, j_cons, j_some, j_isNon, j_bl2, j_bl3, j_and, j_or, x_mod, x_fdv, x_pw, x_shr, x_mul, x_mulL, x_mulM, x_mulN, hx], by simp [-getElem?_neg, -getElem?_pos, List.getElem?_cons_zero, List.getElem?_cons_succ, evalS.eq_1, evalS.eq_2, evalS.eq_3, evalS.eq_4, evalS.eq_5, evalS.eq_6, evalS.eq_7, evalS.eq_8, evalS.eq_9, evalS.eq_10, evalS.eq_11, evalS.eq_12, evalS.eq_13, evalS.eq_14, evalS.eq_15, evalS.eq_16, evalE.eq_1, evalE.eq_2, evalE.eq_3, evalE.eq_4, evalE.eq_5, evalE.eq_6, evalE.eq_7, evalE.eq_8, evalE.eq_9, evalE.eq_10, evalE.eq_11, evalE.eq_12, evalE.eq_13, evalE.eq_14, evalE.eq_15, evalE.eq_16, evalE.eq_17, evalE.eq_18, evalE.eq_19, evalE.eq_20, evalE.eq_21, evalE.eq_22, evalE.eq_23, evalE.eq_24, evalE.eq_25, evalE.eq_26, evalE.eq_27, evalE.eq_28, evalE.eq_29, evalE.eq_30, evalE.eq_31, evalE.eq_32, evalE.eq_33, evalE.eq_34, evalE.eq_35, evalE.eq_36, evalEs.eq_1, evalEs.eq_2, evalL.eq_1, evalL.eq_2, evalL.eq_3, evalL.eq_4, evalL.eq_5, evalL.eq_6, evalL.eq_7, evalL.eq_8, evalL.eq_9, evalI.eq_1, evalI.eq_2, evalI.eq_3, evalI.eq_4, evalI.eq_5, evalI.eq_6, evalI.eq_7, evalI.eq_8, evalI.eq_9, evalI.eq_10, evalT, evalAnd.eq_1, evalOr.eq_1, evalH.eq_1, evalH.eq_2, handle, E.isNil, E.isNo, Val.isNon, truth, optI, x_lim, x_lim2, Ev.puts.eq_1, Ev.puts.eq_2, lvOf.eq_1, lvOf.eq_2, x_ofO_ite, x_bind_ite, x_toF_ite, x_fb_ite, x_fin_ite, j_ok, j_rt, j_nx, j_int, j_str, j_bl, j_cons, j_some, j_isNon, j_bl2, j_bl3, j_and, j_or, x_mod, x_fdv, x_pw, x_shr, x_mul, x_mulL, x_mulM, x_mulN], ?_⟩
    have e := h xs[i] (List.getElem_mem hi) n S'
    simp [-getElem?_neg, -getElem?_pos, List.getElem?_cons_zero, List.getElem?_cons_succ, evalS.eq_1, evalS.eq_2, evalS.eq_3, evalS.eq_4, evalS.eq_5, evalS.eq_6, evalS.eq_7, evalS.eq_8, evalS.eq_9, evalS.eq_10, evalS.eq_11, evalS.eq_12, evalS.eq_13, evalS.eq_14, evalS.eq_15, evalS.eq_16, evalE.eq_1, evalE.eq_2, evalE.eq_3, evalE.eq_4, evalE.eq_5, evalE.eq_6, evalE.eq_7, evalE.eq_8, evalE.eq_9, evalE.eq_10, evalE.eq_11, evalE.eq_12, evalE.eq_13, evalE.eq_14, evalE.eq_15, evalE.eq_16, evalE.eq_17, evalE.eq_18, evalE.eq_19, evalE.eq_20, evalE.eq_21, evalE.eq_22, evalE.eq_23, evalE.eq_24, evalE.eq_25, evalE.eq_26, evalE.eq_27, evalE.eq_28, evalE.eq_29, evalE.eq_30, evalE.eq_31, evalE.eq_32, evalE.eq_33, evalE.eq_34, evalE.eq_35, evalE.eq_36, evalEs.eq_1, evalEs.eq_2, evalL.eq_1, evalL.eq_2, evalL.eq_3, evalL.eq_4, evalL.eq_5, evalL.eq_6, evalL.eq_7, evalL.eq_8, evalL.eq_9, evalI.eq_1, evalI.eq_2, evalI.eq_3, evalI.eq_4, evalI.eq_5, evalI.eq_6, evalI.eq_7, evalI.eq_8, evalI.eq_9, evalI.eq_10, evalT, evalAnd.eq_1, evalOr.eq_1, evalH.eq_1, evalH.eq_2, handle, E.isNil, E.isNo, Val.isNon, truth, optI, x_lim, x_lim2, Ev.puts.eq_1, Ev.puts.eq_2, lvOf.eq_1, lvOf.eq_2, x_ofO_ite, x_bind_ite, x_toF_ite, x_fb_ite, x_fin_ite, j_ok, j_rt, j_nx, j_int, j_str, j_bl, j_cons, j_some, j_isNon, j_bl2, j_bl3, j_and, j_or, x_mod, x_fdv, x_pw, x_shr, x_mul, x_mulL, x_mulM, x_mulN, l_Lalike_0, e]
  · subst e1; subst e2
    simp [-getElem?_neg, -getElem?_pos, List.getElem?_cons_zero, List.getElem?_cons_succ, evalS.eq_1, evalS.eq_2, evalS.eq_3, evalS.eq_4, evalS.eq_5, evalS.eq_6, evalS.eq_7, evalS.eq_8, evalS.eq_9, evalS.eq_10, evalS.eq_11, evalS.eq_12, evalS.eq_13, evalS.eq_14, evalS.eq_15, evalS.eq_16, evalE.eq_1, evalE.eq_2, evalE.eq_3, evalE.eq_4, evalE.eq_5, evalE.eq_6, evalE.eq_7, evalE.eq_8, evalE.eq_9, evalE.eq_10, evalE.eq_11, evalE.eq_12, evalE.eq_13, evalE.eq_14, evalE.eq_15, evalE.eq_16, evalE.eq_17, evalE.eq_18, evalE.eq_19, evalE.eq_20, evalE.eq_21, evalE.eq_22, evalE.eq_23, evalE.eq_24, evalE.eq_25, evalE.eq_26, evalE.eq_27, evalE.eq_28, evalE.eq_29, evalE.eq_30, evalE.eq_31, evalE.eq_32, evalE.eq_33, evalE.eq_34, evalE.eq_35, evalE.eq_36, evalEs.eq_1, evalEs.eq_2, evalL.eq_1, evalL.eq_2, evalL.eq_3, evalL.eq_4, evalL.eq_5, evalL.eq_6, evalL.eq_7, evalL.eq_8, evalL.eq_9, evalI.eq_1, evalI.eq_2, evalI.eq_3, evalI.eq_4, evalI.eq_5, evalI.eq_6, evalI.eq_7, evalI.eq_8, evalI.eq_9, evalI.eq_10, evalT, evalAnd.eq_1, evalOr.eq_1, evalH.eq_1, evalH.eq_2, handle, E.isNil, E.isNo, Val.isNon, truth, optI, x_lim, x_lim2, Ev.puts.eq_1, Ev.puts.eq_2, lvOf.eq_1, lvOf.eq_2, x_ofO_ite, x_bind_ite, x_toF_ite, x_fb_ite, x_fin_ite, j_ok, j_rt, j_nx, j_int, j_str, j_bl, j_cons, j_some, j_isNon, j_bl2, j_bl3, j_and, j_or, x_mod, x_fdv, x_pw, x_shr, x_mul, x_mulL, x_mulM, x_mulN]
theorem alike_lst (k : Nat) (xs : List Val) (l m : Nat) (S : Store) (hl : S[l]? = some (.lst xs)) (hm : S[m]? = some (.lst xs)) (h : ∀ x ∈ xs, ∀ n S, callN P (n+k) f_Lalike [x, x] S = .ok (.bl true) S) (n : Nat) : callN P (n+k+1) f_Lalike [.ref l, .ref m] S = .ok (.bl true) S := by
  have q1 : S.lstAt l = some xs := x_lst hl
  have q2 : S.lstAt m = some xs := x_lst hm
  rw [u_Lalike]
  simp [-getElem?_neg, -getElem?_pos, List.getElem?_cons_zero, List.getElem?_cons_succ, evalS.eq_1, evalS.eq_2, evalS.eq_3, evalS.eq_4, evalS.eq_5, evalS.eq_6, evalS.eq_7, evalS.eq_8, evalS.eq_9, evalS.eq_10, evalS.eq_11, evalS.eq_12, evalS.eq_13, evalS.eq_14, evalS.eq_15, evalS.eq_16, evalE.eq_1, evalE.eq_2, evalE.eq_3, evalE.eq_4, evalE.eq_5, evalE.eq_6, evalE.eq_7, evalE.eq_8, evalE.eq_9, evalE.eq_10, evalE.eq_11, evalE.eq_12, evalE.eq_13, evalE.eq_14, evalE.eq_15, evalE.eq_16, evalE.eq_17, evalE.eq_18, evalE.eq_19, evalE.eq_20, evalE.eq_21, evalE.eq_22, evalE.eq_23, evalE.eq_24, evalE.eq_25, evalE.eq_26, evalE.eq_27, evalE.eq_28, evalE.eq_29, evalE.eq_30, evalE.eq_31, evalE.eq_32, evalE.eq_33, evalE.eq_34, evalE.eq_35, evalE.eq_36, evalEs.eq_1, evalEs.eq_2, evalL.eq_1, evalL.eq_2, evalL.eq_3, evalL.eq_4, evalL.eq_5, evalL.eq_6, evalL.eq_7, evalL.eq_8, evalL.eq_9, evalI.eq_1, evalI.eq_2, evalI.eq_3, evalI.eq_4, evalI.eq_5, evalI.eq_6, evalI.eq_7, evalI.eq_8, evalI.eq_9, evalI.eq_10, evalT, evalAnd.eq_1, evalOr.eq_1, evalH.eq_1, evalH.eq_2, handle, E.isNil, E.isNo, Val.isNon, truth, optI, x_lim, x_lim2, Ev.puts.eq_1, Ev.puts.eq_2, lvOf.eq_1, lvOf.eq_2, x_ofO_ite, x_bind_ite, x_toF_ite, x_fb_ite, x_fin_ite, j_ok, j_rt, j_nx, j_int, j_str, j_bl, j_cons, j_some, j_isNon, j_bl2, j_bl3, j_and, j_or, x_mod, x_fdv, x_pw, x_shr, x_mul, x_mulL, x_mulM, x_mulN, b_Lalike, isTy, hl, hm, bl1op.eq_1, bl1op.eq_2, bl1op.eq_3, bl1op.eq_4, bl1op.eq_5, bl1op.eq_6, bl1op.eq_7, bl1op.eq_8, q1, q2]
  refine for_run (fun _ ρ S' => ∃ a b, ρ = [some (.ref l), some (.ref m), a, b] ∧ S' = S) (fun r => (F.bind r fun ρ1 S1 => F.rt (.bl true) S1).fin = .ok (.bl true) S) (fun i ρ S' hi ⟨a, b, e1, e2⟩ => ?_) (fun ρ S' ⟨a, b, e1, e2⟩ => ?_) ⟨none, none, rfl, rfl⟩
  · subst e1; subst e2
    have hi : i < xs.length := by simpa using hi
    have hx : xs[i]? = some xs[i] := List.getElem?_eq_getElem hi
    refine ⟨.tup [xs[i], xs[i]], [some (.ref l), some (.ref m), some xs[i], some xs[i]], by simp [-getElem?_neg, -getElem?_pos, List.getElem?_cons_zero, List.getElem?_cons_succ, evalS.eq_1, evalS.eq_2, evalS.eq_3, evalS.eq_4, evalS.eq_5, evalS.eq_6, evalS.eq_7, evalS.eq_8, evalS.eq_9, evalS.eq_10, evalS.eq_11, evalS.eq_12, evalS.eq_13, evalS.eq_14, evalS.eq_15, evalS.eq_16, evalE.eq_1, evalE.eq_2, evalE.eq_3, evalE.eq_4, evalE.eq_5, evalE.eq_6, evalE.eq_7, evalE.eq_8, evalE.eq_9, evalE.eq_10, evalE.eq_11, evalE.eq_12, evalE.eq_13, evalE.eq_14, evalE.eq_15, evalE.eq_16, evalE.eq_17, evalE.eq_18, evalE.eq_19, evalE.eq_20, evalE.eq_21, evalE.eq_22, evalE.eq_23, evalE.eq_24, evalE.eq_25, evalE.eq_26, evalE.eq_27, evalE.eq_28, evalE.eq_29, evalE.eq_30, evalE.eq_31, evalE.eq_32, evalE.eq_33, evalE.eq_34, evalE.eq_35, evalE.eq_36, evalEs.eq_1, evalEs.eq_2, evalL.eq_1, evalL.eq_2, evalL.eq_3, evalL.eq_4, evalL.eq_5, evalL.eq_6, evalL.eq_7, evalL.eq_8, evalL.eq_9, evalI.eq_1, evalI.eq_2, evalI.eq_3, evalI.eq_4, evalI.eq_5, evalI.eq_6, evalI.eq_7, evalI.eq_8, evalI.eq_9, evalI.eq_10, evalT, evalAnd.eq_1, evalOr.eq_1, evalH.eq_1, evalH.eq_2, handle, E.isNil, E.isNo, Val.isNon, truth, optI, x_lim, x_lim2, Ev.puts.eq_1, Ev.puts.eq_2, lvOf.eq_1, lvOf.eq_2, x_ofO_ite, x_bind_ite, x_toF_ite, x_fb_ite, x_fin_ite, j_ok, j_rt, j_nx, j_int, j_str, j_bl, j_cons, j_some, j_isNon, j_bl2, j_bl3, j_and, j_or, x_mod, x_fdv, x_pw, x_shr, x_mul, x_mulL, x_mulM, x_mulN, hx, q1, q2], by simp [-getElem?_neg, -getElem?_pos, List.getElem?_cons_zero, List.getElem?_cons_succ, evalS.eq_1, evalS.eq_2, evalS.eq_3, evalS.eq_4, evalS.eq_5, evalS.eq_6, evalS.eq_7, evalS.eq_8, evalS.eq_9, evalS.eq_10, evalS.eq_11, evalS.eq_12, evalS.eq_13, evalS.eq_14, evalS.eq_15, evalS.eq_16, evalE.eq_1, evalE.eq_2, evalE.eq_3, evalE.eq_4, evalE.eq_5, evalE.eq_6, evalE.eq_7, evalE.eq_8, evalE.eq_9, evalE.eq_10, evalE.eq_11, evalE.eq_12, evalE.eq_13, evalE.eq_14, evalE.eq_15, evalE.eq_16, evalE.eq_17, evalE.eq_18, evalE.eq_19, evalE.eq_20, evalE.eq_21, evalE.eq_22, evalE.eq_23, evalE.eq_24, evalE.eq_25, evalE.eq_26, evalE.eq_27, evalE.eq_28, evalE.eq_29, evalE.eq_30, evalE.eq_31, evalE.eq_32, evalE.eq_33, evalE.eq_34, evalE.eq_35, evalE.eq_36, evalEs.eq_1, evalEs.eq_2, evalL.eq_1, evalL.eq_2, evalL.eq_3, evalL.eq_4, evalL.eq_5, evalL.eq_6, evalL.eq_7, evalL.eq_8, evalL.eq_9, evalI.eq_1, evalI.eq_2, evalI.eq_3, evalI.eq_4, evalI.eq_5, evalI.eq_6, evalI.eq_7, evalI.eq_8, evalI.eq_9, evalI.eq_10, evalT, evalAnd.eq_1, evalOr.eq_1, evalH.eq_1, evalH.eq_2, handle, E.isNil, E.isNo, Val.isNon, truth, optI, x_lim, x_lim2, Ev.puts.eq_1, Ev.puts.eq_2, lvOf.eq_1, lvOf.eq_2, x_ofO_ite, x_bind_ite, x_toF_ite, x_fb_ite, x_fin_ite, j_ok, j_rt, j_nx, j_int, j_str, j_bl, j_cons, j_some, j_isNon, j_bl2, j_bl3, j_and, j_or, x_mod, x_fdv, x_pw, x_shr, x_mul, x_mulL, x_mulM, x_mulN], ?_⟩
    have e := h xs[i] (List.getElem_mem hi) n S'
    simp [-getElem?_neg, -getElem?_pos, List.getElem?_cons_zero, List.getElem?_cons_succ, evalS.eq_1, evalS.eq_2, evalS.eq_3, evalS.eq_4, evalS.eq_5, evalS.eq_6, evalS.eq_7, evalS.eq_8, evalS.eq_9, evalS.eq_10, evalS.eq_11, evalS.eq_12, evalS.eq_13, evalS.eq_14, evalS.eq_15, evalS.eq_16, evalE.eq_1, evalE.eq_2, evalE.eq_3, evalE.eq_4, evalE.eq_5, evalE.eq_6, evalE.eq_7, evalE.eq_8, evalE.eq_9, evalE.eq_10, evalE.eq_11, evalE.eq_12, evalE.eq_13, evalE.eq_14, evalE.eq_15, evalE.eq_16, evalE.eq_17, evalE.eq_18, evalE.eq_19, evalE.eq_20, evalE.eq_21, evalE.eq_22, evalE.eq_23, evalE.eq_24, evalE.eq_25, evalE.eq_26, evalE.eq_27, evalE.eq_28, evalE.eq_29, evalE.eq_30, evalE.eq_31, evalE.eq_32, evalE.eq_33, evalE.eq_34, evalE.eq_35, evalE.eq_36, evalEs.eq_1, evalEs.eq_2, evalL.eq_1, evalL.eq_2, evalL.eq_3, evalL.eq_4, evalL.eq_5, evalL.eq_6, evalL.eq_7, evalL.eq_8, evalL.eq_9, evalI.eq_1, evalI.eq_2, evalI.eq_3, evalI.eq_4, evalI.eq_5, evalI.eq_6, evalI.eq_7, evalI.eq_8, evalI.eq_9, evalI.eq_10, evalT, evalAnd.eq_1, evalOr.eq_1, evalH.eq_1, evalH.eq_2, handle, E.isNil, E.isNo, Val.isNon, truth, optI, x_lim, x_lim2, Ev.puts.eq_1, Ev.puts.eq_2, lvOf.eq_1, lvOf.eq_2, x_ofO_ite, x_bind_ite, x_toF_ite, x_fb_ite, x_fin_ite, j_ok, j_rt, j_nx, j_int, j_str, j_bl, j_cons, j_some, j_isNon, j_bl2, j_bl3, j_and, j_or, x_mod, x_fdv, x_pw, x_shr, x_mul, x_mulL, x_mulM, x_mulN, l_Lalike_0, e]
  · subst e1; subst e2
    simp [-getElem?_neg, -getElem?_pos, List.getElem?_cons_zero, List.getElem?_cons_succ, evalS.eq_1, evalS.eq_2, evalS.eq_3, evalS.eq_4, evalS.eq_5, evalS.eq_6, evalS.eq_7, evalS.eq_8, evalS.eq_9, evalS.eq_10, evalS.eq_11, evalS.eq_12, evalS.eq_13, evalS.eq_14, evalS.eq_15, evalS.eq_16, evalE.eq_1, evalE.eq_2, evalE.eq_3, evalE.eq_4, evalE.eq_5, evalE.eq_6, evalE.eq_7, evalE.eq_8, evalE.eq_9, evalE.eq_10, evalE.eq_11, evalE.eq_12, evalE.eq_13, evalE.eq_14, evalE.eq_15, evalE.eq_16, evalE.eq_17, evalE.eq_18, evalE.eq_19, evalE.eq_20, evalE.eq_21, evalE.eq_22, evalE.eq_23, evalE.eq_24, evalE.eq_25, evalE.eq_26, evalE.eq_27, evalE.eq_28, evalE.eq_29, evalE.eq_30, evalE.eq_31, evalE.eq_32, evalE.eq_33, evalE.eq_34, evalE.eq_35, evalE.eq_36, evalEs.eq_1, evalEs.eq_2, evalL.eq_1, evalL.eq_2, evalL.eq_3, evalL.eq_4, evalL.eq_5, evalL.eq_6, evalL.eq_7, evalL.eq_8, evalL.eq_9, evalI.eq_1, evalI.eq_2, evalI.eq_3, evalI.eq_4, evalI.eq_5, evalI.eq_6, evalI.eq_7, evalI.eq_8, evalI.eq_9, evalI.eq_10, evalT, evalAnd.eq_1, evalOr.eq_1, evalH.eq_1, evalH.eq_2, handle, E.isNil, E.isNo, Val.isNon, truth, optI, x_lim, x_lim2, Ev.puts.eq_1, Ev.puts.eq_2, lvOf.eq_1, lvOf.eq_2, x_ofO_ite, x_bind_ite, x_toF_ite, x_fb_ite, x_fin_ite, j_ok, j_rt, j_nx, j_int, j_str, j_bl, j_cons, j_some, j_isNon, j_bl2, j_bl3, j_and, j_or, x_mod, x_fdv, x_pw, x_shr, x_mul, x_mulL, x_mulM, x_mulN, LV.fin, q1, q2]
theorem alike_flat : ∀ (d : Nat) (v : Val), flatN d v = true → ∀ n S, callN P (n+d+1) f_Lalike [v, v] S = .ok (.bl true) S
  | d, .non, _, n, S => by rw [u_Lalike]; simp [-getElem?_neg, -getElem?_pos, List.getElem?_cons_zero, List.getElem?_cons_succ, evalS.eq_1, evalS.eq_2, evalS.eq_3, evalS.eq_4, evalS.eq_5, evalS.eq_6, evalS.eq_7, evalS.eq_8, evalS.eq_9, evalS.eq_10, evalS.eq_11, evalS.eq_12, evalS.eq_13, evalS.eq_14, evalS.eq_15, evalS.eq_16, evalE.eq_1, evalE.eq_2, evalE.eq_3, evalE.eq_4, evalE.eq_5, evalE.eq_6, evalE.eq_7, evalE.eq_8, evalE.eq_9, evalE.eq_10, evalE.eq_11, evalE.eq_12, evalE.eq_13, evalE.eq_14, evalE.eq_15, evalE.eq_16, evalE.eq_17, evalE.eq_18, evalE.eq_19, evalE.eq_20, evalE.eq_21, evalE.eq_22, evalE.eq_23, evalE.eq_24, evalE.eq_25, evalE.eq_26, evalE.eq_27, evalE.eq_28, evalE.eq_29, evalE.eq_30, evalE.eq_31, evalE.eq_32, evalE.eq_33, evalE.eq_34, evalE.eq_35, evalE.eq_36, evalEs.eq_1, evalEs.eq_2, evalL.eq_1, evalL.eq_2, evalL.eq_3, evalL.eq_4, evalL.eq_5, evalL.eq_6, evalL.eq_7, evalL.eq_8, evalL.eq_9, evalI.eq_1, evalI.eq_2, evalI.eq_3, evalI.eq_4, evalI.eq_5, evalI.eq_6, evalI.eq_7, evalI.eq_8, evalI.eq_9, evalI.eq_10, evalT, evalAnd.eq_1, evalOr.eq_1, evalH.eq_1, evalH.eq_2, handle, E.isNil, E.isNo, Val.isNon, truth, optI, x_lim, x_lim2, Ev.puts.eq_1, Ev.puts.eq_2, lvOf.eq_1, lvOf.eq_2, x_ofO_ite, x_bind_ite, x_toF_ite, x_fb_ite, x_fin_ite, j_ok, j_rt, j_nx, j_int, j_str, j_bl, j_cons, j_some, j_isNon, j_bl2, j_bl3, j_and, j_or, x_mod, x_fdv, x_pw, x_shr, x_mul, x_mulL, x_mulM, x_mulN, b_Lalike]
  | _, .bl _, h, _, _ => by simp [flatN] at h
  | _, .str _, h, _, _ => by simp [flatN] at h
  | d, .int i, _, n, S => by rw [u_Lalike]; simp [-getElem?_neg, -getElem?_pos, List.getElem?_cons_zero, List.getElem?_cons_succ, evalS.eq_1, evalS.eq_2, evalS.eq_3, evalS.eq_4, evalS.eq_5, evalS.eq_6, evalS.eq_7, evalS.eq_8, evalS.eq_9, evalS.eq_10, evalS.eq_11, evalS.eq_12, evalS.eq_13, evalS.eq_14, evalS.eq_15, evalS.eq_16, evalE.eq_1, evalE.eq_2, evalE.eq_3, evalE.eq_4, evalE.eq_5, evalE.eq_6, evalE.eq_7, evalE.eq_8, evalE.eq_9, evalE.eq_10, evalE.eq_11, evalE.eq_12, evalE.eq_13, evalE.eq_14, evalE.eq_15, evalE.eq_16, evalE.eq_17, evalE.eq_18, evalE.eq_19, evalE.eq_20, evalE.eq_21, evalE.eq_22, evalE.eq_23, evalE.eq_24, evalE.eq_25, evalE.eq_26, evalE.eq_27, evalE.eq_28, evalE.eq_29, evalE.eq_30, evalE.eq_31, evalE.eq_32, evalE.eq_33, evalE.eq_34, evalE.eq_35, evalE.eq_36, evalEs.eq_1, evalEs.eq_2, evalL.eq_1, evalL.eq_2, evalL.eq_3, evalL.eq_4, evalL.eq_5, evalL.eq_6, evalL.eq_7, evalL.eq_8, evalL.eq_9, evalI.eq_1, evalI.eq_2, evalI.eq_3, evalI.eq_4, evalI.eq_5, evalI.eq_6, evalI.eq_7, evalI.eq_8, evalI.eq_9, evalI.eq_10, evalT, evalAnd.eq_1, evalOr.eq_1, evalH.eq_1, evalH.eq_2, handle, E.isNil, E.isNo, Val.isNon, truth, optI, x_lim, x_lim2, Ev.puts.eq_1, Ev.puts.eq_2, lvOf.eq_1, lvOf.eq_2, x_ofO_ite, x_bind_ite, x_toF_ite, x_fb_ite, x_fin_ite, j_ok, j_rt, j_nx, j_int, j_str, j_bl, j_cons, j_some, j_isNon, j_bl2, j_bl3, j_and, j_or, x_mod, x_fdv, x_pw, x_shr, x_mul, x_mulL, x_mulM, x_mulN, b_Lalike, isTy]
  | d + 1, .tup xs, h, n, S => alike_tup (d + 1) xs (fun x hx n S => alike_flat d x (by simp only [flatN, List.all_eq_true] at h; exact h x hx) n S) n S
  | 0, .tup xs, h, n, S => by simp [flatN] at h
  | _, .ref _, h, _, _ => by simp [flatN] at h
  | _, .exc _ _, h, _, _ => by simp [flatN] at h
theorem flat_mono {v : Val} : ∀ {d : Nat}, flatN 0 v = true → flatN d v = true := fun {d} h => by cases v <;> simp_all [flatN]
/-! comprehensions over lists of rows -/
theorem ev_flt {α : Type} (g h : α → Val) (q : α → Bool) {xs : List α} {cf : Nat → List Val → Store → R Val} {a c e : E} {tg own : List Nat} {ρ : Ev} {S S1 : Store} {l : Nat} (ha : evalE P cf a ρ S = .ok (.ref l) S1) (hl : S1[l]? = some (.lst (xs.map g))) (hn : xs.length ≤ 1000) (f : Val → Ev) (hf : ∀ v, Ev.tg tg true v (ρ.wipe own) = some (f v)) (hc : c.isNo = false) (hcc : ∀ x, evalE P cf c (f (g x)) S1 = .ok (.bl (q x)) S1) (he : ∀ x, evalE P cf e (f (g x)) S1 = .ok (h x) S1) :
    evalL P cf (.lcomp tg true own (.iof (.lof a)) c e) ρ S = .ok (.tmp ((xs.filter q).map h)) S1 := by
  obtain ⟨zs, S', h1, h2, h3⟩ := ev_comp (P := P) (cf := cf) (c := c) (a := e) (tg := tg) (one := true) (own := own) (ρ := ρ) (ei_of (el_ref ha hl) (x_lst hl)) rfl (fun i acc S' => S' = S1 ∧ acc = ((xs.take i).filter q).map h) (fun i acc S' hi ⟨e1, e2⟩ => by
    subst e1; subst e2
    have hi : i < (xs.map g).length := hi
    have hi : i < xs.length := by simpa using hi
    have hfl : ((xs.take i).filter q).length ≤ i := Nat.le_trans (List.length_filter_le _ _) (by rw [List.length_take]; omega)
    refine ⟨g xs[i], f (g xs[i]), q xs[i], S', by simp [LV.get, x_lst hl, hi], hf _, by rw [hc, hcc]; rfl, fun z => ⟨by rw [x_lim2, List.length_map]; omega, h xs[i], S', he _, rfl, ?_⟩, fun z => ⟨rfl, ?_⟩⟩
    · rw [take_snoc hi, List.filter_append]; simp [List.filter_cons, z]
    · rw [take_snoc hi, List.filter_append]; simp [List.filter_cons, z]) (fun acc S' ⟨e1, _⟩ => by subst e1; simp [LV.fin, x_lst hl]) ⟨rfl, by simp⟩
  subst h2
  have h3 : zs = ((xs.take (xs.map g).length).filter q).map h := h3
  rw [List.length_map, List.take_length] at h3
  rw [h1, h3]
theorem ev_mp {α : Type} (g h : α → Val) {xs : List α} {cf : Nat → List Val → Store → R Val} {a e : E} {tg own : List Nat} {ρ : Ev} {S S1 : Store} {l : Nat} (ha : evalE P cf a ρ S = .ok (.ref l) S1) (hl : S1[l]? = some (.lst (xs.map g))) (hn : xs.length ≤ 1000) (f : Val → Ev) (hf : ∀ v, Ev.tg tg true v (ρ.wipe own) = some (f v)) (he : ∀ x, evalE P cf e (f (g x)) S1 = .ok (h x) S1) :
    evalL P cf (.lcomp tg true own (.iof (.lof a)) .noPart e) ρ S = .ok (.tmp (xs.map h)) S1 := by
  obtain ⟨zs, S', h1, h2, h3⟩ := ev_comp (P := P) (cf := cf) (c := .noPart) (a := e) (tg := tg) (one := true) (own := own) (ρ := ρ) (ei_of (el_ref ha hl) (x_lst hl)) rfl (fun i acc S' => S' = S1 ∧ acc = (xs.take i).map h) (fun i acc S' hi ⟨e1, e2⟩ => by
    subst e1; subst e2
    have hi : i < (xs.map g).length := hi
    have hi : i < xs.length := by simpa using hi
    exact ⟨g xs[i], f (g xs[i]), true, S', by simp [LV.get, x_lst hl, hi], hf _, rfl, fun z => ⟨by rw [x_lim2, List.length_map, List.length_take]; omega, h xs[i], S', he _, rfl, by rw [take_snoc hi, List.map_append]; rfl⟩, fun z => by cases z⟩) (fun acc S' ⟨e1, _⟩ => by subst e1; simp [LV.fin, x_lst hl]) ⟨rfl, by simp⟩
  subst h2
  have h3 : zs = (xs.take (xs.map g).length).map h := h3
  rw [List.length_map, List.take_length] at h3
  rw [h1, h3]
theorem es_fldA {cf : Nat → List Val → Store → R Val} {a : E} {ρ : Ev} {S S1 : Store} {v : Val} {j l c f : Nat} {fs : List (Nat × Val)} (h1 : evalE P cf a ρ S = .ok v S1) (ho : ρ[j]? = some (some (.ref l))) (hl : S1[l]? = some (.ins c fs)) (hn : fs.length < 900) : evalS P cf (.asg (.fld (.var j) f) a) ρ S = .nx ρ (S1.set l (.ins c (fput f v fs))) := by
  have h2 : evalE P cf (.var j) ρ S1 = .ok (.ref l) S1 := ev_var ho
  simp only [evalS, h1, x_toF_ok, evalT, h2, setFld, hl, if_pos hn, Store.put]
theorem first_at (v : Val) (t : Int) (w : List Val) (h : v = .tup (.int t :: w)) {cf : Nat → List Val → Store → R Val} {a : E} {ρ : Ev} {S S1 : Store} (ha : evalE P cf a ρ S = .ok v S1) : evalE P cf (.ix a (.int 0)) ρ S = .ok (.int t) S1 := by
  subst h
  exact ev_ixt (xs := .int t :: w) ha (ev_int 0) (by show MP.atI _ ((0 : Nat) : Int) = _; rw [at_nat]; rfl)
/-- both lists sieved by the ticket -/
theorem shelf_sieve {c col o ss ls S} (h : IsShelf c col o ss ls S) (b1 : ss.length ≤ 1000) (b2 : ls.length ≤ 1000) (q : Int → Bool) {cf : Nat → List Val → Store → R Val} {ρ : Ev} {j : Nat} {c1 e1 c2 e2 : E} (f : Val → Ev) (h0 : ρ[0]? = some (some (.ref o))) (hf : ∀ v, Ev.tg [j] true v (ρ.wipe [j]) = some (f v)) (n1 : c1.isNo = false) (n2 : c2.isNo = false)
    (k1 : ∀ (t : Int) (w : List Val) X, evalE P cf c1 (f (.tup (.int t :: w))) X = .ok (.bl (q t)) X) (k2 : ∀ v X, evalE P cf e1 (f v) X = .ok v X) (k3 : ∀ (t : Int) (w : List Val) X, evalE P cf c2 (f (.tup (.int t :: w))) X = .ok (.bl (q t)) X) (k4 : ∀ v X, evalE P cf e2 (f v) X = .ok v X) :
    ∃ S' col', (∀ u, evalS P cf (.cons (.asg (.fld (.var 0) F_kept_stores) (.list (.lcomp [j] true [j] (.iof (.lof (.fld (.var 0) F_kept_stores))) c1 e1))) (.cons (.asg (.fld (.var 0) F_kept_loads) (.list (.lcomp [j] true [j] (.iof (.lof (.fld (.var 0) F_kept_loads))) c2 e2))) u)) ρ S = evalS P cf u ρ S') ∧ IsShelf c col' o (ss.filter fun s => q s.t) (ls.filter fun s => q s.t) S' ∧ Stp (· = c) col S col' S' := by
  obtain ⟨A, B, h⟩ := h
  have g1 := h.ho; have g2 := h.hA; have g3 := h.hB
  have l1 := ev_list (ev_flt (cf := cf) Sto.val Sto.val (fun s => q s.t) (ev_fld (f := F_kept_stores) (ev_var h0) g1 rfl) g2 b1 f hf n1 (fun x => k1 x.t _ S) (fun x => k2 _ S))
  obtain ⟨X, hX⟩ : ∃ X, S ++ [Ob.lst ((ss.filter fun s => q s.t).map Sto.val)] = X := ⟨_, rfl⟩
  rw [hX] at l1
  have x1 : X[o]? = some (.ins C_Shelf [(F_kept_stores, .ref A), (F_kept_loads, .ref B)]) := by rw [← hX]; exact x_old g1
  have x3 : X[B]? = some (.lst (ls.map Lod.val)) := by rw [← hX]; exact x_old g3
  have xn : X[S.length]? = some (.lst ((ss.filter fun s => q s.t).map Sto.val)) := by rw [← hX]; simp
  have s1 := es_fldA (f := F_kept_stores) l1 h0 x1 (by simp)
  have fp : fput F_kept_stores (.ref S.length) [(F_kept_stores, .ref A), (F_kept_loads, .ref B)] = [(F_kept_stores, .ref S.length), (F_kept_loads, .ref B)] := rfl
  rw [fp] at s1
  have ob : o ≠ B := fun z => by rw [z, x3] at x1; cases x1
  have on : o ≠ S.length := fun z => by rw [z, xn] at x1; cases x1
  obtain ⟨Y, hY⟩ : ∃ Y, X.set o (.ins C_Shelf [(F_kept_stores, .ref S.length), (F_kept_loads, .ref B)]) = Y := ⟨_, rfl⟩
  rw [hY] at s1
  have y1 : Y[o]? = some (.ins C_Shelf [(F_kept_stores, .ref S.length), (F_kept_loads, .ref B)]) := by rw [← hY]; exact x_set_at x1
  have y3 : Y[B]? = some (.lst (ls.map Lod.val)) := by rw [← hY, x_set_ne (Ne.symm ob)]; exact x3
  have yn : Y[S.length]? = some (.lst ((ss.filter fun s => q s.t).map Sto.val)) := by rw [← hY, x_set_ne (Ne.symm on)]; exact xn
  have l2 := ev_list (ev_flt (cf := cf) Lod.val Lod.val (fun s => q s.t) (ev_fld (f := F_kept_loads) (ev_var h0) y1 rfl) y3 b2 f hf n2 (fun x => k3 x.t _ Y) (fun x => k4 _ Y))
  obtain ⟨Z, hZ⟩ : ∃ Z, Y ++ [Ob.lst ((ls.filter fun s => q s.t).map Lod.val)] = Z := ⟨_, rfl⟩
  rw [hZ] at l2
  have z1 : Z[o]? = some (.ins C_Shelf [(F_kept_stores, .ref S.length), (F_kept_loads, .ref B)]) := by rw [← hZ]; exact x_old y1
  have zn : Z[S.length]? = some (.lst ((ss.filter fun s => q s.t).map Sto.val)) := by rw [← hZ]; exact x_old yn
  have zm : Z[Y.length]? = some (.lst ((ls.filter fun s => q s.t).map Lod.val)) := by rw [← hZ]; simp
  have s2 := es_fldA (f := F_kept_loads) l2 h0 z1 (by simp)
  have fp2 : fput F_kept_loads (.ref Y.length) [(F_kept_stores, .ref S.length), (F_kept_loads, .ref B)] = [(F_kept_stores, .ref S.length), (F_kept_loads, .ref Y.length)] := rfl
  rw [fp2] at s2
  have hlX : X.length = S.length + 1 := by rw [← hX]; simp
  have hlY : Y.length = S.length + 1 := by rw [← hY]; simp [hlX]
  have om : o ≠ Y.length := fun z => by rw [z, zm] at z1; cases z1
  have p1 : Stp (· = c) col S (paint col S.length c) X := by rw [← hX]; exact Stp.app _ c
  have c1' : paint col S.length c o = c := by rw [paint_old (x_low g1)]; exact h.co
  have p2 : Stp (· = c) (paint col S.length c) X (paint col S.length c) Y := by rw [← hY]; exact Stp.set _ c1'
  have p3 : Stp (· = c) (paint col S.length c) Y (paint col S.length c) Z := by rw [← hZ]; exact Stp.app' _
  refine ⟨_, paint col S.length c, fun u => (s_nx s1).trans (s_nx s2), ⟨S.length, Y.length, x_set_at z1, by rw [x_set_ne (Ne.symm on)]; exact zn, by rw [x_set_ne (Ne.symm om)]; exact zm, c1', paint_new (Nat.le_refl _), paint_new (by omega), by omega, Nat.le_trans (List.length_filter_le _ _) (by omega), Nat.le_trans (List.length_filter_le _ _) (by omega)⟩, ((p1.trans p2).trans p3).trans (Stp.set _ c1')⟩
theorem shelf_leave {c col o ss ls S} (h : IsShelf c col o ss ls S) (b1 : ss.length ≤ 1000) (b2 : ls.length ≤ 1000) (t : Int) (hn : ¬ (spotL ls t = none ∧ spotS ss t = none)) (n : Nat) : ∃ S' col', callN P (n+2) f_Shelf_leave [.ref o, .int t] S = .ok .non S' ∧ IsShelf c col' o (ss.filter fun s => decide (s.t ≠ t)) (ls.filter fun s => decide (s.t ≠ t)) S' ∧ Stp (· = c) col S col' S' := by
  obtain ⟨S', col', e, k1, k2⟩ := shelf_sieve h b1 b2 (fun x => decide (x ≠ t)) (cf := callN P (n+1)) (ρ := [some (.ref o), some (.int t), none]) (j := 2) (c1 := l_Shelf_leave_0) (e1 := l_Shelf_leave_1) (c2 := l_Shelf_leave_2) (e2 := l_Shelf_leave_3) (fun v => [some (.ref o), some (.int t), some v]) rfl (fun v => by simp [Ev.wipe]) rfl rfl
    (fun x w X => (ev_neI (first_at _ x w rfl (ev_var rfl)) (ev_var rfl)).trans (by simp)) (fun v X => ev_var rfl) (fun x w X => (ev_neI (first_at _ x w rfl (ev_var rfl)) (ev_var rfl)).trans (by simp)) (fun v X => ev_var rfl)
  refine ⟨S', col', ?_, k1, k2⟩
  obtain ⟨A, B, h⟩ := h
  have g1 := h.ho; have g2 := h.hA; have g3 := h.hB
  have e1 := spot_ok B (ls.map Lod.val) (lod_rw ls) t S g3 n
  rw [spot_lod] at e1
  have e2 := spot_ok A (ss.map Sto.val) (sto_rw ss) t S g2 n
  rw [spot_sto] at e2
  have c1 : evalE P (callN P (n+1)) (.and (.cons (.isN (.call f_spot_of (.cons (.fld (.var 0) F_kept_loads) (.cons (.var 1) .nil)) 0)) (.cons (.isN (.call f_spot_of (.cons (.fld (.var 0) F_kept_stores) (.cons (.var 1) .nil)) 0)) .nil))) [some (.ref o), some (.int t), none] S = .ok (.bl false) S := by
    have a1 : evalE P (callN P (n+1)) (.isN (.call f_spot_of (.cons (.fld (.var 0) F_kept_loads) (.cons (.var 1) .nil)) 0)) [some (.ref o), some (.int t), none] S = .ok (.bl (spotL ls t).isNone) S := by
      rw [← on_isN]; exact ev_isN (ev_call (k := 0) (evs_cons (ev_fld (ev_var rfl) g1 rfl) (evs_cons (ev_var rfl) evs_nil)) e1)
    have a2 : evalE P (callN P (n+1)) (.isN (.call f_spot_of (.cons (.fld (.var 0) F_kept_stores) (.cons (.var 1) .nil)) 0)) [some (.ref o), some (.int t), none] S = .ok (.bl (spotS ss t).isNone) S := by
      rw [← on_isN]; exact ev_isN (ev_call (k := 0) (evs_cons (ev_fld (ev_var rfl) g1 rfl) (evs_cons (ev_var rfl) evs_nil)) e2)
    refine (ev_and2 a1 fun _ => a2).trans ?_
    cases q1 : spotL ls t <;> cases q2 : spotS ss t <;> simp
    exact hn ⟨q1, q2⟩
  rw [u_Shelf_leave]
  unfold b_Shelf_leave
  rw [s_nx (es_off c1), e]
  simp only [evalS]; rfl
theorem shelf_noleave {c col o ss ls S} (h : IsShelf c col o ss ls S) (t : Int) (h1 : spotL ls t = none) (h2 : spotS ss t = none) (n : Nat) : callN P (n+2) f_Shelf_leave [.ref o, .int t] S = .exc C_NoTicket [] S := by
  obtain ⟨A, B, h⟩ := h
  have g1 := h.ho; have g2 := h.hA; have g3 := h.hB
  have e1 := spot_ok B (ls.map Lod.val) (lod_rw ls) t S g3 n
  rw [spot_lod, h1] at e1
  have e2 := spot_ok A (ss.map Sto.val) (sto_rw ss) t S g2 n
  rw [spot_sto, h2] at e2
  rw [u_Shelf_leave]
  simp [-getElem?_neg, -getElem?_pos, List.getElem?_cons_zero, List.getElem?_cons_succ, evalS.eq_1, evalS.eq_2, evalS.eq_3, evalS.eq_4, evalS.eq_5, evalS.eq_6, evalS.eq_7, evalS.eq_8, evalS.eq_9, evalS.eq_10, evalS.eq_11, evalS.eq_12, evalS.eq_13, evalS.eq_14, evalS.eq_15, evalS.eq_16, evalE.eq_1, evalE.eq_2, evalE.eq_3, evalE.eq_4, evalE.eq_5, evalE.eq_6, evalE.eq_7, evalE.eq_8, evalE.eq_9, evalE.eq_10, evalE.eq_11, evalE.eq_12, evalE.eq_13, evalE.eq_14, evalE.eq_15, evalE.eq_16, evalE.eq_17, evalE.eq_18, evalE.eq_19, evalE.eq_20, evalE.eq_21, evalE.eq_22, evalE.eq_23, evalE.eq_24, evalE.eq_25, evalE.eq_26, evalE.eq_27, evalE.eq_28, evalE.eq_29, evalE.eq_30, evalE.eq_31, evalE.eq_32, evalE.eq_33, evalE.eq_34, evalE.eq_35, evalE.eq_36, evalEs.eq_1, evalEs.eq_2, evalL.eq_1, evalL.eq_2, evalL.eq_3, evalL.eq_4, evalL.eq_5, evalL.eq_6, evalL.eq_7, evalL.eq_8, evalL.eq_9, evalI.eq_1, evalI.eq_2, evalI.eq_3, evalI.eq_4, evalI.eq_5, evalI.eq_6, evalI.eq_7, evalI.eq_8, evalI.eq_9, evalI.eq_10, evalT, evalAnd.eq_1, evalOr.eq_1, evalH.eq_1, evalH.eq_2, handle, E.isNil, E.isNo, Val.isNon, truth, optI, x_lim, x_lim2, Ev.puts.eq_1, Ev.puts.eq_2, lvOf.eq_1, lvOf.eq_2, x_ofO_ite, x_bind_ite, x_toF_ite, x_fb_ite, x_fin_ite, j_ok, j_rt, j_nx, j_int, j_str, j_bl, j_cons, j_some, j_isNon, j_bl2, j_bl3, j_and, j_or, x_mod, x_fdv, x_pw, x_shr, x_mul, x_mulL, x_mulM, x_mulN, b_Shelf_leave, g1, e1, e2, on]
theorem shelf_throw {c col o ss ls S} (h : IsShelf c col o ss ls S) (b1 : ss.length ≤ 1000) (b2 : ls.length ≤ 1000) (t : Int) (n : Nat) : ∃ S' col', callN P (n+1) f_Shelf_throw [.ref o, .int t] S = .ok (.int ((ss.length : Int) + ls.length - (ss.filter fun s => decide (s.t < t)).length - (ls.filter fun s => decide (s.t < t)).length)) S' ∧ IsShelf c col' o (ss.filter fun s => decide (s.t < t)) (ls.filter fun s => decide (s.t < t)) S' ∧ Stp (· = c) col S col' S' := by
  obtain ⟨m, hm⟩ : ∃ m : Int, (ss.length : Int) + ls.length = m := ⟨_, rfl⟩
  obtain ⟨S', col', e, k1, k2⟩ := shelf_sieve h b1 b2 (fun x => decide (x < t)) (cf := callN P n) (ρ := [some (.ref o), some (.int t), some (.int m), none]) (j := 3) (c1 := l_Shelf_throw_0) (e1 := l_Shelf_throw_1) (c2 := l_Shelf_throw_2) (e2 := l_Shelf_throw_3) (fun v => [some (.ref o), some (.int t), some (.int m), some v]) rfl (fun v => by simp [Ev.wipe]) rfl rfl
    (fun x w X => ev_ltI (first_at _ x w rfl (ev_var rfl)) (ev_var rfl)) (fun v X => ev_var rfl) (fun x w X => ev_ltI (first_at _ x w rfl (ev_var rfl)) (ev_var rfl)) (fun v X => ev_var rfl)
  refine ⟨S', col', ?_, k1, k2⟩
  obtain ⟨A, B, h⟩ := h
  obtain ⟨A', B', h'⟩ := k1
  have elen : ∀ (X : Store) (D : Nat) (f : Nat) (ρ : Ev) (xs : List Val) (fs : List (Nat × Val)), ρ[0]? = some (some (.ref o)) → X[o]? = some (.ins C_Shelf fs) → fget fs f = some (.ref D) → X[D]? = some (.lst xs) → evalE P (callN P n) (.bl1 .len (.fld (.var 0) f)) ρ X = .ok (.int (xs.length : Int)) X := fun X D f ρ xs fs h1 h2 h3 h4 => ev_lenl (ev_fld (ev_var h1) h2 h3) h4
  have s1 : evalS P (callN P n) (.asg (.name 2) (.bin .add (.bl1 .len (.fld (.var 0) F_kept_stores)) (.bl1 .len (.fld (.var 0) F_kept_loads)))) [some (.ref o), some (.int t), none, none] S = .nx [some (.ref o), some (.int t), some (.int m), none] S := by
    have a := ev_add (elen S A F_kept_stores [some (.ref o), some (.int t), none, none] _ _ rfl h.ho rfl h.hA) (elen S B F_kept_loads [some (.ref o), some (.int t), none, none] _ _ rfl h.ho rfl h.hB)
    rw [List.length_map, List.length_map, hm] at a
    exact es_set a rfl
  have a1 := elen S' A' F_kept_stores [some (.ref o), some (.int t), some (.int m), none] _ _ rfl h'.ho rfl h'.hA
  have a2 := elen S' B' F_kept_loads [some (.ref o), some (.int t), some (.int m), none] _ _ rfl h'.ho rfl h'.hB
  rw [List.length_map] at a1 a2
  rw [u_Shelf_throw]
  unfold b_Shelf_throw
  rw [s_nx s1, e, hm, es_one (es_ret (ev_sub (ev_sub (ev_var rfl) a1) a2))]
  rfl
inductive SD where
  | store (t : Int) | place (t p : Int) | word (t w : Int) | load (t p : Int) (g : Option Int) | leave (t : Int)
def SD.val : SD → Val
  | .store t => .tup [.str "store", .int t]
  | .place t p => .tup [.str "place", .int t, .int p]
  | .word t w => .tup [.str "word", .int t, .int w]
  | .load t p g => .tup [.str "load", .int t, .int p, oi g]
  | .leave t => .tup [.str "leave", .int t]
def SD.t : SD → Int
  | .store t => t | .place t _ => t | .word t _ => t | .load t _ _ => t | .leave t => t
def SD.ok (rs : List Sto) (l0 : List Lod) : SD → Prop
  | .store t => stoOk rs l0 t
  | .place t _ => ∃ j s, spotS rs t = some j ∧ rs[j]? = some s ∧ s.p = none
  | .word t _ => ∃ j s, spotS rs t = some j ∧ rs[j]? = some s ∧ s.w = none
  | .load t _ _ => spotS rs t = none ∧ spotL l0 t = none
  | .leave t => ¬ (spotL l0 t = none ∧ spotS rs t = none)
def SD.st (rs : List Sto) : SD → List Sto
  | .store t => rs ++ [⟨t, none, none⟩]
  | .place t p => match spotS rs t with | some j => setP rs j p | none => rs
  | .word t w => match spotS rs t with | some j => setW rs j w | none => rs
  | .load _ _ _ => rs
  | .leave t => rs.filter fun s => decide (s.t ≠ t)
def SD.lo (l0 : List Lod) : SD → List Lod
  | .load t p g => l0 ++ [⟨t, p, g⟩]
  | .leave t => l0.filter fun s => decide (s.t ≠ t)
  | _ => l0
def SD.ans (l0 : List Lod) : SD → Option Int
  | .place t p => bitten l0 t p
  | _ => none
theorem do_ok {c col o rs l0 S} (h : IsShelf c col o rs l0 S) (d : SD) (hd : d.ok rs l0) (b1 : rs.length ≤ 900) (b2 : l0.length ≤ 900) (n : Nat) : ∃ S' col', callN P (n+3) f_Ldo [.ref o, d.val] S = .ok (oi (d.ans l0)) S' ∧ IsShelf c col' o (d.st rs) (d.lo l0) S' ∧ Stp (· = c) col S col' S' := by
  obtain ⟨A, B, h'⟩ := id h
  have ho := h'.ho
  cases d with
  | store t =>
    obtain ⟨S1, e, h1, s1⟩ := shelf_store h t hd (by omega) n
    refine ⟨S1, col, ?_, h1, s1⟩
    rw [u_Ldo]
    simp [-getElem?_neg, -getElem?_pos, List.getElem?_cons_zero, List.getElem?_cons_succ, evalS.eq_1, evalS.eq_2, evalS.eq_3, evalS.eq_4, evalS.eq_5, evalS.eq_6, evalS.eq_7, evalS.eq_8, evalS.eq_9, evalS.eq_10, evalS.eq_11, evalS.eq_12, evalS.eq_13, evalS.eq_14, evalS.eq_15, evalS.eq_16, evalE.eq_1, evalE.eq_2, evalE.eq_3, evalE.eq_4, evalE.eq_5, evalE.eq_6, evalE.eq_7, evalE.eq_8, evalE.eq_9, evalE.eq_10, evalE.eq_11, evalE.eq_12, evalE.eq_13, evalE.eq_14, evalE.eq_15, evalE.eq_16, evalE.eq_17, evalE.eq_18, evalE.eq_19, evalE.eq_20, evalE.eq_21, evalE.eq_22, evalE.eq_23, evalE.eq_24, evalE.eq_25, evalE.eq_26, evalE.eq_27, evalE.eq_28, evalE.eq_29, evalE.eq_30, evalE.eq_31, evalE.eq_32, evalE.eq_33, evalE.eq_34, evalE.eq_35, evalE.eq_36, evalEs.eq_1, evalEs.eq_2, evalL.eq_1, evalL.eq_2, evalL.eq_3, evalL.eq_4, evalL.eq_5, evalL.eq_6, evalL.eq_7, evalL.eq_8, evalL.eq_9, evalI.eq_1, evalI.eq_2, evalI.eq_3, evalI.eq_4, evalI.eq_5, evalI.eq_6, evalI.eq_7, evalI.eq_8, evalI.eq_9, evalI.eq_10, evalT, evalAnd.eq_1, evalOr.eq_1, evalH.eq_1, evalH.eq_2, handle, E.isNil, E.isNo, Val.isNon, truth, optI, x_lim, x_lim2, Ev.puts.eq_1, Ev.puts.eq_2, lvOf.eq_1, lvOf.eq_2, x_ofO_ite, x_bind_ite, x_toF_ite, x_fb_ite, x_fin_ite, j_ok, j_rt, j_nx, j_int, j_str, j_bl, j_cons, j_some, j_isNon, j_bl2, j_bl3, j_and, j_or, x_mod, x_fdv, x_pw, x_shr, x_mul, x_mulL, x_mulM, x_mulN, b_Ldo, SD.val, ho, e, SD.ans, oi]
  | place t p =>
    obtain ⟨j, s, q1, q2, q3⟩ := hd
    obtain ⟨S1, e, h1, s1⟩ := shelf_placed h t p j q1 (fun x hx => by rw [q2] at hx; cases hx; exact q3) n
    refine ⟨S1, col, ?_, by simp only [SD.st, q1]; exact h1, s1⟩
    rw [u_Ldo]
    simp [-getElem?_neg, -getElem?_pos, List.getElem?_cons_zero, List.getElem?_cons_succ, evalS.eq_1, evalS.eq_2, evalS.eq_3, evalS.eq_4, evalS.eq_5, evalS.eq_6, evalS.eq_7, evalS.eq_8, evalS.eq_9, evalS.eq_10, evalS.eq_11, evalS.eq_12, evalS.eq_13, evalS.eq_14, evalS.eq_15, evalS.eq_16, evalE.eq_1, evalE.eq_2, evalE.eq_3, evalE.eq_4, evalE.eq_5, evalE.eq_6, evalE.eq_7, evalE.eq_8, evalE.eq_9, evalE.eq_10, evalE.eq_11, evalE.eq_12, evalE.eq_13, evalE.eq_14, evalE.eq_15, evalE.eq_16, evalE.eq_17, evalE.eq_18, evalE.eq_19, evalE.eq_20, evalE.eq_21, evalE.eq_22, evalE.eq_23, evalE.eq_24, evalE.eq_25, evalE.eq_26, evalE.eq_27, evalE.eq_28, evalE.eq_29, evalE.eq_30, evalE.eq_31, evalE.eq_32, evalE.eq_33, evalE.eq_34, evalE.eq_35, evalE.eq_36, evalEs.eq_1, evalEs.eq_2, evalL.eq_1, evalL.eq_2, evalL.eq_3, evalL.eq_4, evalL.eq_5, evalL.eq_6, evalL.eq_7, evalL.eq_8, evalL.eq_9, evalI.eq_1, evalI.eq_2, evalI.eq_3, evalI.eq_4, evalI.eq_5, evalI.eq_6, evalI.eq_7, evalI.eq_8, evalI.eq_9, evalI.eq_10, evalT, evalAnd.eq_1, evalOr.eq_1, evalH.eq_1, evalH.eq_2, handle, E.isNil, E.isNo, Val.isNon, truth, optI, x_lim, x_lim2, Ev.puts.eq_1, Ev.puts.eq_2, lvOf.eq_1, lvOf.eq_2, x_ofO_ite, x_bind_ite, x_toF_ite, x_fb_ite, x_fin_ite, j_ok, j_rt, j_nx, j_int, j_str, j_bl, j_cons, j_some, j_isNon, j_bl2, j_bl3, j_and, j_or, x_mod, x_fdv, x_pw, x_shr, x_mul, x_mulL, x_mulM, x_mulN, b_Ldo, SD.val, ho, e, SD.ans]
  | word t w =>
    obtain ⟨j, s, q1, q2, q3⟩ := hd
    obtain ⟨S1, e, h1, s1⟩ := shelf_worded h t w j q1 (fun x hx => by rw [q2] at hx; cases hx; exact q3) n
    refine ⟨S1, col, ?_, by simp only [SD.st, q1]; exact h1, s1⟩
    rw [u_Ldo]
    simp [-getElem?_neg, -getElem?_pos, List.getElem?_cons_zero, List.getElem?_cons_succ, evalS.eq_1, evalS.eq_2, evalS.eq_3, evalS.eq_4, evalS.eq_5, evalS.eq_6, evalS.eq_7, evalS.eq_8, evalS.eq_9, evalS.eq_10, evalS.eq_11, evalS.eq_12, evalS.eq_13, evalS.eq_14, evalS.eq_15, evalS.eq_16, evalE.eq_1, evalE.eq_2, evalE.eq_3, evalE.eq_4, evalE.eq_5, evalE.eq_6, evalE.eq_7, evalE.eq_8, evalE.eq_9, evalE.eq_10, evalE.eq_11, evalE.eq_12, evalE.eq_13, evalE.eq_14, evalE.eq_15, evalE.eq_16, evalE.eq_17, evalE.eq_18, evalE.eq_19, evalE.eq_20, evalE.eq_21, evalE.eq_22, evalE.eq_23, evalE.eq_24, evalE.eq_25, evalE.eq_26, evalE.eq_27, evalE.eq_28, evalE.eq_29, evalE.eq_30, evalE.eq_31, evalE.eq_32, evalE.eq_33, evalE.eq_34, evalE.eq_35, evalE.eq_36, evalEs.eq_1, evalEs.eq_2, evalL.eq_1, evalL.eq_2, evalL.eq_3, evalL.eq_4, evalL.eq_5, evalL.eq_6, evalL.eq_7, evalL.eq_8, evalL.eq_9, evalI.eq_1, evalI.eq_2, evalI.eq_3, evalI.eq_4, evalI.eq_5, evalI.eq_6, evalI.eq_7, evalI.eq_8, evalI.eq_9, evalI.eq_10, evalT, evalAnd.eq_1, evalOr.eq_1, evalH.eq_1, evalH.eq_2, handle, E.isNil, E.isNo, Val.isNon, truth, optI, x_lim, x_lim2, Ev.puts.eq_1, Ev.puts.eq_2, lvOf.eq_1, lvOf.eq_2, x_ofO_ite, x_bind_ite, x_toF_ite, x_fb_ite, x_fin_ite, j_ok, j_rt, j_nx, j_int, j_str, j_bl, j_cons, j_some, j_isNon, j_bl2, j_bl3, j_and, j_or, x_mod, x_fdv, x_pw, x_shr, x_mul, x_mulL, x_mulM, x_mulN, b_Ldo, SD.val, ho, e, SD.ans, oi]
  | load t p g =>
    obtain ⟨S1, e, h1, s1⟩ := shelf_loaded h t p g hd.1 hd.2 (by omega) n
    refine ⟨S1, col, ?_, h1, s1⟩
    rw [u_Ldo]
    simp only [SD.val]
    generalize oi g = gv at *
    simp [-getElem?_neg, -getElem?_pos, List.getElem?_cons_zero, List.getElem?_cons_succ, evalS.eq_1, evalS.eq_2, evalS.eq_3, evalS.eq_4, evalS.eq_5, evalS.eq_6, evalS.eq_7, evalS.eq_8, evalS.eq_9, evalS.eq_10, evalS.eq_11, evalS.eq_12, evalS.eq_13, evalS.eq_14, evalS.eq_15, evalS.eq_16, evalE.eq_1, evalE.eq_2, evalE.eq_3, evalE.eq_4, evalE.eq_5, evalE.eq_6, evalE.eq_7, evalE.eq_8, evalE.eq_9, evalE.eq_10, evalE.eq_11, evalE.eq_12, evalE.eq_13, evalE.eq_14, evalE.eq_15, evalE.eq_16, evalE.eq_17, evalE.eq_18, evalE.eq_19, evalE.eq_20, evalE.eq_21, evalE.eq_22, evalE.eq_23, evalE.eq_24, evalE.eq_25, evalE.eq_26, evalE.eq_27, evalE.eq_28, evalE.eq_29, evalE.eq_30, evalE.eq_31, evalE.eq_32, evalE.eq_33, evalE.eq_34, evalE.eq_35, evalE.eq_36, evalEs.eq_1, evalEs.eq_2, evalL.eq_1, evalL.eq_2, evalL.eq_3, evalL.eq_4, evalL.eq_5, evalL.eq_6, evalL.eq_7, evalL.eq_8, evalL.eq_9, evalI.eq_1, evalI.eq_2, evalI.eq_3, evalI.eq_4, evalI.eq_5, evalI.eq_6, evalI.eq_7, evalI.eq_8, evalI.eq_9, evalI.eq_10, evalT, evalAnd.eq_1, evalOr.eq_1, evalH.eq_1, evalH.eq_2, handle, E.isNil, E.isNo, Val.isNon, truth, optI, x_lim, x_lim2, Ev.puts.eq_1, Ev.puts.eq_2, lvOf.eq_1, lvOf.eq_2, x_ofO_ite, x_bind_ite, x_toF_ite, x_fb_ite, x_fin_ite, j_ok, j_rt, j_nx, j_int, j_str, j_bl, j_cons, j_some, j_isNon, j_bl2, j_bl3, j_and, j_or, x_mod, x_fdv, x_pw, x_shr, x_mul, x_mulL, x_mulM, x_mulN, b_Ldo, ho, e, SD.ans, oi]
  | leave t =>
    obtain ⟨S1, col1, e, h1, s1⟩ := shelf_leave h (by omega) (by omega) t hd n
    refine ⟨S1, col1, ?_, h1, s1⟩
    rw [u_Ldo]
    simp [-getElem?_neg, -getElem?_pos, List.getElem?_cons_zero, List.getElem?_cons_succ, evalS.eq_1, evalS.eq_2, evalS.eq_3, evalS.eq_4, evalS.eq_5, evalS.eq_6, evalS.eq_7, evalS.eq_8, evalS.eq_9, evalS.eq_10, evalS.eq_11, evalS.eq_12, evalS.eq_13, evalS.eq_14, evalS.eq_15, evalS.eq_16, evalE.eq_1, evalE.eq_2, evalE.eq_3, evalE.eq_4, evalE.eq_5, evalE.eq_6, evalE.eq_7, evalE.eq_8, evalE.eq_9, evalE.eq_10, evalE.eq_11, evalE.eq_12, evalE.eq_13, evalE.eq_14, evalE.eq_15, evalE.eq_16, evalE.eq_17, evalE.eq_18, evalE.eq_19, evalE.eq_20, evalE.eq_21, evalE.eq_22, evalE.eq_23, evalE.eq_24, evalE.eq_25, evalE.eq_26, evalE.eq_27, evalE.eq_28, evalE.eq_29, evalE.eq_30, evalE.eq_31, evalE.eq_32, evalE.eq_33, evalE.eq_34, evalE.eq_35, evalE.eq_36, evalEs.eq_1, evalEs.eq_2, evalL.eq_1, evalL.eq_2, evalL.eq_3, evalL.eq_4, evalL.eq_5, evalL.eq_6, evalL.eq_7, evalL.eq_8, evalL.eq_9, evalI.eq_1, evalI.eq_2, evalI.eq_3, evalI.eq_4, evalI.eq_5, evalI.eq_6, evalI.eq_7, evalI.eq_8, evalI.eq_9, evalI.eq_10, evalT, evalAnd.eq_1, evalOr.eq_1, evalH.eq_1, evalH.eq_2, handle, E.isNil, E.isNo, Val.isNon, truth, optI, x_lim, x_lim2, Ev.puts.eq_1, Ev.puts.eq_2, lvOf.eq_1, lvOf.eq_2, x_ofO_ite, x_bind_ite, x_toF_ite, x_fb_ite, x_fin_ite, j_ok, j_rt, j_nx, j_int, j_str, j_bl, j_cons, j_some, j_isNon, j_bl2, j_bl3, j_and, j_or, x_mod, x_fdv, x_pw, x_shr, x_mul, x_mulL, x_mulM, x_mulN, b_Ldo, SD.val, ho, e, SD.ans, oi]
theorem do_no {c col o rs l0 S} (h : IsShelf c col o rs l0 S) (d : SD) (hd : ¬ d.ok rs l0) (n : Nat) : callN P (n+3) f_Ldo [.ref o, d.val] S = .exc C_NoTicket [] S := by
  obtain ⟨A, B, h'⟩ := id h
  have ho := h'.ho
  cases d with
  | store t =>
    have e := shelf_nostore h t hd n
    rw [u_Ldo]
    simp [-getElem?_neg, -getElem?_pos, List.getElem?_cons_zero, List.getElem?_cons_succ, evalS.eq_1, evalS.eq_2, evalS.eq_3, evalS.eq_4, evalS.eq_5, evalS.eq_6, evalS.eq_7, evalS.eq_8, evalS.eq_9, evalS.eq_10, evalS.eq_11, evalS.eq_12, evalS.eq_13, evalS.eq_14, evalS.eq_15, evalS.eq_16, evalE.eq_1, evalE.eq_2, evalE.eq_3, evalE.eq_4, evalE.eq_5, evalE.eq_6, evalE.eq_7, evalE.eq_8, evalE.eq_9, evalE.eq_10, evalE.eq_11, evalE.eq_12, evalE.eq_13, evalE.eq_14, evalE.eq_15, evalE.eq_16, evalE.eq_17, evalE.eq_18, evalE.eq_19, evalE.eq_20, evalE.eq_21, evalE.eq_22, evalE.eq_23, evalE.eq_24, evalE.eq_25, evalE.eq_26, evalE.eq_27, evalE.eq_28, evalE.eq_29, evalE.eq_30, evalE.eq_31, evalE.eq_32, evalE.eq_33, evalE.eq_34, evalE.eq_35, evalE.eq_36, evalEs.eq_1, evalEs.eq_2, evalL.eq_1, evalL.eq_2, evalL.eq_3, evalL.eq_4, evalL.eq_5, evalL.eq_6, evalL.eq_7, evalL.eq_8, evalL.eq_9, evalI.eq_1, evalI.eq_2, evalI.eq_3, evalI.eq_4, evalI.eq_5, evalI.eq_6, evalI.eq_7, evalI.eq_8, evalI.eq_9, evalI.eq_10, evalT, evalAnd.eq_1, evalOr.eq_1, evalH.eq_1, evalH.eq_2, handle, E.isNil, E.isNo, Val.isNon, truth, optI, x_lim, x_lim2, Ev.puts.eq_1, Ev.puts.eq_2, lvOf.eq_1, lvOf.eq_2, x_ofO_ite, x_bind_ite, x_toF_ite, x_fb_ite, x_fin_ite, j_ok, j_rt, j_nx, j_int, j_str, j_bl, j_cons, j_some, j_isNon, j_bl2, j_bl3, j_and, j_or, x_mod, x_fdv, x_pw, x_shr, x_mul, x_mulL, x_mulM, x_mulN, b_Ldo, SD.val, ho, e]
  | place t p =>
    have e := shelf_noplace h t p (fun j hj => by
      obtain ⟨hjl, _⟩ := spotS_get hj
      refine ⟨rs[j], ?_⟩
      cases q : rs[j].p with
      | none => exact absurd ⟨j, rs[j], hj, List.getElem?_eq_getElem hjl, q⟩ hd
      | some v => exact ⟨v, List.getElem?_eq_getElem hjl, rfl⟩) n
    rw [u_Ldo]
    simp [-getElem?_neg, -getElem?_pos, List.getElem?_cons_zero, List.getElem?_cons_succ, evalS.eq_1, evalS.eq_2, evalS.eq_3, evalS.eq_4, evalS.eq_5, evalS.eq_6, evalS.eq_7, evalS.eq_8, evalS.eq_9, evalS.eq_10, evalS.eq_11, evalS.eq_12, evalS.eq_13, evalS.eq_14, evalS.eq_15, evalS.eq_16, evalE.eq_1, evalE.eq_2, evalE.eq_3, evalE.eq_4, evalE.eq_5, evalE.eq_6, evalE.eq_7, evalE.eq_8, evalE.eq_9, evalE.eq_10, evalE.eq_11, evalE.eq_12, evalE.eq_13, evalE.eq_14, evalE.eq_15, evalE.eq_16, evalE.eq_17, evalE.eq_18, evalE.eq_19, evalE.eq_20, evalE.eq_21, evalE.eq_22, evalE.eq_23, evalE.eq_24, evalE.eq_25, evalE.eq_26, evalE.eq_27, evalE.eq_28, evalE.eq_29, evalE.eq_30, evalE.eq_31, evalE.eq_32, evalE.eq_33, evalE.eq_34, evalE.eq_35, evalE.eq_36, evalEs.eq_1, evalEs.eq_2, evalL.eq_1, evalL.eq_2, evalL.eq_3, evalL.eq_4, evalL.eq_5, evalL.eq_6, evalL.eq_7, evalL.eq_8, evalL.eq_9, evalI.eq_1, evalI.eq_2, evalI.eq_3, evalI.eq_4, evalI.eq_5, evalI.eq_6, evalI.eq_7, evalI.eq_8, evalI.eq_9, evalI.eq_10, evalT, evalAnd.eq_1, evalOr.eq_1, evalH.eq_1, evalH.eq_2, handle, E.isNil, E.isNo, Val.isNon, truth, optI, x_lim, x_lim2, Ev.puts.eq_1, Ev.puts.eq_2, lvOf.eq_1, lvOf.eq_2, x_ofO_ite, x_bind_ite, x_toF_ite, x_fb_ite, x_fin_ite, j_ok, j_rt, j_nx, j_int, j_str, j_bl, j_cons, j_some, j_isNon, j_bl2, j_bl3, j_and, j_or, x_mod, x_fdv, x_pw, x_shr, x_mul, x_mulL, x_mulM, x_mulN, b_Ldo, SD.val, ho, e]
  | word t w =>
    have e := shelf_noword h t w (fun j hj => by
      obtain ⟨hjl, _⟩ := spotS_get hj
      refine ⟨rs[j], ?_⟩
      cases q : rs[j].w with
      | none => exact absurd ⟨j, rs[j], hj, List.getElem?_eq_getElem hjl, q⟩ hd
      | some v => exact ⟨v, List.getElem?_eq_getElem hjl, rfl⟩) n
    rw [u_Ldo]
    simp [-getElem?_neg, -getElem?_pos, List.getElem?_cons_zero, List.getElem?_cons_succ, evalS.eq_1, evalS.eq_2, evalS.eq_3, evalS.eq_4, evalS.eq_5, evalS.eq_6, evalS.eq_7, evalS.eq_8, evalS.eq_9, evalS.eq_10, evalS.eq_11, evalS.eq_12, evalS.eq_13, evalS.eq_14, evalS.eq_15, evalS.eq_16, evalE.eq_1, evalE.eq_2, evalE.eq_3, evalE.eq_4, evalE.eq_5, evalE.eq_6, evalE.eq_7, evalE.eq_8, evalE.eq_9, evalE.eq_10, evalE.eq_11, evalE.eq_12, evalE.eq_13, evalE.eq_14, evalE.eq_15, evalE.eq_16, evalE.eq_17, evalE.eq_18, evalE.eq_19, evalE.eq_20, evalE.eq_21, evalE.eq_22, evalE.eq_23, evalE.eq_24, evalE.eq_25, evalE.eq_26, evalE.eq_27, evalE.eq_28, evalE.eq_29, evalE.eq_30, evalE.eq_31, evalE.eq_32, evalE.eq_33, evalE.eq_34, evalE.eq_35, evalE.eq_36, evalEs.eq_1, evalEs.eq_2, evalL.eq_1, evalL.eq_2, evalL.eq_3, evalL.eq_4, evalL.eq_5, evalL.eq_6, evalL.eq_7, evalL.eq_8, evalL.eq_9, evalI.eq_1, evalI.eq_2, evalI.eq_3, evalI.eq_4, evalI.eq_5, evalI.eq_6, evalI.eq_7, evalI.eq_8, evalI.eq_9, evalI.eq_10, evalT, evalAnd.eq_1, evalOr.eq_1, evalH.eq_1, evalH.eq_2, handle, E.isNil, E.isNo, Val.isNon, truth, optI, x_lim, x_lim2, Ev.puts.eq_1, Ev.puts.eq_2, lvOf.eq_1, lvOf.eq_2, x_ofO_ite, x_bind_ite, x_toF_ite, x_fb_ite, x_fin_ite, j_ok, j_rt, j_nx, j_int, j_str, j_bl, j_cons, j_some, j_isNon, j_bl2, j_bl3, j_and, j_or, x_mod, x_fdv, x_pw, x_shr, x_mul, x_mulL, x_mulM, x_mulN, b_Ldo, SD.val, ho, e]
  | load t p g =>
    have e := shelf_noload h t p g hd n
    rw [u_Ldo]
    simp only [SD.val]
    generalize oi g = gv at *
    simp [-getElem?_neg, -getElem?_pos, List.getElem?_cons_zero, List.getElem?_cons_succ, evalS.eq_1, evalS.eq_2, evalS.eq_3, evalS.eq_4, evalS.eq_5, evalS.eq_6, evalS.eq_7, evalS.eq_8, evalS.eq_9, evalS.eq_10, evalS.eq_11, evalS.eq_12, evalS.eq_13, evalS.eq_14, evalS.eq_15, evalS.eq_16, evalE.eq_1, evalE.eq_2, evalE.eq_3, evalE.eq_4, evalE.eq_5, evalE.eq_6, evalE.eq_7, evalE.eq_8, evalE.eq_9, evalE.eq_10, evalE.eq_11, evalE.eq_12, evalE.eq_13, evalE.eq_14, evalE.eq_15, evalE.eq_16, evalE.eq_17, evalE.eq_18, evalE.eq_19, evalE.eq_20, evalE.eq_21, evalE.eq_22, evalE.eq_23, evalE.eq_24, evalE.eq_25, evalE.eq_26, evalE.eq_27, evalE.eq_28, evalE.eq_29, evalE.eq_30, evalE.eq_31, evalE.eq_32, evalE.eq_33, evalE.eq_34, evalE.eq_35, evalE.eq_36, evalEs.eq_1, evalEs.eq_2, evalL.eq_1, evalL.eq_2, evalL.eq_3, evalL.eq_4, evalL.eq_5, evalL.eq_6, evalL.eq_7, evalL.eq_8, evalL.eq_9, evalI.eq_1, evalI.eq_2, evalI.eq_3, evalI.eq_4, evalI.eq_5, evalI.eq_6, evalI.eq_7, evalI.eq_8, evalI.eq_9, evalI.eq_10, evalT, evalAnd.eq_1, evalOr.eq_1, evalH.eq_1, evalH.eq_2, handle, E.isNil, E.isNo, Val.isNon, truth, optI, x_lim, x_lim2, Ev.puts.eq_1, Ev.puts.eq_2, lvOf.eq_1, lvOf.eq_2, x_ofO_ite, x_bind_ite, x_toF_ite, x_fb_ite, x_fin_ite, j_ok, j_rt, j_nx, j_int, j_str, j_bl, j_cons, j_some, j_isNon, j_bl2, j_bl3, j_and, j_or, x_mod, x_fdv, x_pw, x_shr, x_mul, x_mulL, x_mulM, x_mulN, b_Ldo, ho, e]
  | leave t =>
    have hd : spotL l0 t = none ∧ spotS rs t = none := Classical.not_not.mp hd
    have e := shelf_noleave h t hd.1 hd.2 n
    rw [u_Ldo]
    simp [-getElem?_neg, -getElem?_pos, List.getElem?_cons_zero, List.getElem?_cons_succ, evalS.eq_1, evalS.eq_2, evalS.eq_3, evalS.eq_4, evalS.eq_5, evalS.eq_6, evalS.eq_7, evalS.eq_8, evalS.eq_9, evalS.eq_10, evalS.eq_11, evalS.eq_12, evalS.eq_13, evalS.eq_14, evalS.eq_15, evalS.eq_16, evalE.eq_1, evalE.eq_2, evalE.eq_3, evalE.eq_4, evalE.eq_5, evalE.eq_6, evalE.eq_7, evalE.eq_8, evalE.eq_9, evalE.eq_10, evalE.eq_11, evalE.eq_12, evalE.eq_13, evalE.eq_14, evalE.eq_15, evalE.eq_16, evalE.eq_17, evalE.eq_18, evalE.eq_19, evalE.eq_20, evalE.eq_21, evalE.eq_22, evalE.eq_23, evalE.eq_24, evalE.eq_25, evalE.eq_26, evalE.eq_27, evalE.eq_28, evalE.eq_29, evalE.eq_30, evalE.eq_31, evalE.eq_32, evalE.eq_33, evalE.eq_34, evalE.eq_35, evalE.eq_36, evalEs.eq_1, evalEs.eq_2, evalL.eq_1, evalL.eq_2, evalL.eq_3, evalL.eq_4, evalL.eq_5, evalL.eq_6, evalL.eq_7, evalL.eq_8, evalL.eq_9, evalI.eq_1, evalI.eq_2, evalI.eq_3, evalI.eq_4, evalI.eq_5, evalI.eq_6, evalI.eq_7, evalI.eq_8, evalI.eq_9, evalI.eq_10, evalT, evalAnd.eq_1, evalOr.eq_1, evalH.eq_1, evalH.eq_2, handle, E.isNil, E.isNo, Val.isNon, truth, optI, x_lim, x_lim2, Ev.puts.eq_1, Ev.puts.eq_2, lvOf.eq_1, lvOf.eq_2, x_ofO_ite, x_bind_ite, x_toF_ite, x_fb_ite, x_fin_ite, j_ok, j_rt, j_nx, j_int, j_str, j_bl, j_cons, j_some, j_isNon, j_bl2, j_bl3, j_and, j_or, x_mod, x_fdv, x_pw, x_shr, x_mul, x_mulL, x_mulM, x_mulN, b_Ldo, SD.val, ho, e]
theorem class_ok (n : Nat) (S : Store) : callN P (n+1) f_Lclass [.exc C_NoTicket []] S = .ok (.bl true) S := by
  rw [u_Lclass]
  simp [-getElem?_neg, -getElem?_pos, List.getElem?_cons_zero, List.getElem?_cons_succ, evalS.eq_1, evalS.eq_2, evalS.eq_3, evalS.eq_4, evalS.eq_5, evalS.eq_6, evalS.eq_7, evalS.eq_8, evalS.eq_9, evalS.eq_10, evalS.eq_11, evalS.eq_12, evalS.eq_13, evalS.eq_14, evalS.eq_15, evalS.eq_16, evalE.eq_1, evalE.eq_2, evalE.eq_3, evalE.eq_4, evalE.eq_5, evalE.eq_6, evalE.eq_7, evalE.eq_8, evalE.eq_9, evalE.eq_10, evalE.eq_11, evalE.eq_12, evalE.eq_13, evalE.eq_14, evalE.eq_15, evalE.eq_16, evalE.eq_17, evalE.eq_18, evalE.eq_19, evalE.eq_20, evalE.eq_21, evalE.eq_22, evalE.eq_23, evalE.eq_24, evalE.eq_25, evalE.eq_26, evalE.eq_27, evalE.eq_28, evalE.eq_29, evalE.eq_30, evalE.eq_31, evalE.eq_32, evalE.eq_33, evalE.eq_34, evalE.eq_35, evalE.eq_36, evalEs.eq_1, evalEs.eq_2, evalL.eq_1, evalL.eq_2, evalL.eq_3, evalL.eq_4, evalL.eq_5, evalL.eq_6, evalL.eq_7, evalL.eq_8, evalL.eq_9, evalI.eq_1, evalI.eq_2, evalI.eq_3, evalI.eq_4, evalI.eq_5, evalI.eq_6, evalI.eq_7, evalI.eq_8, evalI.eq_9, evalI.eq_10, evalT, evalAnd.eq_1, evalOr.eq_1, evalH.eq_1, evalH.eq_2, handle, E.isNil, E.isNo, Val.isNon, truth, optI, x_lim, x_lim2, Ev.puts.eq_1, Ev.puts.eq_2, lvOf.eq_1, lvOf.eq_2, x_ofO_ite, x_bind_ite, x_toF_ite, x_fb_ite, x_fin_ite, j_ok, j_rt, j_nx, j_int, j_str, j_bl, j_cons, j_some, j_isNon, j_bl2, j_bl3, j_and, j_or, x_mod, x_fdv, x_pw, x_shr, x_mul, x_mulL, x_mulM, x_mulN, b_Lclass, isTy]
theorem refused_ok {c col o rs l0 S} (h : IsShelf c col o rs l0 S) (d : SD) (hd : ¬ d.ok rs l0) (n : Nat) : callN P (n+4) f_Lrefused [.ref o, d.val] S = .ok (.bl true) S := by
  have e := do_no h d hd n
  have e2 := class_ok (n+2) S
  rw [u_Lrefused]
  generalize d.val = dv at *
  simp [-getElem?_neg, -getElem?_pos, List.getElem?_cons_zero, List.getElem?_cons_succ, evalS.eq_1, evalS.eq_2, evalS.eq_3, evalS.eq_4, evalS.eq_5, evalS.eq_6, evalS.eq_7, evalS.eq_8, evalS.eq_9, evalS.eq_10, evalS.eq_11, evalS.eq_12, evalS.eq_13, evalS.eq_14, evalS.eq_15, evalS.eq_16, evalE.eq_1, evalE.eq_2, evalE.eq_3, evalE.eq_4, evalE.eq_5, evalE.eq_6, evalE.eq_7, evalE.eq_8, evalE.eq_9, evalE.eq_10, evalE.eq_11, evalE.eq_12, evalE.eq_13, evalE.eq_14, evalE.eq_15, evalE.eq_16, evalE.eq_17, evalE.eq_18, evalE.eq_19, evalE.eq_20, evalE.eq_21, evalE.eq_22, evalE.eq_23, evalE.eq_24, evalE.eq_25, evalE.eq_26, evalE.eq_27, evalE.eq_28, evalE.eq_29, evalE.eq_30, evalE.eq_31, evalE.eq_32, evalE.eq_33, evalE.eq_34, evalE.eq_35, evalE.eq_36, evalEs.eq_1, evalEs.eq_2, evalL.eq_1, evalL.eq_2, evalL.eq_3, evalL.eq_4, evalL.eq_5, evalL.eq_6, evalL.eq_7, evalL.eq_8, evalL.eq_9, evalI.eq_1, evalI.eq_2, evalI.eq_3, evalI.eq_4, evalI.eq_5, evalI.eq_6, evalI.eq_7, evalI.eq_8, evalI.eq_9, evalI.eq_10, evalT, evalAnd.eq_1, evalOr.eq_1, evalH.eq_1, evalH.eq_2, handle, E.isNil, E.isNo, Val.isNon, truth, optI, x_lim, x_lim2, Ev.puts.eq_1, Ev.puts.eq_2, lvOf.eq_1, lvOf.eq_2, x_ofO_ite, x_bind_ite, x_toF_ite, x_fb_ite, x_fin_ite, j_ok, j_rt, j_nx, j_int, j_str, j_bl, j_cons, j_some, j_isNon, j_bl2, j_bl3, j_and, j_or, x_mod, x_fdv, x_pw, x_shr, x_mul, x_mulL, x_mulM, x_mulN, b_Lrefused, e, e2]
theorem refused_any {c col o rs l0 S} (h : IsShelf c col o rs l0 S) (d : SD) (hd : ¬ d.ok rs l0) (n : Nat) : callN P (n+4) f_Lrefused_by_any [.ref o, d.val] S = .ok (.bl true) S := by
  have e := do_no h d hd n
  rw [u_Lrefused_by_any]
  generalize d.val = dv at *
  simp [-getElem?_neg, -getElem?_pos, List.getElem?_cons_zero, List.getElem?_cons_succ, evalS.eq_1, evalS.eq_2, evalS.eq_3, evalS.eq_4, evalS.eq_5, evalS.eq_6, evalS.eq_7, evalS.eq_8, evalS.eq_9, evalS.eq_10, evalS.eq_11, evalS.eq_12, evalS.eq_13, evalS.eq_14, evalS.eq_15, evalS.eq_16, evalE.eq_1, evalE.eq_2, evalE.eq_3, evalE.eq_4, evalE.eq_5, evalE.eq_6, evalE.eq_7, evalE.eq_8, evalE.eq_9, evalE.eq_10, evalE.eq_11, evalE.eq_12, evalE.eq_13, evalE.eq_14, evalE.eq_15, evalE.eq_16, evalE.eq_17, evalE.eq_18, evalE.eq_19, evalE.eq_20, evalE.eq_21, evalE.eq_22, evalE.eq_23, evalE.eq_24, evalE.eq_25, evalE.eq_26, evalE.eq_27, evalE.eq_28, evalE.eq_29, evalE.eq_30, evalE.eq_31, evalE.eq_32, evalE.eq_33, evalE.eq_34, evalE.eq_35, evalE.eq_36, evalEs.eq_1, evalEs.eq_2, evalL.eq_1, evalL.eq_2, evalL.eq_3, evalL.eq_4, evalL.eq_5, evalL.eq_6, evalL.eq_7, evalL.eq_8, evalL.eq_9, evalI.eq_1, evalI.eq_2, evalI.eq_3, evalI.eq_4, evalI.eq_5, evalI.eq_6, evalI.eq_7, evalI.eq_8, evalI.eq_9, evalI.eq_10, evalT, evalAnd.eq_1, evalOr.eq_1, evalH.eq_1, evalH.eq_2, handle, E.isNil, E.isNo, Val.isNon, truth, optI, x_lim, x_lim2, Ev.puts.eq_1, Ev.puts.eq_2, lvOf.eq_1, lvOf.eq_2, x_ofO_ite, x_bind_ite, x_toF_ite, x_fb_ite, x_fin_ite, j_ok, j_rt, j_nx, j_int, j_str, j_bl, j_cons, j_some, j_isNon, j_bl2, j_bl3, j_and, j_or, x_mod, x_fdv, x_pw, x_shr, x_mul, x_mulL, x_mulM, x_mulN, b_Lrefused_by_any, e, isTy]
/-- the law's book of a shelf -/
structure Lw (c : Nat) (col : Nat → Nat) (o : Nat) (rs : List Sto) (l0 ls : List Lod) (r l : Nat) (S : Store) : Prop where
  sh : IsShelf c col o rs l0 S
  hr : S[r]? = some (.lst (rs.map Sto.val))
  cr : col r = 0
  hl : S[l]? = some (.lst (ls.map Lod.val))
  cl : col l = 0
  as : AscS rs
  al : AscL ls
  pm : ls.Perm l0
theorem Lw.frame {C c col o rs l0 ls r l S col' S'} (h : Lw c col o rs l0 ls r l S) (a : Stp C col S col' S') (h1 : ¬ C c) (h0 : ¬ C 0) : Lw c col' o rs l0 ls r l S' :=
  ⟨h.sh.frame a h1, (a.at_ h.hr h.cr h0).1, (a.at_ h.hr h.cr h0).2, (a.at_ h.hl h.cl h0).1, (a.at_ h.hl h.cl h0).2, h.as, h.al, h.pm⟩
def Done2 (c : Nat) (col : Nat → Nat) (o m : Nat) (S : Store) (res : R Val) : Prop := ∃ S' col' rs' l0' ls' r' l', res = .ok (.tup [.ref r', .ref l']) S' ∧ Lw c col' o rs' l0' ls' r' l' S' ∧ Stp (· = c) col S col' S' ∧ rs'.length ≤ m + 1 ∧ ls'.length ≤ m + 1
/-! sorted stores -/
theorem asc_uniqS {ls : List Sto} (h : AscS ls) {a b : Sto} (ha : a ∈ ls) (hb : b ∈ ls) (e : a.t = b.t) : a = b := by
  obtain ⟨i, hi, rfl⟩ := List.mem_iff_getElem.mp ha
  obtain ⟨j, hj, rfl⟩ := List.mem_iff_getElem.mp hb
  have h' := List.pairwise_iff_getElem.mp h
  rcases Nat.lt_trichotomy i j with z | z | z
  · have := h' i j hi hj z; omega
  · subst z; rfl
  · have := h' j i hj hi z; omega
theorem leS_srt (ls : List Sto) : (ls.mergeSort leS).Pairwise fun a b => a.t ≤ b.t := by
  have h := List.pairwise_mergeSort (le := leS) (fun a b c h1 h2 => by simp only [leS, decide_eq_true_eq] at *; omega) (fun a b => by simp only [leS, Bool.or_eq_true, decide_eq_true_eq]; omega) ls
  exact h.imp fun h => by simpa [leS] using h
theorem sort_ascS {ls l0 : List Sto} (ha : AscS ls) (hp : ls.Perm l0) : l0.mergeSort leS = ls := by
  have hm : (l0.mergeSort leS).Perm ls := (List.mergeSort_perm l0 leS).trans hp.symm
  refine List.Perm.eq_of_pairwise (le := fun a b : Sto => a.t ≤ b.t) (fun a b h1 h2 h3 h4 => ?_) (leS_srt l0) (List.Pairwise.imp (fun h => by omega) ha) hm
  exact asc_uniqS ha (hm.mem_iff.mp h1) h2 (by omega)
theorem asc_ne {rs : List Sto} (h : AscS rs) {j k : Nat} (hj : j < rs.length) (hk : k < rs.length) (e : j ≠ k) : rs[j].t ≠ rs[k].t := by
  have h' := List.pairwise_iff_getElem.mp h
  rcases Nat.lt_or_ge j k with z | z
  · have := h' j k hj hk z; omega
  · have := h' k j hk hj (by omega); omega
theorem take_drop {rs : List Sto} {j : Nat} (hj : j < rs.length) : rs = rs.take j ++ rs[j] :: rs.drop (j+1) := by
  rw [List.getElem_cons_drop]; exact (List.take_append_drop j rs).symm
theorem split_all {rs : List Sto} (h : AscS rs) {j : Nat} (hj : j < rs.length) : (∀ s ∈ rs.take j, s.t ≠ rs[j].t) ∧ ∀ s ∈ rs.drop (j+1), s.t ≠ rs[j].t := by
  constructor
  · intro s hs
    obtain ⟨i, hi, rfl⟩ := List.mem_take_iff_getElem.mp hs
    exact asc_ne h (by omega) hj (by omega)
  · intro s hs
    obtain ⟨i, hi, rfl⟩ := List.mem_drop_iff_getElem.mp hs
    exact asc_ne h (by omega) hj (by omega)
theorem others_eq {rs : List Sto} (h : AscS rs) {j : Nat} (hj : j < rs.length) : (rs.filter fun s => decide (s.t ≠ rs[j].t)) = rs.take j ++ rs.drop (j+1) := by
  obtain ⟨h1, h2⟩ := split_all h hj
  have e := take_drop hj
  have e1 : ((rs.take j).filter fun s => decide (s.t ≠ rs[j].t)) = rs.take j := List.filter_eq_self.mpr fun s hs => by simpa using h1 s hs
  have e2 : ((rs.drop (j+1)).filter fun s => decide (s.t ≠ rs[j].t)) = rs.drop (j+1) := List.filter_eq_self.mpr fun s hs => by simpa using h2 s hs
  have : ∀ t, t = rs[j].t → (rs.filter fun s => decide (s.t ≠ t)) = ((rs.take j ++ rs[j] :: rs.drop (j+1)).filter fun s => decide (s.t ≠ t)) := fun t _ => by rw [← e]
  rw [this _ rfl, List.filter_append, List.filter_cons, if_neg (by simp), e1, e2]
theorem mine_eq {rs : List Sto} (h : AscS rs) {j : Nat} (hj : j < rs.length) : (rs.filter fun s => decide (s.t = rs[j].t)) = [rs[j]] := by
  obtain ⟨h1, h2⟩ := split_all h hj
  have e := take_drop hj
  have e1 : ((rs.take j).filter fun s => decide (s.t = rs[j].t)) = [] := List.filter_eq_nil_iff.mpr fun s hs => by simpa using h1 s hs
  have e2 : ((rs.drop (j+1)).filter fun s => decide (s.t = rs[j].t)) = [] := List.filter_eq_nil_iff.mpr fun s hs => by simpa using h2 s hs
  have : ∀ t, t = rs[j].t → (rs.filter fun s => decide (s.t = t)) = ((rs.take j ++ rs[j] :: rs.drop (j+1)).filter fun s => decide (s.t = t)) := fun t _ => by rw [← e]
  rw [this _ rfl, List.filter_append, List.filter_cons, if_pos (by simp), e1, e2]; rfl
theorem mine_no {rs : List Sto} {t : Int} (h : spotS rs t = none) : (rs.filter fun s => decide (s.t = t)) = [] := by
  unfold spotS at h
  rw [List.findIdx?_eq_none_iff] at h
  exact List.filter_eq_nil_iff.mpr fun s hs => by simpa using h s hs
theorem put_back {rs : List Sto} (h : AscS rs) {j : Nat} (hj : j < rs.length) (x : Sto) (hx : x.t = rs[j].t) : ((rs.filter fun s => decide (s.t ≠ rs[j].t)) ++ [x]).mergeSort leS = rs.set j x := by
  refine sort_ascS (asc_set h hj hx) ?_
  rw [others_eq h hj, List.set_eq_take_append_cons_drop, if_pos hj]
  rw [List.append_assoc]
  exact (List.perm_append_comm (l₁ := [x]) (l₂ := rs.drop (j+1))).append_left (rs.take j)
theorem setP_eq {rs : List Sto} {k : Nat} (hk : k < rs.length) (p : Int) : setP rs k p = rs.set k ⟨rs[k].t, some p, rs[k].w⟩ := by
  unfold setP; rw [List.getElem?_eq_getElem hk]
theorem setW_eq {rs : List Sto} {k : Nat} (hk : k < rs.length) (p : Int) : setW rs k p = rs.set k ⟨rs[k].t, rs[k].p, some p⟩ := by
  unfold setW; rw [List.getElem?_eq_getElem hk]
def SD.la (ls : List Lod) : SD → List Lod
  | .load t p g => (ls ++ [(⟨t, p, g⟩ : Lod)]).mergeSort leL
  | .leave t => ls.filter fun s => decide (s.t ≠ t)
  | _ => ls
theorem spotL_mem {ls : List Lod} {t : Int} : spotL ls t = none ↔ ∀ x ∈ ls, x.t ≠ t := by
  unfold spotL
  rw [List.findIdx?_eq_none_iff]
  exact ⟨fun h x hx => by simpa using h x hx, fun h x hx => by simpa using h x hx⟩
theorem spotS_mem {ls : List Sto} {t : Int} : spotS ls t = none ↔ ∀ x ∈ ls, x.t ≠ t := by
  unfold spotS
  rw [List.findIdx?_eq_none_iff]
  exact ⟨fun h x hx => by simpa using h x hx, fun h x hx => by simpa using h x hx⟩
theorem la_asc {rs : List Sto} {l0 ls : List Lod} (al : AscL ls) (pm : ls.Perm l0) (d : SD) (hd : d.ok rs l0) : AscL (d.la ls) := by
  cases d with
  | load t p g => exact asc_more al _ fun y hy => spotL_mem.mp hd.2 y (pm.mem_iff.mp hy)
  | leave t => exact List.Pairwise.filter _ al
  | store t => exact al
  | place t p => exact al
  | word t p => exact al
theorem la_perm {l0 ls : List Lod} (pm : ls.Perm l0) (d : SD) : (d.la ls).Perm (d.lo l0) := by
  cases d with
  | load t p g => exact (List.mergeSort_perm _ leL).trans (pm.append_right _)
  | leave t => exact pm.filter _
  | store t => exact pm
  | place t p => exact pm
  | word t p => exact pm
theorem st_asc {rs : List Sto} {l0 : List Lod} (as : AscS rs) (d : SD) (hd : d.ok rs l0) : AscS (d.st rs) := by
  cases d with
  | store t =>
    refine List.pairwise_append.mpr ⟨as, by simp, fun a ha' b hb => ?_⟩
    simp at hb; subst hb
    rcases List.eq_nil_or_concat rs with q | ⟨xs, z, q⟩
    · subst q; simp at ha'
    · rw [List.concat_eq_append] at q
      subst q
      have k1 := asc_last as a ha'
      have k2 := hd.1 z.t (by simp [lastT])
      simp only; omega
  | place t p =>
    obtain ⟨j, s, q1, q2, q3⟩ := hd
    obtain ⟨hj, ht⟩ := spotS_get q1
    simp only [SD.st, q1, setP_eq hj]
    exact asc_set as hj rfl
  | word t p =>
    obtain ⟨j, s, q1, q2, q3⟩ := hd
    obtain ⟨hj, ht⟩ := spotS_get q1
    simp only [SD.st, q1, setW_eq hj]
    exact asc_set as hj rfl
  | load t p g => exact as
  | leave t => exact List.Pairwise.filter _ as
theorem st_len {rs : List Sto} (d : SD) : (d.st rs).length ≤ rs.length + 1 := by
  cases d with
  | store t => simp [SD.st]
  | place t p => simp only [SD.st]; split <;> simp [setP_len]
  | word t p => simp only [SD.st]; split <;> simp [setW_len]
  | load t p g => simp [SD.st]
  | leave t => exact Nat.le_trans (List.length_filter_le _ _) (by omega)
theorem la_len {ls : List Lod} (d : SD) : (d.la ls).length ≤ ls.length + 1 := by
  cases d with
  | store t => simp [SD.la]
  | place t p => simp [SD.la]
  | word t p => simp [SD.la]
  | load t p g => simp [SD.la]
  | leave t => exact Nat.le_trans (List.length_filter_le _ _) (by omega)
/-! the answer -/
theorem ans_body (a0 : Option Val) (t p : Int) (l : Lod) (n : Nat) (S : Store) : evalS P (callN P n) l_Lanswer_0 [a0, some (.tup [.str "place", .int t, .int p]), some (.int l.t), some (.int l.p), some (oi l.g)] S = if BiteC t p l then .rt (.int l.t) S else .nx [a0, some (.tup [.str "place", .int t, .int p]), some (.int l.t), some (.int l.p), some (oi l.g)] S := by
  obtain ⟨lt, lp, g⟩ := l
  unfold BiteC
  by_cases h1 : t < lt
  · by_cases h2 : lp = p
    · cases g with
      | none => simp [-getElem?_neg, -getElem?_pos, List.getElem?_cons_zero, List.getElem?_cons_succ, evalS.eq_1, evalS.eq_2, evalS.eq_3, evalS.eq_4, evalS.eq_5, evalS.eq_6, evalS.eq_7, evalS.eq_8, evalS.eq_9, evalS.eq_10, evalS.eq_11, evalS.eq_12, evalS.eq_13, evalS.eq_14, evalS.eq_15, evalS.eq_16, evalE.eq_1, evalE.eq_2, evalE.eq_3, evalE.eq_4, evalE.eq_5, evalE.eq_6, evalE.eq_7, evalE.eq_8, evalE.eq_9, evalE.eq_10, evalE.eq_11, evalE.eq_12, evalE.eq_13, evalE.eq_14, evalE.eq_15, evalE.eq_16, evalE.eq_17, evalE.eq_18, evalE.eq_19, evalE.eq_20, evalE.eq_21, evalE.eq_22, evalE.eq_23, evalE.eq_24, evalE.eq_25, evalE.eq_26, evalE.eq_27, evalE.eq_28, evalE.eq_29, evalE.eq_30, evalE.eq_31, evalE.eq_32, evalE.eq_33, evalE.eq_34, evalE.eq_35, evalE.eq_36, evalEs.eq_1, evalEs.eq_2, evalL.eq_1, evalL.eq_2, evalL.eq_3, evalL.eq_4, evalL.eq_5, evalL.eq_6, evalL.eq_7, evalL.eq_8, evalL.eq_9, evalI.eq_1, evalI.eq_2, evalI.eq_3, evalI.eq_4, evalI.eq_5, evalI.eq_6, evalI.eq_7, evalI.eq_8, evalI.eq_9, evalI.eq_10, evalT, evalAnd.eq_1, evalOr.eq_1, evalH.eq_1, evalH.eq_2, handle, E.isNil, E.isNo, Val.isNon, truth, optI, x_lim, x_lim2, Ev.puts.eq_1, Ev.puts.eq_2, lvOf.eq_1, lvOf.eq_2, x_ofO_ite, x_bind_ite, x_toF_ite, x_fb_ite, x_fin_ite, j_ok, j_rt, j_nx, j_int, j_str, j_bl, j_cons, j_some, j_isNon, j_bl2, j_bl3, j_and, j_or, x_mod, x_fdv, x_pw, x_shr, x_mul, x_mulL, x_mulM, x_mulN, l_Lanswer_0, oi, h1, h2]
      | some g =>
        by_cases h4 : g < t
        · simp [-getElem?_neg, -getElem?_pos, List.getElem?_cons_zero, List.getElem?_cons_succ, evalS.eq_1, evalS.eq_2, evalS.eq_3, evalS.eq_4, evalS.eq_5, evalS.eq_6, evalS.eq_7, evalS.eq_8, evalS.eq_9, evalS.eq_10, evalS.eq_11, evalS.eq_12, evalS.eq_13, evalS.eq_14, evalS.eq_15, evalS.eq_16, evalE.eq_1, evalE.eq_2, evalE.eq_3, evalE.eq_4, evalE.eq_5, evalE.eq_6, evalE.eq_7, evalE.eq_8, evalE.eq_9, evalE.eq_10, evalE.eq_11, evalE.eq_12, evalE.eq_13, evalE.eq_14, evalE.eq_15, evalE.eq_16, evalE.eq_17, evalE.eq_18, evalE.eq_19, evalE.eq_20, evalE.eq_21, evalE.eq_22, evalE.eq_23, evalE.eq_24, evalE.eq_25, evalE.eq_26, evalE.eq_27, evalE.eq_28, evalE.eq_29, evalE.eq_30, evalE.eq_31, evalE.eq_32, evalE.eq_33, evalE.eq_34, evalE.eq_35, evalE.eq_36, evalEs.eq_1, evalEs.eq_2, evalL.eq_1, evalL.eq_2, evalL.eq_3, evalL.eq_4, evalL.eq_5, evalL.eq_6, evalL.eq_7, evalL.eq_8, evalL.eq_9, evalI.eq_1, evalI.eq_2, evalI.eq_3, evalI.eq_4, evalI.eq_5, evalI.eq_6, evalI.eq_7, evalI.eq_8, evalI.eq_9, evalI.eq_10, evalT, evalAnd.eq_1, evalOr.eq_1, evalH.eq_1, evalH.eq_2, handle, E.isNil, E.isNo, Val.isNon, truth, optI, x_lim, x_lim2, Ev.puts.eq_1, Ev.puts.eq_2, lvOf.eq_1, lvOf.eq_2, x_ofO_ite, x_bind_ite, x_toF_ite, x_fb_ite, x_fin_ite, j_ok, j_rt, j_nx, j_int, j_str, j_bl, j_cons, j_some, j_isNon, j_bl2, j_bl3, j_and, j_or, x_mod, x_fdv, x_pw, x_shr, x_mul, x_mulL, x_mulM, x_mulN, l_Lanswer_0, oi, h1, h2, h4]
        · simp [-getElem?_neg, -getElem?_pos, List.getElem?_cons_zero, List.getElem?_cons_succ, evalS.eq_1, evalS.eq_2, evalS.eq_3, evalS.eq_4, evalS.eq_5, evalS.eq_6, evalS.eq_7, evalS.eq_8, evalS.eq_9, evalS.eq_10, evalS.eq_11, evalS.eq_12, evalS.eq_13, evalS.eq_14, evalS.eq_15, evalS.eq_16, evalE.eq_1, evalE.eq_2, evalE.eq_3, evalE.eq_4, evalE.eq_5, evalE.eq_6, evalE.eq_7, evalE.eq_8, evalE.eq_9, evalE.eq_10, evalE.eq_11, evalE.eq_12, evalE.eq_13, evalE.eq_14, evalE.eq_15, evalE.eq_16, evalE.eq_17, evalE.eq_18, evalE.eq_19, evalE.eq_20, evalE.eq_21, evalE.eq_22, evalE.eq_23, evalE.eq_24, evalE.eq_25, evalE.eq_26, evalE.eq_27, evalE.eq_28, evalE.eq_29, evalE.eq_30, evalE.eq_31, evalE.eq_32, evalE.eq_33, evalE.eq_34, evalE.eq_35, evalE.eq_36, evalEs.eq_1, evalEs.eq_2, evalL.eq_1, evalL.eq_2, evalL.eq_3, evalL.eq_4, evalL.eq_5, evalL.eq_6, evalL.eq_7, evalL.eq_8, evalL.eq_9, evalI.eq_1, evalI.eq_2, evalI.eq_3, evalI.eq_4, evalI.eq_5, evalI.eq_6, evalI.eq_7, evalI.eq_8, evalI.eq_9, evalI.eq_10, evalT, evalAnd.eq_1, evalOr.eq_1, evalH.eq_1, evalH.eq_2, handle, E.isNil, E.isNo, Val.isNon, truth, optI, x_lim, x_lim2, Ev.puts.eq_1, Ev.puts.eq_2, lvOf.eq_1, lvOf.eq_2, x_ofO_ite, x_bind_ite, x_toF_ite, x_fb_ite, x_fin_ite, j_ok, j_rt, j_nx, j_int, j_str, j_bl, j_cons, j_some, j_isNon, j_bl2, j_bl3, j_and, j_or, x_mod, x_fdv, x_pw, x_shr, x_mul, x_mulL, x_mulM, x_mulN, l_Lanswer_0, oi, h1, h2, h4]
    · simp [-getElem?_neg, -getElem?_pos, List.getElem?_cons_zero, List.getElem?_cons_succ, evalS.eq_1, evalS.eq_2, evalS.eq_3, evalS.eq_4, evalS.eq_5, evalS.eq_6, evalS.eq_7, evalS.eq_8, evalS.eq_9, evalS.eq_10, evalS.eq_11, evalS.eq_12, evalS.eq_13, evalS.eq_14, evalS.eq_15, evalS.eq_16, evalE.eq_1, evalE.eq_2, evalE.eq_3, evalE.eq_4, evalE.eq_5, evalE.eq_6, evalE.eq_7, evalE.eq_8, evalE.eq_9, evalE.eq_10, evalE.eq_11, evalE.eq_12, evalE.eq_13, evalE.eq_14, evalE.eq_15, evalE.eq_16, evalE.eq_17, evalE.eq_18, evalE.eq_19, evalE.eq_20, evalE.eq_21, evalE.eq_22, evalE.eq_23, evalE.eq_24, evalE.eq_25, evalE.eq_26, evalE.eq_27, evalE.eq_28, evalE.eq_29, evalE.eq_30, evalE.eq_31, evalE.eq_32, evalE.eq_33, evalE.eq_34, evalE.eq_35, evalE.eq_36, evalEs.eq_1, evalEs.eq_2, evalL.eq_1, evalL.eq_2, evalL.eq_3, evalL.eq_4, evalL.eq_5, evalL.eq_6, evalL.eq_7, evalL.eq_8, evalL.eq_9, evalI.eq_1, evalI.eq_2, evalI.eq_3, evalI.eq_4, evalI.eq_5, evalI.eq_6, evalI.eq_7, evalI.eq_8, evalI.eq_9, evalI.eq_10, evalT, evalAnd.eq_1, evalOr.eq_1, evalH.eq_1, evalH.eq_2, handle, E.isNil, E.isNo, Val.isNon, truth, optI, x_lim, x_lim2, Ev.puts.eq_1, Ev.puts.eq_2, lvOf.eq_1, lvOf.eq_2, x_ofO_ite, x_bind_ite, x_toF_ite, x_fb_ite, x_fin_ite, j_ok, j_rt, j_nx, j_int, j_str, j_bl, j_cons, j_some, j_isNon, j_bl2, j_bl3, j_and, j_or, x_mod, x_fdv, x_pw, x_shr, x_mul, x_mulL, x_mulM, x_mulN, l_Lanswer_0, oi, h1, h2]
  · simp [-getElem?_neg, -getElem?_pos, List.getElem?_cons_zero, List.getElem?_cons_succ, evalS.eq_1, evalS.eq_2, evalS.eq_3, evalS.eq_4, evalS.eq_5, evalS.eq_6, evalS.eq_7, evalS.eq_8, evalS.eq_9, evalS.eq_10, evalS.eq_11, evalS.eq_12, evalS.eq_13, evalS.eq_14, evalS.eq_15, evalS.eq_16, evalE.eq_1, evalE.eq_2, evalE.eq_3, evalE.eq_4, evalE.eq_5, evalE.eq_6, evalE.eq_7, evalE.eq_8, evalE.eq_9, evalE.eq_10, evalE.eq_11, evalE.eq_12, evalE.eq_13, evalE.eq_14, evalE.eq_15, evalE.eq_16, evalE.eq_17, evalE.eq_18, evalE.eq_19, evalE.eq_20, evalE.eq_21, evalE.eq_22, evalE.eq_23, evalE.eq_24, evalE.eq_25, evalE.eq_26, evalE.eq_27, evalE.eq_28, evalE.eq_29, evalE.eq_30, evalE.eq_31, evalE.eq_32, evalE.eq_33, evalE.eq_34, evalE.eq_35, evalE.eq_36, evalEs.eq_1, evalEs.eq_2, evalL.eq_1, evalL.eq_2, evalL.eq_3, evalL.eq_4, evalL.eq_5, evalL.eq_6, evalL.eq_7, evalL.eq_8, evalL.eq_9, evalI.eq_1, evalI.eq_2, evalI.eq_3, evalI.eq_4, evalI.eq_5, evalI.eq_6, evalI.eq_7, evalI.eq_8, evalI.eq_9, evalI.eq_10, evalT, evalAnd.eq_1, evalOr.eq_1, evalH.eq_1, evalH.eq_2, handle, E.isNil, E.isNo, Val.isNon, truth, optI, x_lim, x_lim2, Ev.puts.eq_1, Ev.puts.eq_2, lvOf.eq_1, lvOf.eq_2, x_ofO_ite, x_bind_ite, x_toF_ite, x_fb_ite, x_fin_ite, j_ok, j_rt, j_nx, j_int, j_str, j_bl, j_cons, j_some, j_isNon, j_bl2, j_bl3, j_and, j_or, x_mod, x_fdv, x_pw, x_shr, x_mul, x_mulL, x_mulM, x_mulN, l_Lanswer_0, oi, h1]
theorem ans_place (ls : List Lod) (l : Nat) (S : Store) (hl : S[l]? = some (.lst (ls.map Lod.val))) (t p : Int) (n : Nat) : callN P (n+1) f_Lanswer [.ref l, .tup [.str "place", .int t, .int p]] S = .ok (oi (firstB ls t p)) S := by
  have key := for_lst_any (P := P) (cf := callN P n) (e := .var 0) (u := l_Lanswer_0) (tg := [2, 3, 4]) (one := false) (xs := ls.map Lod.val) (q := l) (ρ := [some (.ref l), some (.tup [.str "place", .int t, .int p]), none, none, none]) (S := S) (S1 := S) (ev_var rfl)
    (fun i ρ S' => ∃ a b c, ρ = [some (.ref l), some (.tup [.str "place", .int t, .int p]), a, b, c] ∧ S' = S ∧ ∀ x ∈ ls.take i, ¬ BiteC t p x)
    (fun r => (F.bind r fun ρ1 S1 => evalS P (callN P n) (.cons (.ret .non) .nil) ρ1 S1) = .rt (oi (firstB ls t p)) S)
    (fun i ρ S' ⟨_, _, _, _, q, _⟩ => by rw [q]; exact x_lst hl) (fun i ρ S' hi ⟨a, b, c, q1, q2, q3⟩ => by
      subst q1; subst q2
      have hi : i < ls.length := by simpa using hi
      refine ⟨[some (.ref l), some (.tup [.str "place", .int t, .int p]), some (.int ls[i].t), some (.int ls[i].p), some (oi ls[i].g)], by simp [Lod.val, Ev.puts], ?_⟩
      rw [ans_body]
      by_cases z : BiteC t p ls[i]
      · rw [if_pos z]
        have e : ls.find? (fun x => decide (BiteC t p x)) = some ls[i] := by
          rw [List.find?_eq_some_iff_getElem]
          exact ⟨by simpa using z, i, hi, rfl, fun j hj => by
            have : ls[j] ∈ ls.take i := List.mem_take_iff_getElem.mpr ⟨j, by omega, rfl⟩
            simpa using q3 _ this⟩
        show F.rt (.int ls[i].t) S' = _
        rw [firstB, e]; rfl
      · rw [if_neg z]
        refine ⟨_, _, _, rfl, rfl, fun x hx => ?_⟩
        rw [take_snoc hi] at hx
        rcases List.mem_append.mp hx with w | w
        · exact q3 x w
        · simp at w; subst w; exact z) (fun ρ S' ⟨a, b, c, q1, q2, q3⟩ => by
      subst q1; subst q2
      rw [List.length_map, List.take_length] at q3
      have e : ls.find? (fun x => decide (BiteC t p x)) = none := by
        rw [List.find?_eq_none]
        intro x hx
        simpa using q3 x hx
      rw [firstB, e]
      simp [-getElem?_neg, -getElem?_pos, List.getElem?_cons_zero, List.getElem?_cons_succ, evalS.eq_1, evalS.eq_2, evalS.eq_3, evalS.eq_4, evalS.eq_5, evalS.eq_6, evalS.eq_7, evalS.eq_8, evalS.eq_9, evalS.eq_10, evalS.eq_11, evalS.eq_12, evalS.eq_13, evalS.eq_14, evalS.eq_15, evalS.eq_16, evalE.eq_1, evalE.eq_2, evalE.eq_3, evalE.eq_4, evalE.eq_5, evalE.eq_6, evalE.eq_7, evalE.eq_8, evalE.eq_9, evalE.eq_10, evalE.eq_11, evalE.eq_12, evalE.eq_13, evalE.eq_14, evalE.eq_15, evalE.eq_16, evalE.eq_17, evalE.eq_18, evalE.eq_19, evalE.eq_20, evalE.eq_21, evalE.eq_22, evalE.eq_23, evalE.eq_24, evalE.eq_25, evalE.eq_26, evalE.eq_27, evalE.eq_28, evalE.eq_29, evalE.eq_30, evalE.eq_31, evalE.eq_32, evalE.eq_33, evalE.eq_34, evalE.eq_35, evalE.eq_36, evalEs.eq_1, evalEs.eq_2, evalL.eq_1, evalL.eq_2, evalL.eq_3, evalL.eq_4, evalL.eq_5, evalL.eq_6, evalL.eq_7, evalL.eq_8, evalL.eq_9, evalI.eq_1, evalI.eq_2, evalI.eq_3, evalI.eq_4, evalI.eq_5, evalI.eq_6, evalI.eq_7, evalI.eq_8, evalI.eq_9, evalI.eq_10, evalT, evalAnd.eq_1, evalOr.eq_1, evalH.eq_1, evalH.eq_2, handle, E.isNil, E.isNo, Val.isNon, truth, optI, x_lim, x_lim2, Ev.puts.eq_1, Ev.puts.eq_2, lvOf.eq_1, lvOf.eq_2, x_ofO_ite, x_bind_ite, x_toF_ite, x_fb_ite, x_fin_ite, j_ok, j_rt, j_nx, j_int, j_str, j_bl, j_cons, j_some, j_isNon, j_bl2, j_bl3, j_and, j_or, x_mod, x_fdv, x_pw, x_shr, x_mul, x_mulL, x_mulM, x_mulN, oi]) ⟨none, none, none, rfl, rfl, by simp⟩
  rw [u_Lanswer]
  unfold b_Lanswer
  have c0 : evalE P (callN P n) (.cmp .ne (.ix (.var 1) (.int 0)) (.str "place")) [some (.ref l), some (.tup [.str "place", .int t, .int p]), none, none, none] S = .ok (.bl false) S := by simp [-getElem?_neg, -getElem?_pos, List.getElem?_cons_zero, List.getElem?_cons_succ, evalS.eq_1, evalS.eq_2, evalS.eq_3, evalS.eq_4, evalS.eq_5, evalS.eq_6, evalS.eq_7, evalS.eq_8, evalS.eq_9, evalS.eq_10, evalS.eq_11, evalS.eq_12, evalS.eq_13, evalS.eq_14, evalS.eq_15, evalS.eq_16, evalE.eq_1, evalE.eq_2, evalE.eq_3, evalE.eq_4, evalE.eq_5, evalE.eq_6, evalE.eq_7, evalE.eq_8, evalE.eq_9, evalE.eq_10, evalE.eq_11, evalE.eq_12, evalE.eq_13, evalE.eq_14, evalE.eq_15, evalE.eq_16, evalE.eq_17, evalE.eq_18, evalE.eq_19, evalE.eq_20, evalE.eq_21, evalE.eq_22, evalE.eq_23, evalE.eq_24, evalE.eq_25, evalE.eq_26, evalE.eq_27, evalE.eq_28, evalE.eq_29, evalE.eq_30, evalE.eq_31, evalE.eq_32, evalE.eq_33, evalE.eq_34, evalE.eq_35, evalE.eq_36, evalEs.eq_1, evalEs.eq_2, evalL.eq_1, evalL.eq_2, evalL.eq_3, evalL.eq_4, evalL.eq_5, evalL.eq_6, evalL.eq_7, evalL.eq_8, evalL.eq_9, evalI.eq_1, evalI.eq_2, evalI.eq_3, evalI.eq_4, evalI.eq_5, evalI.eq_6, evalI.eq_7, evalI.eq_8, evalI.eq_9, evalI.eq_10, evalT, evalAnd.eq_1, evalOr.eq_1, evalH.eq_1, evalH.eq_2, handle, E.isNil, E.isNo, Val.isNon, truth, optI, x_lim, x_lim2, Ev.puts.eq_1, Ev.puts.eq_2, lvOf.eq_1, lvOf.eq_2, x_ofO_ite, x_bind_ite, x_toF_ite, x_fb_ite, x_fin_ite, j_ok, j_rt, j_nx, j_int, j_str, j_bl, j_cons, j_some, j_isNon, j_bl2, j_bl3, j_and, j_or, x_mod, x_fdv, x_pw, x_shr, x_mul, x_mulL, x_mulM, x_mulN]
  refine s_fin (?_ : _ = MP.F.rt _ _) rfl
  rw [s_nx (es_off c0), evalS.eq_2]
  exact key
theorem ans_ok {l0 ls : List Lod} (al : AscL ls) (pm : ls.Perm l0) (l : Nat) (S : Store) (hl : S[l]? = some (.lst (ls.map Lod.val))) (d : SD) (n : Nat) : callN P (n+1) f_Lanswer [.ref l, d.val] S = .ok (oi (d.ans l0)) S := by
  cases d with
  | place t p =>
    simp only [SD.ans, SD.val]
    rw [first_bitten al pm]
    exact ans_place ls l S hl t p n
  | store t => rw [u_Lanswer]; simp [-getElem?_neg, -getElem?_pos, List.getElem?_cons_zero, List.getElem?_cons_succ, evalS.eq_1, evalS.eq_2, evalS.eq_3, evalS.eq_4, evalS.eq_5, evalS.eq_6, evalS.eq_7, evalS.eq_8, evalS.eq_9, evalS.eq_10, evalS.eq_11, evalS.eq_12, evalS.eq_13, evalS.eq_14, evalS.eq_15, evalS.eq_16, evalE.eq_1, evalE.eq_2, evalE.eq_3, evalE.eq_4, evalE.eq_5, evalE.eq_6, evalE.eq_7, evalE.eq_8, evalE.eq_9, evalE.eq_10, evalE.eq_11, evalE.eq_12, evalE.eq_13, evalE.eq_14, evalE.eq_15, evalE.eq_16, evalE.eq_17, evalE.eq_18, evalE.eq_19, evalE.eq_20, evalE.eq_21, evalE.eq_22, evalE.eq_23, evalE.eq_24, evalE.eq_25, evalE.eq_26, evalE.eq_27, evalE.eq_28, evalE.eq_29, evalE.eq_30, evalE.eq_31, evalE.eq_32, evalE.eq_33, evalE.eq_34, evalE.eq_35, evalE.eq_36, evalEs.eq_1, evalEs.eq_2, evalL.eq_1, evalL.eq_2, evalL.eq_3, evalL.eq_4, evalL.eq_5, evalL.eq_6, evalL.eq_7, evalL.eq_8, evalL.eq_9, evalI.eq_1, evalI.eq_2, evalI.eq_3, evalI.eq_4, evalI.eq_5, evalI.eq_6, evalI.eq_7, evalI.eq_8, evalI.eq_9, evalI.eq_10, evalT, evalAnd.eq_1, evalOr.eq_1, evalH.eq_1, evalH.eq_2, handle, E.isNil, E.isNo, Val.isNon, truth, optI, x_lim, x_lim2, Ev.puts.eq_1, Ev.puts.eq_2, lvOf.eq_1, lvOf.eq_2, x_ofO_ite, x_bind_ite, x_toF_ite, x_fb_ite, x_fin_ite, j_ok, j_rt, j_nx, j_int, j_str, j_bl, j_cons, j_some, j_isNon, j_bl2, j_bl3, j_and, j_or, x_mod, x_fdv, x_pw, x_shr, x_mul, x_mulL, x_mulM, x_mulN, b_Lanswer, SD.val, SD.ans, oi]
  | word t p => rw [u_Lanswer]; simp [-getElem?_neg, -getElem?_pos, List.getElem?_cons_zero, List.getElem?_cons_succ, evalS.eq_1, evalS.eq_2, evalS.eq_3, evalS.eq_4, evalS.eq_5, evalS.eq_6, evalS.eq_7, evalS.eq_8, evalS.eq_9, evalS.eq_10, evalS.eq_11, evalS.eq_12, evalS.eq_13, evalS.eq_14, evalS.eq_15, evalS.eq_16, evalE.eq_1, evalE.eq_2, evalE.eq_3, evalE.eq_4, evalE.eq_5, evalE.eq_6, evalE.eq_7, evalE.eq_8, evalE.eq_9, evalE.eq_10, evalE.eq_11, evalE.eq_12, evalE.eq_13, evalE.eq_14, evalE.eq_15, evalE.eq_16, evalE.eq_17, evalE.eq_18, evalE.eq_19, evalE.eq_20, evalE.eq_21, evalE.eq_22, evalE.eq_23, evalE.eq_24, evalE.eq_25, evalE.eq_26, evalE.eq_27, evalE.eq_28, evalE.eq_29, evalE.eq_30, evalE.eq_31, evalE.eq_32, evalE.eq_33, evalE.eq_34, evalE.eq_35, evalE.eq_36, evalEs.eq_1, evalEs.eq_2, evalL.eq_1, evalL.eq_2, evalL.eq_3, evalL.eq_4, evalL.eq_5, evalL.eq_6, evalL.eq_7, evalL.eq_8, evalL.eq_9, evalI.eq_1, evalI.eq_2, evalI.eq_3, evalI.eq_4, evalI.eq_5, evalI.eq_6, evalI.eq_7, evalI.eq_8, evalI.eq_9, evalI.eq_10, evalT, evalAnd.eq_1, evalOr.eq_1, evalH.eq_1, evalH.eq_2, handle, E.isNil, E.isNo, Val.isNon, truth, optI, x_lim, x_lim2, Ev.puts.eq_1, Ev.puts.eq_2, lvOf.eq_1, lvOf.eq_2, x_ofO_ite, x_bind_ite, x_toF_ite, x_fb_ite, x_fin_ite, j_ok, j_rt, j_nx, j_int, j_str, j_bl, j_cons, j_some, j_isNon, j_bl2, j_bl3, j_and, j_or, x_mod, x_fdv, x_pw, x_shr, x_mul, x_mulL, x_mulM, x_mulN, b_Lanswer, SD.val, SD.ans, oi]
  | load t p g => rw [u_Lanswer]; simp only [SD.val]; generalize oi g = gv; simp [-getElem?_neg, -getElem?_pos, List.getElem?_cons_zero, List.getElem?_cons_succ, evalS.eq_1, evalS.eq_2, evalS.eq_3, evalS.eq_4, evalS.eq_5, evalS.eq_6, evalS.eq_7, evalS.eq_8, evalS.eq_9, evalS.eq_10, evalS.eq_11, evalS.eq_12, evalS.eq_13, evalS.eq_14, evalS.eq_15, evalS.eq_16, evalE.eq_1, evalE.eq_2, evalE.eq_3, evalE.eq_4, evalE.eq_5, evalE.eq_6, evalE.eq_7, evalE.eq_8, evalE.eq_9, evalE.eq_10, evalE.eq_11, evalE.eq_12, evalE.eq_13, evalE.eq_14, evalE.eq_15, evalE.eq_16, evalE.eq_17, evalE.eq_18, evalE.eq_19, evalE.eq_20, evalE.eq_21, evalE.eq_22, evalE.eq_23, evalE.eq_24, evalE.eq_25, evalE.eq_26, evalE.eq_27, evalE.eq_28, evalE.eq_29, evalE.eq_30, evalE.eq_31, evalE.eq_32, evalE.eq_33, evalE.eq_34, evalE.eq_35, evalE.eq_36, evalEs.eq_1, evalEs.eq_2, evalL.eq_1, evalL.eq_2, evalL.eq_3, evalL.eq_4, evalL.eq_5, evalL.eq_6, evalL.eq_7, evalL.eq_8, evalL.eq_9, evalI.eq_1, evalI.eq_2, evalI.eq_3, evalI.eq_4, evalI.eq_5, evalI.eq_6, evalI.eq_7, evalI.eq_8, evalI.eq_9, evalI.eq_10, evalT, evalAnd.eq_1, evalOr.eq_1, evalH.eq_1, evalH.eq_2, handle, E.isNil, E.isNo, Val.isNon, truth, optI, x_lim, x_lim2, Ev.puts.eq_1, Ev.puts.eq_2, lvOf.eq_1, lvOf.eq_2, x_ofO_ite, x_bind_ite, x_toF_ite, x_fb_ite, x_fin_ite, j_ok, j_rt, j_nx, j_int, j_str, j_bl, j_cons, j_some, j_isNon, j_bl2, j_bl3, j_and, j_or, x_mod, x_fdv, x_pw, x_shr, x_mul, x_mulL, x_mulM, x_mulN, b_Lanswer, SD.ans, oi]
  | leave t => rw [u_Lanswer]; simp [-getElem?_neg, -getElem?_pos, List.getElem?_cons_zero, List.getElem?_cons_succ, evalS.eq_1, evalS.eq_2, evalS.eq_3, evalS.eq_4, evalS.eq_5, evalS.eq_6, evalS.eq_7, evalS.eq_8, evalS.eq_9, evalS.eq_10, evalS.eq_11, evalS.eq_12, evalS.eq_13, evalS.eq_14, evalS.eq_15, evalS.eq_16, evalE.eq_1, evalE.eq_2, evalE.eq_3, evalE.eq_4, evalE.eq_5, evalE.eq_6, evalE.eq_7, evalE.eq_8, evalE.eq_9, evalE.eq_10, evalE.eq_11, evalE.eq_12, evalE.eq_13, evalE.eq_14, evalE.eq_15, evalE.eq_16, evalE.eq_17, evalE.eq_18, evalE.eq_19, evalE.eq_20, evalE.eq_21, evalE.eq_22, evalE.eq_23, evalE.eq_24, evalE.eq_25, evalE.eq_26, evalE.eq_27, evalE.eq_28, evalE.eq_29, evalE.eq_30, evalE.eq_31, evalE.eq_32, evalE.eq_33, evalE.eq_34, evalE.eq_35, evalE.eq_36, evalEs.eq_1, evalEs.eq_2, evalL.eq_1, evalL.eq_2, evalL.eq_3, evalL.eq_4, evalL.eq_5, evalL.eq_6, evalL.eq_7, evalL.eq_8, evalL.eq_9, evalI.eq_1, evalI.eq_2, evalI.eq_3, evalI.eq_4, evalI.eq_5, evalI.eq_6, evalI.eq_7, evalI.eq_8, evalI.eq_9, evalI.eq_10, evalT, evalAnd.eq_1, evalOr.eq_1, evalH.eq_1, evalH.eq_2, handle, E.isNil, E.isNo, Val.isNon, truth, optI, x_lim, x_lim2, Ev.puts.eq_1, Ev.puts.eq_2, lvOf.eq_1, lvOf.eq_2, x_ofO_ite, x_bind_ite, x_toF_ite, x_fb_ite, x_fin_ite, j_ok, j_rt, j_nx, j_int, j_str, j_bl, j_cons, j_some, j_isNon, j_bl2, j_bl3, j_and, j_or, x_mod, x_fdv, x_pw, x_shr, x_mul, x_mulL, x_mulM, x_mulN, b_Lanswer, SD.val, SD.ans, oi]
section
variable {cf : Nat → List Val → Store → R Val} {a i l : E} {ρ : Ev} {S S1 S2 : Store} {v : Val} {xs : List Val} {k : Int}
theorem ev_ixLt (h1 : evalL P cf l ρ S = .ok (.tmp xs) S1) (h2 : evalE P cf i ρ S1 = .ok (.int k) S2) (ha : MP.atI xs k = some v) : evalE P cf (.ixL l i) ρ S = .ok v S2 := by
  simp only [evalE, h1, h2, R.bind, ha, MP.ofO]
theorem ev_inL {b : Bool} (h1 : evalE P cf a ρ S = .ok v S1) (h2 : evalL P cf l ρ S1 = .ok (.tmp xs) S2) (hv : inVs v xs = some b) : evalE P cf (.inL a l) ρ S = .ok (.bl b) S2 := by
  simp only [evalE, h1, h2, R.bind, LV.now, Option.bind, hv, Option.map, MP.ofO]
theorem ev_notinL {b : Bool} (h1 : evalE P cf a ρ S = .ok v S1) (h2 : evalL P cf l ρ S1 = .ok (.tmp xs) S2) (hv : inVs v xs = some b) : evalE P cf (.notinL a l) ρ S = .ok (.bl (!b)) S2 := by
  simp only [evalE, h1, h2, R.bind, LV.now, Option.bind, hv, Option.map, MP.ofO]
theorem ev_ixn {j : Nat} (ha : evalE P cf a ρ S = .ok (.tup xs) S1) (h : xs[j]? = some v) : evalE P cf (.ix a (.int (j : Int))) ρ S = .ok v S1 := ev_ixt ha (ev_int _) (by rw [at_nat]; exact h)
theorem dt (d : SD) (ha : evalE P cf a ρ S = .ok d.val S1) : evalE P cf (.ix a (.int 1)) ρ S = .ok (.int d.t) S1 := by
  cases d <;> exact ev_ixn (j := 1) ha rfl
theorem ticket_ok (v : Val) (t : Int) (r : List Val) (h : v = .tup (.int t :: r)) (n : Nat) (S : Store) : callN P (n+1) f_Lticket [v] S = .ok (.int t) S := by
  rw [u_Lticket]
  unfold b_Lticket
  exact s_fin (es_one (es_ret (first_at v t r h (ev_var rfl)))) rfl
end
/-- the answer's book -/
structure Bhd (rs : List Sto) (ls : List Lod) (r l : Nat) (S : Store) (d : SD) (res : R Val) : Prop where
  ex : ∃ T r' l', res = .ok (.tup [.ref r', .ref l']) (S ++ T) ∧ (S ++ T)[r']? = some (.lst ((d.st rs).map Sto.val)) ∧ (S ++ T)[l']? = some (.lst ((d.la ls).map Lod.val)) ∧ (r' = r ∨ S.length ≤ r') ∧ (l' = l ∨ S.length ≤ l')
theorem sortS {cf : Nat → List Val → Store → R Val} {a x : E} {ρ : Ev} {S S1 : Store} {q : Nat} {xs : List Sto} {y : Sto} (hcf : ∀ (v : Val) (t : Int) (r : List Val), v = .tup (.int t :: r) → ∀ S, cf f_Lticket [v] S = .ok (.int t) S) (ha : evalE P cf a ρ S = .ok (.ref q) S) (hq : S[q]? = some (.lst (xs.map Sto.val))) (hx : evalE P cf x ρ S = .ok y.val S) (hl : xs.length ≤ 900) :
    evalE P cf (.list (.lsortK (.lcat (.lof a) (.llit (.cons x .nil))) f_Lticket)) ρ S = .ok (.ref S.length) (S ++ [.lst (((xs ++ [y]).mergeSort leS).map Sto.val)]) := by
  have e1 := el_cat (el_ref ha hq) (el_lits (evs_cons hx evs_nil) (by simp)) (ll_trk hq) (by rfl) (by simp; omega)
  have e2 : xs.map Sto.val ++ [y.val] = (xs ++ [y]).map Sto.val := by simp
  rw [e2] at e1
  have hk := keysN_map Sto.val (fun x : Sto => x.t) f_Lticket cf S (fun x => hcf x.val x.t _ rfl S) (xs ++ [y])
  have e := ev_sortK (f := f_Lticket) e1 rfl rfl hk
  rw [sortK_map] at e
  exact ev_list e
theorem sortL {cf : Nat → List Val → Store → R Val} {a x : E} {ρ : Ev} {S S1 : Store} {q : Nat} {xs : List Lod} {y : Lod} (hcf : ∀ (v : Val) (t : Int) (r : List Val), v = .tup (.int t :: r) → ∀ S, cf f_Lticket [v] S = .ok (.int t) S) (ha : evalE P cf a ρ S = .ok (.ref q) S) (hq : S[q]? = some (.lst (xs.map Lod.val))) (hx : evalE P cf x ρ S = .ok y.val S) (hl : xs.length ≤ 900) :
    evalE P cf (.list (.lsortK (.lcat (.lof a) (.llit (.cons x .nil))) f_Lticket)) ρ S = .ok (.ref S.length) (S ++ [.lst (((xs ++ [y]).mergeSort leL).map Lod.val)]) := by
  have e1 := el_cat (el_ref ha hq) (el_lits (evs_cons hx evs_nil) (by simp)) (ll_trk hq) (by rfl) (by simp; omega)
  have e2 : xs.map Lod.val ++ [y.val] = (xs ++ [y]).map Lod.val := by simp
  rw [e2] at e1
  have hk := keysN_map Lod.val (fun x : Lod => x.t) f_Lticket cf S (fun x => hcf x.val x.t _ rfl S) (xs ++ [y])
  have e := ev_sortK (f := f_Lticket) e1 rfl rfl hk
  rw [sortK_map] at e
  exact ev_list e
theorem behind_ok {rs l0 ls r l S} (hr : S[r]? = some (.lst (rs.map Sto.val))) (hl : S[l]? = some (.lst (ls.map Lod.val))) (as : AscS rs) (d : SD) (hd : d.ok rs l0) (b1 : rs.length ≤ 400) (b2 : ls.length ≤ 400) (n : Nat) : Bhd rs ls r l S d (callN P (n+2) f_Lbehind [.ref r, .ref l, d.val] S) := by
  have hcf : ∀ (v : Val) (t : Int) (r : List Val), v = .tup (.int t :: r) → ∀ S, callN P (n+1) f_Lticket [v] S = .ok (.int t) S := fun v t r h S => ticket_ok v t r h n S
  have co : ∀ X : Store, X[r]? = some (.lst (rs.map Sto.val)) → evalL P (callN P (n+1)) (.lcomp [4] true [4] (.iof (.lof (.var 0))) l_Lbehind_0 l_Lbehind_1) [some (.ref r), some (.ref l), some d.val, none, none, none] X = .ok (.tmp ((rs.filter fun s => decide (s.t ≠ d.t)).map Sto.val)) X := fun X hX =>
    ev_flt Sto.val Sto.val (fun s => decide (s.t ≠ d.t)) (ev_var rfl) hX (by omega) (fun v => [some (.ref r), some (.ref l), some d.val, none, some v, none]) (fun v => by simp [Ev.wipe]) rfl (fun x => (ev_neI (first_at _ x.t _ rfl (ev_var rfl)) (dt d (ev_var rfl))).trans (by simp)) (fun x => ev_var rfl)
  have s3 : evalS P (callN P (n+1)) (.asg (.name 3) (.list (.lcomp [4] true [4] (.iof (.lof (.var 0))) l_Lbehind_0 l_Lbehind_1))) [some (.ref r), some (.ref l), some d.val, none, none, none] S = .nx [some (.ref r), some (.ref l), some d.val, some (.ref S.length), none, none] (S ++ [.lst ((rs.filter fun s => decide (s.t ≠ d.t)).map Sto.val)]) := es_set (ev_list (co S hr)) rfl
  obtain ⟨A, hA⟩ : ∃ A, S ++ [Ob.lst ((rs.filter fun s => decide (s.t ≠ d.t)).map Sto.val)] = A := ⟨_, rfl⟩
  have hAo : A[S.length]? = some (.lst ((rs.filter fun s => decide (s.t ≠ d.t)).map Sto.val)) := by rw [← hA]; simp
  have hAr : A[r]? = some (.lst (rs.map Sto.val)) := by rw [← hA]; exact x_old hr
  have hAl : A[l]? = some (.lst (ls.map Lod.val)) := by rw [← hA]; exact x_old hl
  have hAn : A.length = S.length + 1 := by rw [← hA]; simp
  rw [hA] at s3
  have hol : (rs.filter fun s => decide (s.t ≠ d.t)).length ≤ 900 := Nat.le_trans (List.length_filter_le _ _) (by omega)
  have cm : evalL P (callN P (n+1)) (.lcomp [4] true [4] (.iof (.lof (.var 0))) l_Lbehind_4 l_Lbehind_5) [some (.ref r), some (.ref l), some d.val, some (.ref S.length), none, none] A = .ok (.tmp ((rs.filter fun s => decide (s.t = d.t)).map Sto.val)) A :=
    ev_flt Sto.val Sto.val (fun s => decide (s.t = d.t)) (ev_var rfl) hAr (by omega) (fun v => [some (.ref r), some (.ref l), some d.val, some (.ref S.length), some v, none]) (fun v => by simp [Ev.wipe]) rfl (fun x => ev_eqI (first_at _ x.t _ rfl (ev_var rfl)) (dt d (ev_var rfl))) (fun x => ev_var rfl)
  have cl : evalL P (callN P (n+1)) (.lcomp [4] true [4] (.iof (.lof (.var 1))) l_Lbehind_2 l_Lbehind_3) [some (.ref r), some (.ref l), some d.val, some (.ref S.length), none, none] A = .ok (.tmp ((ls.filter fun s => decide (s.t ≠ d.t)).map Lod.val)) A :=
    ev_flt Lod.val Lod.val (fun s => decide (s.t ≠ d.t)) (ev_var rfl) hAl (by omega) (fun v => [some (.ref r), some (.ref l), some d.val, some (.ref S.length), some v, none]) (fun v => by simp [Ev.wipe]) rfl (fun x => (ev_neI (first_at _ x.t _ rfl (ev_var rfl)) (dt d (ev_var rfl))).trans (by simp)) (fun x => ev_var rfl)
  rw [u_Lbehind]
  unfold b_Lbehind
  cases d with
  | store t =>
    have c0 : evalE P (callN P (n+1)) (.cmp .eq (.ix (.var 2) (.int 0)) (.str "store")) [some (.ref r), some (.ref l), some (SD.store t).val, none, none, none] S = .ok (.bl true) S := by simp [-getElem?_neg, -getElem?_pos, List.getElem?_cons_zero, List.getElem?_cons_succ, evalS.eq_1, evalS.eq_2, evalS.eq_3, evalS.eq_4, evalS.eq_5, evalS.eq_6, evalS.eq_7, evalS.eq_8, evalS.eq_9, evalS.eq_10, evalS.eq_11, evalS.eq_12, evalS.eq_13, evalS.eq_14, evalS.eq_15, evalS.eq_16, evalE.eq_1, evalE.eq_2, evalE.eq_3, evalE.eq_4, evalE.eq_5, evalE.eq_6, evalE.eq_7, evalE.eq_8, evalE.eq_9, evalE.eq_10, evalE.eq_11, evalE.eq_12, evalE.eq_13, evalE.eq_14, evalE.eq_15, evalE.eq_16, evalE.eq_17, evalE.eq_18, evalE.eq_19, evalE.eq_20, evalE.eq_21, evalE.eq_22, evalE.eq_23, evalE.eq_24, evalE.eq_25, evalE.eq_26, evalE.eq_27, evalE.eq_28, evalE.eq_29, evalE.eq_30, evalE.eq_31, evalE.eq_32, evalE.eq_33, evalE.eq_34, evalE.eq_35, evalE.eq_36, evalEs.eq_1, evalEs.eq_2, evalL.eq_1, evalL.eq_2, evalL.eq_3, evalL.eq_4, evalL.eq_5, evalL.eq_6, evalL.eq_7, evalL.eq_8, evalL.eq_9, evalI.eq_1, evalI.eq_2, evalI.eq_3, evalI.eq_4, evalI.eq_5, evalI.eq_6, evalI.eq_7, evalI.eq_8, evalI.eq_9, evalI.eq_10, evalT, evalAnd.eq_1, evalOr.eq_1, evalH.eq_1, evalH.eq_2, handle, E.isNil, E.isNo, Val.isNon, truth, optI, x_lim, x_lim2, Ev.puts.eq_1, Ev.puts.eq_2, lvOf.eq_1, lvOf.eq_2, x_ofO_ite, x_bind_ite, x_toF_ite, x_fb_ite, x_fin_ite, j_ok, j_rt, j_nx, j_int, j_str, j_bl, j_cons, j_some, j_isNon, j_bl2, j_bl3, j_and, j_or, x_mod, x_fdv, x_pw, x_shr, x_mul, x_mulL, x_mulM, x_mulN, SD.val]
    have f1 := ev_app1 (cf := callN P (n+1)) (a := .var 0) (x := .tup (.cons (.ix (.var 2) (.int 1)) (.cons .non (.cons .non .nil)))) (ρ := [some (.ref r), some (.ref l), some (SD.store t).val, none, none, none]) (S := S) (S1 := S) (ev_var rfl) hr (ev_tup (evs_cons (dt (.store t) (ev_var rfl)) (evs_cons ev_non (evs_cons ev_non evs_nil))) (by simp)) hr (by simp; omega)
    refine ⟨[.lst ((SD.st rs (.store t)).map Sto.val)], S.length, l, ?_, by simp, x_old hl, .inr (Nat.le_refl _), .inl rfl⟩
    have e : (SD.st rs (.store t)).map Sto.val = rs.map Sto.val ++ [.tup [.int (SD.store t).t, .non, .non]] := by simp [SD.st, Sto.val, oi, SD.t]
    rw [e]
    exact s_fin (s_rt (es_hit c0 (es_one (es_ret (ev_tup (evs_cons f1 (evs_cons (ev_var rfl) evs_nil)) (by simp)))))) rfl
  | load t p g =>
    have c0 : evalE P (callN P (n+1)) (.cmp .eq (.ix (.var 2) (.int 0)) (.str "store")) [some (.ref r), some (.ref l), some (SD.load t p g).val, none, none, none] S = .ok (.bl false) S := by simp only [SD.val]; generalize oi g = gv; simp [-getElem?_neg, -getElem?_pos, List.getElem?_cons_zero, List.getElem?_cons_succ, evalS.eq_1, evalS.eq_2, evalS.eq_3, evalS.eq_4, evalS.eq_5, evalS.eq_6, evalS.eq_7, evalS.eq_8, evalS.eq_9, evalS.eq_10, evalS.eq_11, evalS.eq_12, evalS.eq_13, evalS.eq_14, evalS.eq_15, evalS.eq_16, evalE.eq_1, evalE.eq_2, evalE.eq_3, evalE.eq_4, evalE.eq_5, evalE.eq_6, evalE.eq_7, evalE.eq_8, evalE.eq_9, evalE.eq_10, evalE.eq_11, evalE.eq_12, evalE.eq_13, evalE.eq_14, evalE.eq_15, evalE.eq_16, evalE.eq_17, evalE.eq_18, evalE.eq_19, evalE.eq_20, evalE.eq_21, evalE.eq_22, evalE.eq_23, evalE.eq_24, evalE.eq_25, evalE.eq_26, evalE.eq_27, evalE.eq_28, evalE.eq_29, evalE.eq_30, evalE.eq_31, evalE.eq_32, evalE.eq_33, evalE.eq_34, evalE.eq_35, evalE.eq_36, evalEs.eq_1, evalEs.eq_2, evalL.eq_1, evalL.eq_2, evalL.eq_3, evalL.eq_4, evalL.eq_5, evalL.eq_6, evalL.eq_7, evalL.eq_8, evalL.eq_9, evalI.eq_1, evalI.eq_2, evalI.eq_3, evalI.eq_4, evalI.eq_5, evalI.eq_6, evalI.eq_7, evalI.eq_8, evalI.eq_9, evalI.eq_10, evalT, evalAnd.eq_1, evalOr.eq_1, evalH.eq_1, evalH.eq_2, handle, E.isNil, E.isNo, Val.isNon, truth, optI, x_lim, x_lim2, Ev.puts.eq_1, Ev.puts.eq_2, lvOf.eq_1, lvOf.eq_2, x_ofO_ite, x_bind_ite, x_toF_ite, x_fb_ite, x_fin_ite, j_ok, j_rt, j_nx, j_int, j_str, j_bl, j_cons, j_some, j_isNon, j_bl2, j_bl3, j_and, j_or, x_mod, x_fdv, x_pw, x_shr, x_mul, x_mulL, x_mulM, x_mulN]
    have c1 : evalE P (callN P (n+1)) (.cmp .eq (.ix (.var 2) (.int 0)) (.str "load")) [some (.ref r), some (.ref l), some (SD.load t p g).val, none, none, none] S = .ok (.bl true) S := by simp only [SD.val]; generalize oi g = gv; simp [-getElem?_neg, -getElem?_pos, List.getElem?_cons_zero, List.getElem?_cons_succ, evalS.eq_1, evalS.eq_2, evalS.eq_3, evalS.eq_4, evalS.eq_5, evalS.eq_6, evalS.eq_7, evalS.eq_8, evalS.eq_9, evalS.eq_10, evalS.eq_11, evalS.eq_12, evalS.eq_13, evalS.eq_14, evalS.eq_15, evalS.eq_16, evalE.eq_1, evalE.eq_2, evalE.eq_3, evalE.eq_4, evalE.eq_5, evalE.eq_6, evalE.eq_7, evalE.eq_8, evalE.eq_9, evalE.eq_10, evalE.eq_11, evalE.eq_12, evalE.eq_13, evalE.eq_14, evalE.eq_15, evalE.eq_16, evalE.eq_17, evalE.eq_18, evalE.eq_19, evalE.eq_20, evalE.eq_21, evalE.eq_22, evalE.eq_23, evalE.eq_24, evalE.eq_25, evalE.eq_26, evalE.eq_27, evalE.eq_28, evalE.eq_29, evalE.eq_30, evalE.eq_31, evalE.eq_32, evalE.eq_33, evalE.eq_34, evalE.eq_35, evalE.eq_36, evalEs.eq_1, evalEs.eq_2, evalL.eq_1, evalL.eq_2, evalL.eq_3, evalL.eq_4, evalL.eq_5, evalL.eq_6, evalL.eq_7, evalL.eq_8, evalL.eq_9, evalI.eq_1, evalI.eq_2, evalI.eq_3, evalI.eq_4, evalI.eq_5, evalI.eq_6, evalI.eq_7, evalI.eq_8, evalI.eq_9, evalI.eq_10, evalT, evalAnd.eq_1, evalOr.eq_1, evalH.eq_1, evalH.eq_2, handle, E.isNil, E.isNo, Val.isNon, truth, optI, x_lim, x_lim2, Ev.puts.eq_1, Ev.puts.eq_2, lvOf.eq_1, lvOf.eq_2, x_ofO_ite, x_bind_ite, x_toF_ite, x_fb_ite, x_fin_ite, j_ok, j_rt, j_nx, j_int, j_str, j_bl, j_cons, j_some, j_isNon, j_bl2, j_bl3, j_and, j_or, x_mod, x_fdv, x_pw, x_shr, x_mul, x_mulL, x_mulM, x_mulN]
    have f1 := sortL (cf := callN P (n+1)) (a := .var 1) (x := .tup (.cons (.ix (.var 2) (.int 1)) (.cons (.ix (.var 2) (.int 2)) (.cons (.ix (.var 2) (.int 3)) .nil)))) (ρ := [some (.ref r), some (.ref l), some (SD.load t p g).val, none, none, none]) (S := S) (S1 := S) (y := ⟨t, p, g⟩) hcf (ev_var rfl) hl (ev_tup (evs_cons (dt (.load t p g) (ev_var rfl)) (evs_cons (ev_ixn (j := 2) (xs := [.str "load", .int t, .int p, oi g]) (ev_var rfl) rfl) (evs_cons (ev_ixn (j := 3) (xs := [.str "load", .int t, .int p, oi g]) (ev_var rfl) rfl) evs_nil))) (by simp)) (by omega)
    exact ⟨[.lst ((SD.la ls (.load t p g)).map Lod.val)], r, S.length, s_fin ((s_nx (es_off c0)).trans (s_rt (es_hit c1 (es_one (es_ret (ev_tup (evs_cons (ev_var rfl) (evs_cons f1 evs_nil)) (by simp))))))) rfl, x_old hr, by simp, .inl rfl, .inr (Nat.le_refl _)⟩
  | leave t =>
    have c0 : evalE P (callN P (n+1)) (.cmp .eq (.ix (.var 2) (.int 0)) (.str "store")) [some (.ref r), some (.ref l), some (SD.leave t).val, none, none, none] S = .ok (.bl false) S := by simp [-getElem?_neg, -getElem?_pos, List.getElem?_cons_zero, List.getElem?_cons_succ, evalS.eq_1, evalS.eq_2, evalS.eq_3, evalS.eq_4, evalS.eq_5, evalS.eq_6, evalS.eq_7, evalS.eq_8, evalS.eq_9, evalS.eq_10, evalS.eq_11, evalS.eq_12, evalS.eq_13, evalS.eq_14, evalS.eq_15, evalS.eq_16, evalE.eq_1, evalE.eq_2, evalE.eq_3, evalE.eq_4, evalE.eq_5, evalE.eq_6, evalE.eq_7, evalE.eq_8, evalE.eq_9, evalE.eq_10, evalE.eq_11, evalE.eq_12, evalE.eq_13, evalE.eq_14, evalE.eq_15, evalE.eq_16, evalE.eq_17, evalE.eq_18, evalE.eq_19, evalE.eq_20, evalE.eq_21, evalE.eq_22, evalE.eq_23, evalE.eq_24, evalE.eq_25, evalE.eq_26, evalE.eq_27, evalE.eq_28, evalE.eq_29, evalE.eq_30, evalE.eq_31, evalE.eq_32, evalE.eq_33, evalE.eq_34, evalE.eq_35, evalE.eq_36, evalEs.eq_1, evalEs.eq_2, evalL.eq_1, evalL.eq_2, evalL.eq_3, evalL.eq_4, evalL.eq_5, evalL.eq_6, evalL.eq_7, evalL.eq_8, evalL.eq_9, evalI.eq_1, evalI.eq_2, evalI.eq_3, evalI.eq_4, evalI.eq_5, evalI.eq_6, evalI.eq_7, evalI.eq_8, evalI.eq_9, evalI.eq_10, evalT, evalAnd.eq_1, evalOr.eq_1, evalH.eq_1, evalH.eq_2, handle, E.isNil, E.isNo, Val.isNon, truth, optI, x_lim, x_lim2, Ev.puts.eq_1, Ev.puts.eq_2, lvOf.eq_1, lvOf.eq_2, x_ofO_ite, x_bind_ite, x_toF_ite, x_fb_ite, x_fin_ite, j_ok, j_rt, j_nx, j_int, j_str, j_bl, j_cons, j_some, j_isNon, j_bl2, j_bl3, j_and, j_or, x_mod, x_fdv, x_pw, x_shr, x_mul, x_mulL, x_mulM, x_mulN, SD.val]
    have c1 : evalE P (callN P (n+1)) (.cmp .eq (.ix (.var 2) (.int 0)) (.str "load")) [some (.ref r), some (.ref l), some (SD.leave t).val, none, none, none] S = .ok (.bl false) S := by simp [-getElem?_neg, -getElem?_pos, List.getElem?_cons_zero, List.getElem?_cons_succ, evalS.eq_1, evalS.eq_2, evalS.eq_3, evalS.eq_4, evalS.eq_5, evalS.eq_6, evalS.eq_7, evalS.eq_8, evalS.eq_9, evalS.eq_10, evalS.eq_11, evalS.eq_12, evalS.eq_13, evalS.eq_14, evalS.eq_15, evalS.eq_16, evalE.eq_1, evalE.eq_2, evalE.eq_3, evalE.eq_4, evalE.eq_5, evalE.eq_6, evalE.eq_7, evalE.eq_8, evalE.eq_9, evalE.eq_10, evalE.eq_11, evalE.eq_12, evalE.eq_13, evalE.eq_14, evalE.eq_15, evalE.eq_16, evalE.eq_17, evalE.eq_18, evalE.eq_19, evalE.eq_20, evalE.eq_21, evalE.eq_22, evalE.eq_23, evalE.eq_24, evalE.eq_25, evalE.eq_26, evalE.eq_27, evalE.eq_28, evalE.eq_29, evalE.eq_30, evalE.eq_31, evalE.eq_32, evalE.eq_33, evalE.eq_34, evalE.eq_35, evalE.eq_36, evalEs.eq_1, evalEs.eq_2, evalL.eq_1, evalL.eq_2, evalL.eq_3, evalL.eq_4, evalL.eq_5, evalL.eq_6, evalL.eq_7, evalL.eq_8, evalL.eq_9, evalI.eq_1, evalI.eq_2, evalI.eq_3, evalI.eq_4, evalI.eq_5, evalI.eq_6, evalI.eq_7, evalI.eq_8, evalI.eq_9, evalI.eq_10, evalT, evalAnd.eq_1, evalOr.eq_1, evalH.eq_1, evalH.eq_2, handle, E.isNil, E.isNo, Val.isNon, truth, optI, x_lim, x_lim2, Ev.puts.eq_1, Ev.puts.eq_2, lvOf.eq_1, lvOf.eq_2, x_ofO_ite, x_bind_ite, x_toF_ite, x_fb_ite, x_fin_ite, j_ok, j_rt, j_nx, j_int, j_str, j_bl, j_cons, j_some, j_isNon, j_bl2, j_bl3, j_and, j_or, x_mod, x_fdv, x_pw, x_shr, x_mul, x_mulL, x_mulM, x_mulN, SD.val]
    have c2 : evalE P (callN P (n+1)) (.cmp .eq (.ix (.var 2) (.int 0)) (.str "leave")) [some (.ref r), some (.ref l), some (SD.leave t).val, some (.ref S.length), none, none] A = .ok (.bl true) A := by simp [-getElem?_neg, -getElem?_pos, List.getElem?_cons_zero, List.getElem?_cons_succ, evalS.eq_1, evalS.eq_2, evalS.eq_3, evalS.eq_4, evalS.eq_5, evalS.eq_6, evalS.eq_7, evalS.eq_8, evalS.eq_9, evalS.eq_10, evalS.eq_11, evalS.eq_12, evalS.eq_13, evalS.eq_14, evalS.eq_15, evalS.eq_16, evalE.eq_1, evalE.eq_2, evalE.eq_3, evalE.eq_4, evalE.eq_5, evalE.eq_6, evalE.eq_7, evalE.eq_8, evalE.eq_9, evalE.eq_10, evalE.eq_11, evalE.eq_12, evalE.eq_13, evalE.eq_14, evalE.eq_15, evalE.eq_16, evalE.eq_17, evalE.eq_18, evalE.eq_19, evalE.eq_20, evalE.eq_21, evalE.eq_22, evalE.eq_23, evalE.eq_24, evalE.eq_25, evalE.eq_26, evalE.eq_27, evalE.eq_28, evalE.eq_29, evalE.eq_30, evalE.eq_31, evalE.eq_32, evalE.eq_33, evalE.eq_34, evalE.eq_35, evalE.eq_36, evalEs.eq_1, evalEs.eq_2, evalL.eq_1, evalL.eq_2, evalL.eq_3, evalL.eq_4, evalL.eq_5, evalL.eq_6, evalL.eq_7, evalL.eq_8, evalL.eq_9, evalI.eq_1, evalI.eq_2, evalI.eq_3, evalI.eq_4, evalI.eq_5, evalI.eq_6, evalI.eq_7, evalI.eq_8, evalI.eq_9, evalI.eq_10, evalT, evalAnd.eq_1, evalOr.eq_1, evalH.eq_1, evalH.eq_2, handle, E.isNil, E.isNo, Val.isNon, truth, optI, x_lim, x_lim2, Ev.puts.eq_1, Ev.puts.eq_2, lvOf.eq_1, lvOf.eq_2, x_ofO_ite, x_bind_ite, x_toF_ite, x_fb_ite, x_fin_ite, j_ok, j_rt, j_nx, j_int, j_str, j_bl, j_cons, j_some, j_isNon, j_bl2, j_bl3, j_and, j_or, x_mod, x_fdv, x_pw, x_shr, x_mul, x_mulL, x_mulM, x_mulN, SD.val]
    refine ⟨[.lst ((SD.st rs (.leave t)).map Sto.val), .lst ((SD.la ls (.leave t)).map Lod.val)], S.length, S.length + 1, ?_, by simp, by simp, .inr (Nat.le_refl _), .inr (by omega)⟩
    have e : S ++ [.lst ((SD.st rs (.leave t)).map Sto.val), .lst ((SD.la ls (.leave t)).map Lod.val)] = A ++ [.lst ((SD.la ls (.leave t)).map Lod.val)] := by rw [← hA, List.append_assoc]; rfl
    rw [e, ← hAn]
    exact s_fin ((s_nx (es_off c0)).trans ((s_nx (es_off c1)).trans ((s_nx s3).trans (s_rt (es_hit c2 (es_one (es_ret (ev_tup (evs_cons (ev_var rfl) (evs_cons (ev_list cl) evs_nil)) (by simp))))))))) rfl
  | place t p =>
    obtain ⟨j, s, q1, q2, q3⟩ := hd
    obtain ⟨hj, ht⟩ := spotS_get q1
    have c0 : evalE P (callN P (n+1)) (.cmp .eq (.ix (.var 2) (.int 0)) (.str "store")) [some (.ref r), some (.ref l), some (SD.place t p).val, none, none, none] S = .ok (.bl false) S := by simp [-getElem?_neg, -getElem?_pos, List.getElem?_cons_zero, List.getElem?_cons_succ, evalS.eq_1, evalS.eq_2, evalS.eq_3, evalS.eq_4, evalS.eq_5, evalS.eq_6, evalS.eq_7, evalS.eq_8, evalS.eq_9, evalS.eq_10, evalS.eq_11, evalS.eq_12, evalS.eq_13, evalS.eq_14, evalS.eq_15, evalS.eq_16, evalE.eq_1, evalE.eq_2, evalE.eq_3, evalE.eq_4, evalE.eq_5, evalE.eq_6, evalE.eq_7, evalE.eq_8, evalE.eq_9, evalE.eq_10, evalE.eq_11, evalE.eq_12, evalE.eq_13, evalE.eq_14, evalE.eq_15, evalE.eq_16, evalE.eq_17, evalE.eq_18, evalE.eq_19, evalE.eq_20, evalE.eq_21, evalE.eq_22, evalE.eq_23, evalE.eq_24, evalE.eq_25, evalE.eq_26, evalE.eq_27, evalE.eq_28, evalE.eq_29, evalE.eq_30, evalE.eq_31, evalE.eq_32, evalE.eq_33, evalE.eq_34, evalE.eq_35, evalE.eq_36, evalEs.eq_1, evalEs.eq_2, evalL.eq_1, evalL.eq_2, evalL.eq_3, evalL.eq_4, evalL.eq_5, evalL.eq_6, evalL.eq_7, evalL.eq_8, evalL.eq_9, evalI.eq_1, evalI.eq_2, evalI.eq_3, evalI.eq_4, evalI.eq_5, evalI.eq_6, evalI.eq_7, evalI.eq_8, evalI.eq_9, evalI.eq_10, evalT, evalAnd.eq_1, evalOr.eq_1, evalH.eq_1, evalH.eq_2, handle, E.isNil, E.isNo, Val.isNon, truth, optI, x_lim, x_lim2, Ev.puts.eq_1, Ev.puts.eq_2, lvOf.eq_1, lvOf.eq_2, x_ofO_ite, x_bind_ite, x_toF_ite, x_fb_ite, x_fin_ite, j_ok, j_rt, j_nx, j_int, j_str, j_bl, j_cons, j_some, j_isNon, j_bl2, j_bl3, j_and, j_or, x_mod, x_fdv, x_pw, x_shr, x_mul, x_mulL, x_mulM, x_mulN, SD.val]
    have c1 : evalE P (callN P (n+1)) (.cmp .eq (.ix (.var 2) (.int 0)) (.str "load")) [some (.ref r), some (.ref l), some (SD.place t p).val, none, none, none] S = .ok (.bl false) S := by simp [-getElem?_neg, -getElem?_pos, List.getElem?_cons_zero, List.getElem?_cons_succ, evalS.eq_1, evalS.eq_2, evalS.eq_3, evalS.eq_4, evalS.eq_5, evalS.eq_6, evalS.eq_7, evalS.eq_8, evalS.eq_9, evalS.eq_10, evalS.eq_11, evalS.eq_12, evalS.eq_13, evalS.eq_14, evalS.eq_15, evalS.eq_16, evalE.eq_1, evalE.eq_2, evalE.eq_3, evalE.eq_4, evalE.eq_5, evalE.eq_6, evalE.eq_7, evalE.eq_8, evalE.eq_9, evalE.eq_10, evalE.eq_11, evalE.eq_12, evalE.eq_13, evalE.eq_14, evalE.eq_15, evalE.eq_16, evalE.eq_17, evalE.eq_18, evalE.eq_19, evalE.eq_20, evalE.eq_21, evalE.eq_22, evalE.eq_23, evalE.eq_24, evalE.eq_25, evalE.eq_26, evalE.eq_27, evalE.eq_28, evalE.eq_29, evalE.eq_30, evalE.eq_31, evalE.eq_32, evalE.eq_33, evalE.eq_34, evalE.eq_35, evalE.eq_36, evalEs.eq_1, evalEs.eq_2, evalL.eq_1, evalL.eq_2, evalL.eq_3, evalL.eq_4, evalL.eq_5, evalL.eq_6, evalL.eq_7, evalL.eq_8, evalL.eq_9, evalI.eq_1, evalI.eq_2, evalI.eq_3, evalI.eq_4, evalI.eq_5, evalI.eq_6, evalI.eq_7, evalI.eq_8, evalI.eq_9, evalI.eq_10, evalT, evalAnd.eq_1, evalOr.eq_1, evalH.eq_1, evalH.eq_2, handle, E.isNil, E.isNo, Val.isNon, truth, optI, x_lim, x_lim2, Ev.puts.eq_1, Ev.puts.eq_2, lvOf.eq_1, lvOf.eq_2, x_ofO_ite, x_bind_ite, x_toF_ite, x_fb_ite, x_fin_ite, j_ok, j_rt, j_nx, j_int, j_str, j_bl, j_cons, j_some, j_isNon, j_bl2, j_bl3, j_and, j_or, x_mod, x_fdv, x_pw, x_shr, x_mul, x_mulL, x_mulM, x_mulN, SD.val]
    have c2 : evalE P (callN P (n+1)) (.cmp .eq (.ix (.var 2) (.int 0)) (.str "leave")) [some (.ref r), some (.ref l), some (SD.place t p).val, some (.ref S.length), none, none] A = .ok (.bl false) A := by simp [-getElem?_neg, -getElem?_pos, List.getElem?_cons_zero, List.getElem?_cons_succ, evalS.eq_1, evalS.eq_2, evalS.eq_3, evalS.eq_4, evalS.eq_5, evalS.eq_6, evalS.eq_7, evalS.eq_8, evalS.eq_9, evalS.eq_10, evalS.eq_11, evalS.eq_12, evalS.eq_13, evalS.eq_14, evalS.eq_15, evalS.eq_16, evalE.eq_1, evalE.eq_2, evalE.eq_3, evalE.eq_4, evalE.eq_5, evalE.eq_6, evalE.eq_7, evalE.eq_8, evalE.eq_9, evalE.eq_10, evalE.eq_11, evalE.eq_12, evalE.eq_13, evalE.eq_14, evalE.eq_15, evalE.eq_16, evalE.eq_17, evalE.eq_18, evalE.eq_19, evalE.eq_20, evalE.eq_21, evalE.eq_22, evalE.eq_23, evalE.eq_24, evalE.eq_25, evalE.eq_26, evalE.eq_27, evalE.eq_28, evalE.eq_29, evalE.eq_30, evalE.eq_31, evalE.eq_32, evalE.eq_33, evalE.eq_34, evalE.eq_35, evalE.eq_36, evalEs.eq_1, evalEs.eq_2, evalL.eq_1, evalL.eq_2, evalL.eq_3, evalL.eq_4, evalL.eq_5, evalL.eq_6, evalL.eq_7, evalL.eq_8, evalL.eq_9, evalI.eq_1, evalI.eq_2, evalI.eq_3, evalI.eq_4, evalI.eq_5, evalI.eq_6, evalI.eq_7, evalI.eq_8, evalI.eq_9, evalI.eq_10, evalT, evalAnd.eq_1, evalOr.eq_1, evalH.eq_1, evalH.eq_2, handle, E.isNil, E.isNo, Val.isNon, truth, optI, x_lim, x_lim2, Ev.puts.eq_1, Ev.puts.eq_2, lvOf.eq_1, lvOf.eq_2, x_ofO_ite, x_bind_ite, x_toF_ite, x_fb_ite, x_fin_ite, j_ok, j_rt, j_nx, j_int, j_str, j_bl, j_cons, j_some, j_isNon, j_bl2, j_bl3, j_and, j_or, x_mod, x_fdv, x_pw, x_shr, x_mul, x_mulL, x_mulM, x_mulN, SD.val]
    have em : (rs.filter fun s => decide (s.t = (SD.place t p).t)).map Sto.val = [rs[j].val] := by
      have := mine_eq as hj; rw [ht] at this; exact congrArg (List.map Sto.val) this
    rw [em] at cm
    have s4 : evalS P (callN P (n+1)) (.asg (.name 5) (.ixL (.lcomp [4] true [4] (.iof (.lof (.var 0))) l_Lbehind_4 l_Lbehind_5) (.int 0))) [some (.ref r), some (.ref l), some (SD.place t p).val, some (.ref S.length), none, none] A = .nx [some (.ref r), some (.ref l), some (SD.place t p).val, some (.ref S.length), none, some rs[j].val] A := es_set (ev_ixLt cm (ev_int 0) rfl) rfl
    have c3 : evalE P (callN P (n+1)) (.cmp .eq (.ix (.var 2) (.int 0)) (.str "place")) [some (.ref r), some (.ref l), some (SD.place t p).val, some (.ref S.length), none, some rs[j].val] A = .ok (.bl true) A := by simp [-getElem?_neg, -getElem?_pos, List.getElem?_cons_zero, List.getElem?_cons_succ, evalS.eq_1, evalS.eq_2, evalS.eq_3, evalS.eq_4, evalS.eq_5, evalS.eq_6, evalS.eq_7, evalS.eq_8, evalS.eq_9, evalS.eq_10, evalS.eq_11, evalS.eq_12, evalS.eq_13, evalS.eq_14, evalS.eq_15, evalS.eq_16, evalE.eq_1, evalE.eq_2, evalE.eq_3, evalE.eq_4, evalE.eq_5, evalE.eq_6, evalE.eq_7, evalE.eq_8, evalE.eq_9, evalE.eq_10, evalE.eq_11, evalE.eq_12, evalE.eq_13, evalE.eq_14, evalE.eq_15, evalE.eq_16, evalE.eq_17, evalE.eq_18, evalE.eq_19, evalE.eq_20, evalE.eq_21, evalE.eq_22, evalE.eq_23, evalE.eq_24, evalE.eq_25, evalE.eq_26, evalE.eq_27, evalE.eq_28, evalE.eq_29, evalE.eq_30, evalE.eq_31, evalE.eq_32, evalE.eq_33, evalE.eq_34, evalE.eq_35, evalE.eq_36, evalEs.eq_1, evalEs.eq_2, evalL.eq_1, evalL.eq_2, evalL.eq_3, evalL.eq_4, evalL.eq_5, evalL.eq_6, evalL.eq_7, evalL.eq_8, evalL.eq_9, evalI.eq_1, evalI.eq_2, evalI.eq_3, evalI.eq_4, evalI.eq_5, evalI.eq_6, evalI.eq_7, evalI.eq_8, evalI.eq_9, evalI.eq_10, evalT, evalAnd.eq_1, evalOr.eq_1, evalH.eq_1, evalH.eq_2, handle, E.isNil, E.isNo, Val.isNon, truth, optI, x_lim, x_lim2, Ev.puts.eq_1, Ev.puts.eq_2, lvOf.eq_1, lvOf.eq_2, x_ofO_ite, x_bind_ite, x_toF_ite, x_fb_ite, x_fin_ite, j_ok, j_rt, j_nx, j_int, j_str, j_bl, j_cons, j_some, j_isNon, j_bl2, j_bl3, j_and, j_or, x_mod, x_fdv, x_pw, x_shr, x_mul, x_mulL, x_mulM, x_mulN, SD.val]
    have f1 := sortS (cf := callN P (n+1)) (a := .var 3) (x := .tup (.cons (.ix (.var 2) (.int 1)) (.cons (.ix (.var 2) (.int 2)) (.cons (.ix (.var 5) (.int 2)) .nil)))) (ρ := [some (.ref r), some (.ref l), some (SD.place t p).val, some (.ref S.length), none, some rs[j].val]) (S := A) (S1 := A) (y := ⟨t, some p, rs[j].w⟩) hcf (ev_var rfl) hAo (ev_tup (evs_cons (dt (.place t p) (ev_var rfl)) (evs_cons (ev_ixn (j := 2) (xs := [.str "place", .int t, .int p]) (ev_var rfl) rfl) (evs_cons (ev_ixn (j := 2) (xs := [.int rs[j].t, oi rs[j].p, oi rs[j].w]) (ev_var rfl) rfl) evs_nil))) (by simp)) hol
    have e := put_back as hj ⟨t, some p, rs[j].w⟩ ht.symm
    have e5 : SD.st rs (.place t p) = rs.set j ⟨t, some p, rs[j].w⟩ := by simp only [SD.st, q1]; rw [setP_eq hj, ht]
    rw [ht] at e
    have e : ((rs.filter fun s : Sto => decide (s.t ≠ (SD.place t p).t)) ++ [(⟨t, some p, rs[j].w⟩ : Sto)]).mergeSort leS = rs.set j ⟨t, some p, rs[j].w⟩ := e
    rw [e, ← e5] at f1
    refine ⟨[.lst ((rs.filter fun s => decide (s.t ≠ (SD.place t p).t)).map Sto.val), .lst ((SD.st rs (.place t p)).map Sto.val)], S.length + 1, l, ?_, by simp, x_old hl, .inr (by omega), .inl rfl⟩
    have e : S ++ [.lst ((rs.filter fun s => decide (s.t ≠ (SD.place t p).t)).map Sto.val), .lst ((SD.st rs (.place t p)).map Sto.val)] = A ++ [.lst ((SD.st rs (.place t p)).map Sto.val)] := by rw [← hA]; simp
    rw [e, ← hAn]
    exact s_fin ((s_nx (es_off c0)).trans ((s_nx (es_off c1)).trans ((s_nx s3).trans ((s_nx (es_off c2)).trans ((s_nx s4).trans (s_rt (es_hit c3 (es_one (es_ret (ev_tup (evs_cons f1 (evs_cons (ev_var rfl) evs_nil)) (by simp))))))))))) rfl
  | word t p =>
    obtain ⟨j, s, q1, q2, q3⟩ := hd
    obtain ⟨hj, ht⟩ := spotS_get q1
    have c0 : evalE P (callN P (n+1)) (.cmp .eq (.ix (.var 2) (.int 0)) (.str "store")) [some (.ref r), some (.ref l), some (SD.word t p).val, none, none, none] S = .ok (.bl false) S := by simp [-getElem?_neg, -getElem?_pos, List.getElem?_cons_zero, List.getElem?_cons_succ, evalS.eq_1, evalS.eq_2, evalS.eq_3, evalS.eq_4, evalS.eq_5, evalS.eq_6, evalS.eq_7, evalS.eq_8, evalS.eq_9, evalS.eq_10, evalS.eq_11, evalS.eq_12, evalS.eq_13, evalS.eq_14, evalS.eq_15, evalS.eq_16, evalE.eq_1, evalE.eq_2, evalE.eq_3, evalE.eq_4, evalE.eq_5, evalE.eq_6, evalE.eq_7, evalE.eq_8, evalE.eq_9, evalE.eq_10, evalE.eq_11, evalE.eq_12, evalE.eq_13, evalE.eq_14, evalE.eq_15, evalE.eq_16, evalE.eq_17, evalE.eq_18, evalE.eq_19, evalE.eq_20, evalE.eq_21, evalE.eq_22, evalE.eq_23, evalE.eq_24, evalE.eq_25, evalE.eq_26, evalE.eq_27, evalE.eq_28, evalE.eq_29, evalE.eq_30, evalE.eq_31, evalE.eq_32, evalE.eq_33, evalE.eq_34, evalE.eq_35, evalE.eq_36, evalEs.eq_1, evalEs.eq_2, evalL.eq_1, evalL.eq_2, evalL.eq_3, evalL.eq_4, evalL.eq_5, evalL.eq_6, evalL.eq_7, evalL.eq_8, evalL.eq_9, evalI.eq_1, evalI.eq_2, evalI.eq_3, evalI.eq_4, evalI.eq_5, evalI.eq_6, evalI.eq_7, evalI.eq_8, evalI.eq_9, evalI.eq_10, evalT, evalAnd.eq_1, evalOr.eq_1, evalH.eq_1, evalH.eq_2, handle, E.isNil, E.isNo, Val.isNon, truth, optI, x_lim, x_lim2, Ev.puts.eq_1, Ev.puts.eq_2, lvOf.eq_1, lvOf.eq_2, x_ofO_ite, x_bind_ite, x_toF_ite, x_fb_ite, x_fin_ite, j_ok, j_rt, j_nx, j_int, j_str, j_bl, j_cons, j_some, j_isNon, j_bl2, j_bl3, j_and, j_or, x_mod, x_fdv, x_pw, x_shr, x_mul, x_mulL, x_mulM, x_mulN, SD.val]
    have c1 : evalE P (callN P (n+1)) (.cmp .eq (.ix (.var 2) (.int 0)) (.str "load")) [some (.ref r), some (.ref l), some (SD.word t p).val, none, none, none] S = .ok (.bl false) S := by simp [-getElem?_neg, -getElem?_pos, List.getElem?_cons_zero, List.getElem?_cons_succ, evalS.eq_1, evalS.eq_2, evalS.eq_3, evalS.eq_4, evalS.eq_5, evalS.eq_6, evalS.eq_7, evalS.eq_8, evalS.eq_9, evalS.eq_10, evalS.eq_11, evalS.eq_12, evalS.eq_13, evalS.eq_14, evalS.eq_15, evalS.eq_16, evalE.eq_1, evalE.eq_2, evalE.eq_3, evalE.eq_4, evalE.eq_5, evalE.eq_6, evalE.eq_7, evalE.eq_8, evalE.eq_9, evalE.eq_10, evalE.eq_11, evalE.eq_12, evalE.eq_13, evalE.eq_14, evalE.eq_15, evalE.eq_16, evalE.eq_17, evalE.eq_18, evalE.eq_19, evalE.eq_20, evalE.eq_21, evalE.eq_22, evalE.eq_23, evalE.eq_24, evalE.eq_25, evalE.eq_26, evalE.eq_27, evalE.eq_28, evalE.eq_29, evalE.eq_30, evalE.eq_31, evalE.eq_32, evalE.eq_33, evalE.eq_34, evalE.eq_35, evalE.eq_36, evalEs.eq_1, evalEs.eq_2, evalL.eq_1, evalL.eq_2, evalL.eq_3, evalL.eq_4, evalL.eq_5, evalL.eq_6, evalL.eq_7, evalL.eq_8, evalL.eq_9, evalI.eq_1, evalI.eq_2, evalI.eq_3, evalI.eq_4, evalI.eq_5, evalI.eq_6, evalI.eq_7, evalI.eq_8, evalI.eq_9, evalI.eq_10, evalT, evalAnd.eq_1, evalOr.eq_1, evalH.eq_1, evalH.eq_2, handle, E.isNil, E.isNo, Val.isNon, truth, optI, x_lim, x_lim2, Ev.puts.eq_1, Ev.puts.eq_2, lvOf.eq_1, lvOf.eq_2, x_ofO_ite, x_bind_ite, x_toF_ite, x_fb_ite, x_fin_ite, j_ok, j_rt, j_nx, j_int, j_str, j_bl, j_cons, j_some, j_isNon, j_bl2, j_bl3, j_and, j_or, x_mod, x_fdv, x_pw, x_shr, x_mul, x_mulL, x_mulM, x_mulN, SD.val]
    have c2 : evalE P (callN P (n+1)) (.cmp .eq (.ix (.var 2) (.int 0)) (.str "leave")) [some (.ref r), some (.ref l), some (SD.word t p).val, some (.ref S.length), none, none] A = .ok (.bl false) A := by simp [-getElem?_neg, -getElem?_pos, List.getElem?_cons_zero, List.getElem?_cons_succ, evalS.eq_1, evalS.eq_2, evalS.eq_3, evalS.eq_4, evalS.eq_5, evalS.eq_6, evalS.eq_7, evalS.eq_8, evalS.eq_9, evalS.eq_10, evalS.eq_11, evalS.eq_12, evalS.eq_13, evalS.eq_14, evalS.eq_15, evalS.eq_16, evalE.eq_1, evalE.eq_2, evalE.eq_3, evalE.eq_4, evalE.eq_5, evalE.eq_6, evalE.eq_7, evalE.eq_8, evalE.eq_9, evalE.eq_10, evalE.eq_11, evalE.eq_12, evalE.eq_13, evalE.eq_14, evalE.eq_15, evalE.eq_16, evalE.eq_17, evalE.eq_18, evalE.eq_19, evalE.eq_20, evalE.eq_21, evalE.eq_22, evalE.eq_23, evalE.eq_24, evalE.eq_25, evalE.eq_26, evalE.eq_27, evalE.eq_28, evalE.eq_29, evalE.eq_30, evalE.eq_31, evalE.eq_32, evalE.eq_33, evalE.eq_34, evalE.eq_35, evalE.eq_36, evalEs.eq_1, evalEs.eq_2, evalL.eq_1, evalL.eq_2, evalL.eq_3, evalL.eq_4, evalL.eq_5, evalL.eq_6, evalL.eq_7, evalL.eq_8, evalL.eq_9, evalI.eq_1, evalI.eq_2, evalI.eq_3, evalI.eq_4, evalI.eq_5, evalI.eq_6, evalI.eq_7, evalI.eq_8, evalI.eq_9, evalI.eq_10, evalT, evalAnd.eq_1, evalOr.eq_1, evalH.eq_1, evalH.eq_2, handle, E.isNil, E.isNo, Val.isNon, truth, optI, x_lim, x_lim2, Ev.puts.eq_1, Ev.puts.eq_2, lvOf.eq_1, lvOf.eq_2, x_ofO_ite, x_bind_ite, x_toF_ite, x_fb_ite, x_fin_ite, j_ok, j_rt, j_nx, j_int, j_str, j_bl, j_cons, j_some, j_isNon, j_bl2, j_bl3, j_and, j_or, x_mod, x_fdv, x_pw, x_shr, x_mul, x_mulL, x_mulM, x_mulN, SD.val]
    have em : (rs.filter fun s => decide (s.t = (SD.word t p).t)).map Sto.val = [rs[j].val] := by
      have := mine_eq as hj; rw [ht] at this; exact congrArg (List.map Sto.val) this
    rw [em] at cm
    have s4 : evalS P (callN P (n+1)) (.asg (.name 5) (.ixL (.lcomp [4] true [4] (.iof (.lof (.var 0))) l_Lbehind_4 l_Lbehind_5) (.int 0))) [some (.ref r), some (.ref l), some (SD.word t p).val, some (.ref S.length), none, none] A = .nx [some (.ref r), some (.ref l), some (SD.word t p).val, some (.ref S.length), none, some rs[j].val] A := es_set (ev_ixLt cm (ev_int 0) rfl) rfl
    have c3 : evalE P (callN P (n+1)) (.cmp .eq (.ix (.var 2) (.int 0)) (.str "place")) [some (.ref r), some (.ref l), some (SD.word t p).val, some (.ref S.length), none, some rs[j].val] A = .ok (.bl false) A := by simp [-getElem?_neg, -getElem?_pos, List.getElem?_cons_zero, List.getElem?_cons_succ, evalS.eq_1, evalS.eq_2, evalS.eq_3, evalS.eq_4, evalS.eq_5, evalS.eq_6, evalS.eq_7, evalS.eq_8, evalS.eq_9, evalS.eq_10, evalS.eq_11, evalS.eq_12, evalS.eq_13, evalS.eq_14, evalS.eq_15, evalS.eq_16, evalE.eq_1, evalE.eq_2, evalE.eq_3, evalE.eq_4, evalE.eq_5, evalE.eq_6, evalE.eq_7, evalE.eq_8, evalE.eq_9, evalE.eq_10, evalE.eq_11, evalE.eq_12, evalE.eq_13, evalE.eq_14, evalE.eq_15, evalE.eq_16, evalE.eq_17, evalE.eq_18, evalE.eq_19, evalE.eq_20, evalE.eq_21, evalE.eq_22, evalE.eq_23, evalE.eq_24, evalE.eq_25, evalE.eq_26, evalE.eq_27, evalE.eq_28, evalE.eq_29, evalE.eq_30, evalE.eq_31, evalE.eq_32, evalE.eq_33, evalE.eq_34, evalE.eq_35, evalE.eq_36, evalEs.eq_1, evalEs.eq_2, evalL.eq_1, evalL.eq_2, evalL.eq_3, evalL.eq_4, evalL.eq_5, evalL.eq_6, evalL.eq_7, evalL.eq_8, evalL.eq_9, evalI.eq_1, evalI.eq_2, evalI.eq_3, evalI.eq_4, evalI.eq_5, evalI.eq_6, evalI.eq_7, evalI.eq_8, evalI.eq_9, evalI.eq_10, evalT, evalAnd.eq_1, evalOr.eq_1, evalH.eq_1, evalH.eq_2, handle, E.isNil, E.isNo, Val.isNon, truth, optI, x_lim, x_lim2, Ev.puts.eq_1, Ev.puts.eq_2, lvOf.eq_1, lvOf.eq_2, x_ofO_ite, x_bind_ite, x_toF_ite, x_fb_ite, x_fin_ite, j_ok, j_rt, j_nx, j_int, j_str, j_bl, j_cons, j_some, j_isNon, j_bl2, j_bl3, j_and, j_or, x_mod, x_fdv, x_pw, x_shr, x_mul, x_mulL, x_mulM, x_mulN, SD.val]
    have f1 := sortS (cf := callN P (n+1)) (a := .var 3) (x := .tup (.cons (.ix (.var 2) (.int 1)) (.cons (.ix (.var 5) (.int 1)) (.cons (.ix (.var 2) (.int 2)) .nil)))) (ρ := [some (.ref r), some (.ref l), some (SD.word t p).val, some (.ref S.length), none, some rs[j].val]) (S := A) (S1 := A) (y := ⟨t, rs[j].p, some p⟩) hcf (ev_var rfl) hAo (ev_tup (evs_cons (dt (.word t p) (ev_var rfl)) (evs_cons (ev_ixn (j := 1) (xs := [.int rs[j].t, oi rs[j].p, oi rs[j].w]) (ev_var rfl) rfl) (evs_cons (ev_ixn (j := 2) (xs := [.str "word", .int t, .int p]) (ev_var rfl) rfl) evs_nil))) (by simp)) hol
    have e := put_back as hj ⟨t, rs[j].p, some p⟩ ht.symm
    have e5 : SD.st rs (.word t p) = rs.set j ⟨t, rs[j].p, some p⟩ := by simp only [SD.st, q1]; rw [setW_eq hj, ht]
    rw [ht] at e
    have e : ((rs.filter fun s : Sto => decide (s.t ≠ (SD.word t p).t)) ++ [(⟨t, rs[j].p, some p⟩ : Sto)]).mergeSort leS = rs.set j ⟨t, rs[j].p, some p⟩ := e
    rw [e, ← e5] at f1
    refine ⟨[.lst ((rs.filter fun s => decide (s.t ≠ (SD.word t p).t)).map Sto.val), .lst ((SD.st rs (.word t p)).map Sto.val)], S.length + 1, l, ?_, by simp, x_old hl, .inr (by omega), .inl rfl⟩
    have e : S ++ [.lst ((rs.filter fun s => decide (s.t ≠ (SD.word t p).t)).map Sto.val), .lst ((SD.st rs (.word t p)).map Sto.val)] = A ++ [.lst ((SD.st rs (.word t p)).map Sto.val)] := by rw [← hA]; simp
    rw [e, ← hAn]
    exact s_fin ((s_nx (es_off c0)).trans ((s_nx (es_off c1)).trans ((s_nx s3).trans ((s_nx (es_off c2)).trans ((s_nx s4).trans ((s_nx (es_off c3)).trans (es_one (es_ret (ev_tup (evs_cons f1 (evs_cons (ev_var rfl) evs_nil)) (by simp)))))))))) rfl
theorem sto_iff {rs : List Sto} {l0 ls : List Lod} (as : AscS rs) (pm : ls.Perm l0) (t : Int) : (decide (((rs.filter fun s => decide (t ≤ s.t)).length : Int) = 0) && !decide (t ∈ ls.map (·.t))) = true ↔ stoOk rs l0 t := by
  have e1 : (((rs.filter fun s => decide (t ≤ s.t)).length : Int) = 0) ↔ ∀ k, lastT rs = some k → k < t := by
    have : (((rs.filter fun s => decide (t ≤ s.t)).length : Int) = 0) ↔ (rs.filter fun s => decide (t ≤ s.t)) = [] := by rw [← List.length_eq_zero_iff]; omega
    rw [this, List.filter_eq_nil_iff]
    constructor
    · intro h k hk
      unfold lastT at hk
      cases q : rs.getLast? with
      | none => rw [q] at hk; simp at hk
      | some x =>
        rw [q] at hk; simp at hk; subst hk
        have := h x (List.mem_of_getLast? q)
        simpa using this
    · intro h s hs
      rcases List.eq_nil_or_concat rs with q | ⟨xs, z, q⟩
      · subst q; simp at hs
      · rw [List.concat_eq_append] at q
        subst q
        have k1 := asc_last as s hs
        have k2 := h z.t (by simp [lastT])
        simp; omega
  have e2 : t ∈ ls.map (·.t) ↔ ¬ spotL l0 t = none := by
    rw [spotL_mem]
    constructor
    · intro h k
      obtain ⟨x, hx, e⟩ := List.mem_map.mp h
      exact k x (pm.mem_iff.mp hx) e
    · intro h
      obtain ⟨x, h⟩ := Classical.not_forall.mp h
      obtain ⟨hx, h⟩ := Classical.not_imp.mp h
      exact List.mem_map.mpr ⟨x, pm.mem_iff.mpr hx, by simpa using h⟩
  unfold stoOk
  rw [Bool.and_eq_true, decide_eq_true_eq, e1, Bool.not_eq_true', decide_eq_false_iff_not, e2, Classical.not_not]
theorem lies_iff {rs : List Sto} {l0 ls : List Lod} (as : AscS rs) (pm : ls.Perm l0) (t : Int) : (decide (((rs.filter fun s => decide (s.t = t)).length : Int) = 1) || decide (t ∈ ls.map (·.t))) = true ↔ ¬ (spotL l0 t = none ∧ spotS rs t = none) := by
  have e2 : t ∈ ls.map (·.t) ↔ ¬ spotL l0 t = none := by
    rw [spotL_mem]
    constructor
    · intro h k
      obtain ⟨x, hx, e⟩ := List.mem_map.mp h
      exact k x (pm.mem_iff.mp hx) e
    · intro h
      obtain ⟨x, h⟩ := Classical.not_forall.mp h
      obtain ⟨hx, h⟩ := Classical.not_imp.mp h
      exact List.mem_map.mpr ⟨x, pm.mem_iff.mpr hx, by simpa using h⟩
  have e1 : (((rs.filter fun s => decide (s.t = t)).length : Int) = 1) ↔ ¬ spotS rs t = none := by
    cases q : spotS rs t with
    | none => rw [mine_no q]; simp
    | some j =>
      obtain ⟨hj, ht⟩ := spotS_get q
      have := mine_eq as hj
      rw [ht] at this
      rw [this]; simp
  rw [Bool.or_eq_true, decide_eq_true_eq, decide_eq_true_eq, e1, e2]
  constructor
  · rintro (h | h) ⟨h1, h2⟩
    · exact h h2
    · exact h h1
  · intro h
    by_cases z : spotS rs t = none
    · exact .inr fun w => h ⟨w, z⟩
    · exact .inl z
theorem tks (ls : List Lod) : (ls.map fun x => Val.int x.t) = (ls.map (·.t)).map Val.int := by simp
theorem allowed_ok {rs : List Sto} {l0 ls : List Lod} {r l : Nat} {S : Store} (hr : S[r]? = some (.lst (rs.map Sto.val))) (hl : S[l]? = some (.lst (ls.map Lod.val))) (as : AscS rs) (pm : ls.Perm l0) (d : SD) (b1 : rs.length ≤ 400) (b2 : ls.length ≤ 400) (n : Nat) : ∃ T b, callN P (n+1) f_Lallowed [.ref r, .ref l, d.val] S = .ok (.bl b) (S ++ T) ∧ (b = true ↔ d.ok rs l0) := by
  have cm : evalL P (callN P n) (.lcomp [4] true [4] (.iof (.lof (.var 0))) l_Lallowed_0 l_Lallowed_1) [some (.ref r), some (.ref l), some d.val, none, none, none, none] S = .ok (.tmp ((rs.filter fun s => decide (s.t = d.t)).map Sto.val)) S :=
    ev_flt Sto.val Sto.val (fun s => decide (s.t = d.t)) (ev_var rfl) hr (by omega) (fun v => [some (.ref r), some (.ref l), some d.val, none, some v, none, none]) (fun v => by simp [Ev.wipe]) rfl (fun x => ev_eqI (first_at _ x.t _ rfl (ev_var rfl)) (dt d (ev_var rfl))) (fun x => ev_var rfl)
  have s1 : evalS P (callN P n) (.asg (.name 3) (.list (.lcomp [4] true [4] (.iof (.lof (.var 0))) l_Lallowed_0 l_Lallowed_1))) [some (.ref r), some (.ref l), some d.val, none, none, none, none] S = .nx [some (.ref r), some (.ref l), some d.val, some (.ref S.length), none, none, none] (S ++ [.lst ((rs.filter fun s => decide (s.t = d.t)).map Sto.val)]) := es_set (ev_list cm) rfl
  obtain ⟨A, hA⟩ : ∃ A, S ++ [Ob.lst ((rs.filter fun s => decide (s.t = d.t)).map Sto.val)] = A := ⟨_, rfl⟩
  have hAo : A[S.length]? = some (.lst ((rs.filter fun s => decide (s.t = d.t)).map Sto.val)) := by rw [← hA]; simp
  have hAr : A[r]? = some (.lst (rs.map Sto.val)) := by rw [← hA]; exact x_old hr
  have hAl : A[l]? = some (.lst (ls.map Lod.val)) := by rw [← hA]; exact x_old hl
  rw [hA] at s1
  have el := ev_lenl (cf := callN P n) (a := .var 3) (ρ := [some (.ref r), some (.ref l), some d.val, some (.ref S.length), none, none, none]) (S := A) (S1 := A) (ev_var rfl) hAo
  rw [List.length_map] at el
  have c1 := ev_eqI el (ev_int 1)
  have cl5 : evalL P (callN P n) (.lcomp [4] true [4] (.iof (.lof (.var 1))) .noPart l_Lallowed_5) [some (.ref r), some (.ref l), some d.val, some (.ref S.length), none, none, none] A = .ok (.tmp (ls.map fun x => Val.int x.t)) A :=
    ev_mp Lod.val (fun x => .int x.t) (ev_var rfl) hAl (by omega) (fun v => [some (.ref r), some (.ref l), some d.val, some (.ref S.length), some v, none, none]) (fun v => by simp [Ev.wipe]) (fun x => first_at _ x.t _ rfl (ev_var rfl))
  rw [tks] at cl5
  have c2 := ev_inL (cf := callN P n) (a := .ix (.var 2) (.int 1)) (ρ := [some (.ref r), some (.ref l), some d.val, some (.ref S.length), none, none, none]) (S := A) (dt d (ev_var rfl)) cl5 (inVs_int d.t _)
  have c3 := ev_or2 c1 c2
  have li := lies_iff as pm d.t
  obtain ⟨lb, hlb⟩ : ∃ lb, (decide (((rs.filter fun s => decide (s.t = d.t)).length : Int) = 1) || decide (d.t ∈ ls.map (·.t))) = lb := ⟨_, rfl⟩
  rw [hlb] at c3 li
  have s6 : evalS P (callN P n) (.asg (.name 6) (.or (.cons (.cmp .eq (.bl1 .len (.var 3)) (.int 1)) (.cons (.inL (.ix (.var 2) (.int 1)) (.lcomp [4] true [4] (.iof (.lof (.var 1))) .noPart l_Lallowed_5)) .nil)))) [some (.ref r), some (.ref l), some d.val, some (.ref S.length), none, none, none] A = .nx [some (.ref r), some (.ref l), some d.val, some (.ref S.length), none, none, some (.bl lb)] A := es_set c3 rfl
  rw [u_Lallowed]
  unfold b_Lallowed
  cases d with
  | store t =>
    have k0 : evalE P (callN P n) (.cmp .eq (.ix (.var 2) (.int 0)) (.str "store")) [some (.ref r), some (.ref l), some (SD.store t).val, some (.ref S.length), none, none, none] A = .ok (.bl true) A := by simp [-getElem?_neg, -getElem?_pos, List.getElem?_cons_zero, List.getElem?_cons_succ, evalS.eq_1, evalS.eq_2, evalS.eq_3, evalS.eq_4, evalS.eq_5, evalS.eq_6, evalS.eq_7, evalS.eq_8, evalS.eq_9, evalS.eq_10, evalS.eq_11, evalS.eq_12, evalS.eq_13, evalS.eq_14, evalS.eq_15, evalS.eq_16, evalE.eq_1, evalE.eq_2, evalE.eq_3, evalE.eq_4, evalE.eq_5, evalE.eq_6, evalE.eq_7, evalE.eq_8, evalE.eq_9, evalE.eq_10, evalE.eq_11, evalE.eq_12, evalE.eq_13, evalE.eq_14, evalE.eq_15, evalE.eq_16, evalE.eq_17, evalE.eq_18, evalE.eq_19, evalE.eq_20, evalE.eq_21, evalE.eq_22, evalE.eq_23, evalE.eq_24, evalE.eq_25, evalE.eq_26, evalE.eq_27, evalE.eq_28, evalE.eq_29, evalE.eq_30, evalE.eq_31, evalE.eq_32, evalE.eq_33, evalE.eq_34, evalE.eq_35, evalE.eq_36, evalEs.eq_1, evalEs.eq_2, evalL.eq_1, evalL.eq_2, evalL.eq_3, evalL.eq_4, evalL.eq_5, evalL.eq_6, evalL.eq_7, evalL.eq_8, evalL.eq_9, evalI.eq_1, evalI.eq_2, evalI.eq_3, evalI.eq_4, evalI.eq_5, evalI.eq_6, evalI.eq_7, evalI.eq_8, evalI.eq_9, evalI.eq_10, evalT, evalAnd.eq_1, evalOr.eq_1, evalH.eq_1, evalH.eq_2, handle, E.isNil, E.isNo, Val.isNon, truth, optI, x_lim, x_lim2, Ev.puts.eq_1, Ev.puts.eq_2, lvOf.eq_1, lvOf.eq_2, x_ofO_ite, x_bind_ite, x_toF_ite, x_fb_ite, x_fin_ite, j_ok, j_rt, j_nx, j_int, j_str, j_bl, j_cons, j_some, j_isNon, j_bl2, j_bl3, j_and, j_or, x_mod, x_fdv, x_pw, x_shr, x_mul, x_mulL, x_mulM, x_mulN, SD.val]
    have ca : evalL P (callN P n) (.lcomp [4] true [4] (.iof (.lof (.var 0))) l_Lallowed_2 l_Lallowed_3) [some (.ref r), some (.ref l), some (SD.store t).val, some (.ref S.length), none, none, none] A = .ok (.tmp ((rs.filter fun s => decide (t ≤ s.t)).map Sto.val)) A :=
      ev_flt Sto.val Sto.val (fun s => decide (t ≤ s.t)) (ev_var rfl) hAr (by omega) (fun v => [some (.ref r), some (.ref l), some (SD.store t).val, some (.ref S.length), some v, none, none]) (fun v => by simp [Ev.wipe]) rfl (fun x => ev_geI (first_at _ x.t _ rfl (ev_var rfl)) (dt (.store t) (ev_var rfl))) (fun x => ev_var rfl)
    have s2 : evalS P (callN P n) (.asg (.name 5) (.list (.lcomp [4] true [4] (.iof (.lof (.var 0))) l_Lallowed_2 l_Lallowed_3))) [some (.ref r), some (.ref l), some (SD.store t).val, some (.ref S.length), none, none, none] A = .nx [some (.ref r), some (.ref l), some (SD.store t).val, some (.ref S.length), none, some (.ref A.length), none] (A ++ [.lst ((rs.filter fun s => decide (t ≤ s.t)).map Sto.val)]) := es_set (ev_list ca) rfl
    obtain ⟨B, hB⟩ : ∃ B, A ++ [Ob.lst ((rs.filter fun s => decide (t ≤ s.t)).map Sto.val)] = B := ⟨_, rfl⟩
    have hBo : B[A.length]? = some (.lst ((rs.filter fun s => decide (t ≤ s.t)).map Sto.val)) := by rw [← hB]; simp
    have hBl : B[l]? = some (.lst (ls.map Lod.val)) := by rw [← hB]; exact x_old hAl
    rw [hB] at s2
    have el2 := ev_lenl (cf := callN P n) (a := .var 5) (ρ := [some (.ref r), some (.ref l), some (SD.store t).val, some (.ref S.length), none, some (.ref A.length), none]) (S := B) (S1 := B) (ev_var rfl) hBo
    rw [List.length_map] at el2
    have cl4 : evalL P (callN P n) (.lcomp [4] true [4] (.iof (.lof (.var 1))) .noPart l_Lallowed_4) [some (.ref r), some (.ref l), some (SD.store t).val, some (.ref S.length), none, some (.ref A.length), none] B = .ok (.tmp (ls.map fun x => Val.int x.t)) B :=
      ev_mp Lod.val (fun x => .int x.t) (ev_var rfl) hBl (by omega) (fun v => [some (.ref r), some (.ref l), some (SD.store t).val, some (.ref S.length), some v, some (.ref A.length), none]) (fun v => by simp [Ev.wipe]) (fun x => first_at _ x.t _ rfl (ev_var rfl))
    rw [tks] at cl4
    have c5 := ev_and2 (ev_eqI el2 (ev_int 0)) (fun _ => ev_notinL (a := .ix (.var 2) (.int 1)) (dt (.store t) (ev_var rfl)) cl4 (inVs_int t _))
    refine ⟨[.lst ((rs.filter fun s => decide (s.t = (SD.store t).t)).map Sto.val), .lst ((rs.filter fun s => decide (t ≤ s.t)).map Sto.val)], _, ?_, sto_iff as pm t⟩
    have e : S ++ [.lst ((rs.filter fun s => decide (s.t = (SD.store t).t)).map Sto.val), .lst ((rs.filter fun s => decide (t ≤ s.t)).map Sto.val)] = B := by rw [← hB, ← hA]; simp
    rw [e]
    exact s_fin ((s_nx s1).trans (s_rt (es_hit k0 ((s_nx s2).trans (es_one (es_ret c5)))))) rfl
  | place t p =>
    have k0 : evalE P (callN P n) (.cmp .eq (.ix (.var 2) (.int 0)) (.str "store")) [some (.ref r), some (.ref l), some (SD.place t p).val, some (.ref S.length), none, none, none] A = .ok (.bl false) A := by simp [-getElem?_neg, -getElem?_pos, List.getElem?_cons_zero, List.getElem?_cons_succ, evalS.eq_1, evalS.eq_2, evalS.eq_3, evalS.eq_4, evalS.eq_5, evalS.eq_6, evalS.eq_7, evalS.eq_8, evalS.eq_9, evalS.eq_10, evalS.eq_11, evalS.eq_12, evalS.eq_13, evalS.eq_14, evalS.eq_15, evalS.eq_16, evalE.eq_1, evalE.eq_2, evalE.eq_3, evalE.eq_4, evalE.eq_5, evalE.eq_6, evalE.eq_7, evalE.eq_8, evalE.eq_9, evalE.eq_10, evalE.eq_11, evalE.eq_12, evalE.eq_13, evalE.eq_14, evalE.eq_15, evalE.eq_16, evalE.eq_17, evalE.eq_18, evalE.eq_19, evalE.eq_20, evalE.eq_21, evalE.eq_22, evalE.eq_23, evalE.eq_24, evalE.eq_25, evalE.eq_26, evalE.eq_27, evalE.eq_28, evalE.eq_29, evalE.eq_30, evalE.eq_31, evalE.eq_32, evalE.eq_33, evalE.eq_34, evalE.eq_35, evalE.eq_36, evalEs.eq_1, evalEs.eq_2, evalL.eq_1, evalL.eq_2, evalL.eq_3, evalL.eq_4, evalL.eq_5, evalL.eq_6, evalL.eq_7, evalL.eq_8, evalL.eq_9, evalI.eq_1, evalI.eq_2, evalI.eq_3, evalI.eq_4, evalI.eq_5, evalI.eq_6, evalI.eq_7, evalI.eq_8, evalI.eq_9, evalI.eq_10, evalT, evalAnd.eq_1, evalOr.eq_1, evalH.eq_1, evalH.eq_2, handle, E.isNil, E.isNo, Val.isNon, truth, optI, x_lim, x_lim2, Ev.puts.eq_1, Ev.puts.eq_2, lvOf.eq_1, lvOf.eq_2, x_ofO_ite, x_bind_ite, x_toF_ite, x_fb_ite, x_fin_ite, j_ok, j_rt, j_nx, j_int, j_str, j_bl, j_cons, j_some, j_isNon, j_bl2, j_bl3, j_and, j_or, x_mod, x_fdv, x_pw, x_shr, x_mul, x_mulL, x_mulM, x_mulN, SD.val]
    have k1 : evalE P (callN P n) (.cmp .eq (.ix (.var 2) (.int 0)) (.str "place")) [some (.ref r), some (.ref l), some (SD.place t p).val, some (.ref S.length), none, none, none] A = .ok (.bl true) A := by simp [-getElem?_neg, -getElem?_pos, List.getElem?_cons_zero, List.getElem?_cons_succ, evalS.eq_1, evalS.eq_2, evalS.eq_3, evalS.eq_4, evalS.eq_5, evalS.eq_6, evalS.eq_7, evalS.eq_8, evalS.eq_9, evalS.eq_10, evalS.eq_11, evalS.eq_12, evalS.eq_13, evalS.eq_14, evalS.eq_15, evalS.eq_16, evalE.eq_1, evalE.eq_2, evalE.eq_3, evalE.eq_4, evalE.eq_5, evalE.eq_6, evalE.eq_7, evalE.eq_8, evalE.eq_9, evalE.eq_10, evalE.eq_11, evalE.eq_12, evalE.eq_13, evalE.eq_14, evalE.eq_15, evalE.eq_16, evalE.eq_17, evalE.eq_18, evalE.eq_19, evalE.eq_20, evalE.eq_21, evalE.eq_22, evalE.eq_23, evalE.eq_24, evalE.eq_25, evalE.eq_26, evalE.eq_27, evalE.eq_28, evalE.eq_29, evalE.eq_30, evalE.eq_31, evalE.eq_32, evalE.eq_33, evalE.eq_34, evalE.eq_35, evalE.eq_36, evalEs.eq_1, evalEs.eq_2, evalL.eq_1, evalL.eq_2, evalL.eq_3, evalL.eq_4, evalL.eq_5, evalL.eq_6, evalL.eq_7, evalL.eq_8, evalL.eq_9, evalI.eq_1, evalI.eq_2, evalI.eq_3, evalI.eq_4, evalI.eq_5, evalI.eq_6, evalI.eq_7, evalI.eq_8, evalI.eq_9, evalI.eq_10, evalT, evalAnd.eq_1, evalOr.eq_1, evalH.eq_1, evalH.eq_2, handle, E.isNil, E.isNo, Val.isNon, truth, optI, x_lim, x_lim2, Ev.puts.eq_1, Ev.puts.eq_2, lvOf.eq_1, lvOf.eq_2, x_ofO_ite, x_bind_ite, x_toF_ite, x_fb_ite, x_fin_ite, j_ok, j_rt, j_nx, j_int, j_str, j_bl, j_cons, j_some, j_isNon, j_bl2, j_bl3, j_and, j_or, x_mod, x_fdv, x_pw, x_shr, x_mul, x_mulL, x_mulM, x_mulN, SD.val]
    have kk : ∃ b, evalE P (callN P n) (.and (.cons (.cmp .eq (.bl1 .len (.var 3)) (.int 1)) (.cons (.isN (.ix (.ix (.var 3) (.int 0)) (.int 1))) .nil))) [some (.ref r), some (.ref l), some (SD.place t p).val, some (.ref S.length), none, none, none] A = .ok (.bl b) A ∧ (b = true ↔ SD.ok rs l0 (.place t p)) := by
      cases q : spotS rs t with
      | none =>
        have e : (rs.filter fun s : Sto => decide (s.t = (SD.place t p).t)) = [] := mine_no q
        have c1 := c1
        rw [e] at c1
        refine ⟨false, ev_and_f c1, by simp [SD.ok, q]⟩
      | some j =>
        obtain ⟨hj, ht⟩ := spotS_get q
        have e := mine_eq as hj
        rw [ht] at e
        have e : (rs.filter fun s : Sto => decide (s.t = (SD.place t p).t)) = [rs[j]] := e
        have c1 := c1
        have hAo := hAo
        rw [e] at c1 hAo
        refine ⟨_, ev_and2 c1 fun _ => ev_isN (ev_ixn (j := 1) (xs := [.int rs[j].t, oi rs[j].p, oi rs[j].w]) (ev_ixl (i := 0) (ev_var rfl) (ev_int 0) hAo (by rfl)) rfl), ?_⟩
        simp only [SD.ok, q]
        cases z : rs[j].p <;> simp [oi, z, hj, Val.isNon]
    obtain ⟨b, c5, hb⟩ := kk
    refine ⟨[.lst ((rs.filter fun s => decide (s.t = (SD.place t p).t)).map Sto.val)], b, ?_, hb⟩
    rw [hA]
    exact s_fin ((s_nx s1).trans ((s_nx (es_off k0)).trans (s_rt (es_hit k1 (es_one (es_ret c5)))))) rfl
  | word t p =>
    have k0 : evalE P (callN P n) (.cmp .eq (.ix (.var 2) (.int 0)) (.str "store")) [some (.ref r), some (.ref l), some (SD.word t p).val, some (.ref S.length), none, none, none] A = .ok (.bl false) A := by simp [-getElem?_neg, -getElem?_pos, List.getElem?_cons_zero, List.getElem?_cons_succ, evalS.eq_1, evalS.eq_2, evalS.eq_3, evalS.eq_4, evalS.eq_5, evalS.eq_6, evalS.eq_7, evalS.eq_8, evalS.eq_9, evalS.eq_10, evalS.eq_11, evalS.eq_12, evalS.eq_13, evalS.eq_14, evalS.eq_15, evalS.eq_16, evalE.eq_1, evalE.eq_2, evalE.eq_3, evalE.eq_4, evalE.eq_5, evalE.eq_6, evalE.eq_7, evalE.eq_8, evalE.eq_9, evalE.eq_10, evalE.eq_11, evalE.eq_12, evalE.eq_13, evalE.eq_14, evalE.eq_15, evalE.eq_16, evalE.eq_17, evalE.eq_18, evalE.eq_19, evalE.eq_20, evalE.eq_21, evalE.eq_22, evalE.eq_23, evalE.eq_24, evalE.eq_25, evalE.eq_26, evalE.eq_27, evalE.eq_28, evalE.eq_29, evalE.eq_30, evalE.eq_31, evalE.eq_32, evalE.eq_33, evalE.eq_34, evalE.eq_35, evalE.eq_36, evalEs.eq_1, evalEs.eq_2, evalL.eq_1, evalL.eq_2, evalL.eq_3, evalL.eq_4, evalL.eq_5, evalL.eq_6, evalL.eq_7, evalL.eq_8, evalL.eq_9, evalI.eq_1, evalI.eq_2, evalI.eq_3, evalI.eq_4, evalI.eq_5, evalI.eq_6, evalI.eq_7, evalI.eq_8, evalI.eq_9, evalI.eq_10, evalT, evalAnd.eq_1, evalOr.eq_1, evalH.eq_1, evalH.eq_2, handle, E.isNil, E.isNo, Val.isNon, truth, optI, x_lim, x_lim2, Ev.puts.eq_1, Ev.puts.eq_2, lvOf.eq_1, lvOf.eq_2, x_ofO_ite, x_bind_ite, x_toF_ite, x_fb_ite, x_fin_ite, j_ok, j_rt, j_nx, j_int, j_str, j_bl, j_cons, j_some, j_isNon, j_bl2, j_bl3, j_and, j_or, x_mod, x_fdv, x_pw, x_shr, x_mul, x_mulL, x_mulM, x_mulN, SD.val]
    have k1 : evalE P (callN P n) (.cmp .eq (.ix (.var 2) (.int 0)) (.str "place")) [some (.ref r), some (.ref l), some (SD.word t p).val, some (.ref S.length), none, none, none] A = .ok (.bl false) A := by simp [-getElem?_neg, -getElem?_pos, List.getElem?_cons_zero, List.getElem?_cons_succ, evalS.eq_1, evalS.eq_2, evalS.eq_3, evalS.eq_4, evalS.eq_5, evalS.eq_6, evalS.eq_7, evalS.eq_8, evalS.eq_9, evalS.eq_10, evalS.eq_11, evalS.eq_12, evalS.eq_13, evalS.eq_14, evalS.eq_15, evalS.eq_16, evalE.eq_1, evalE.eq_2, evalE.eq_3, evalE.eq_4, evalE.eq_5, evalE.eq_6, evalE.eq_7, evalE.eq_8, evalE.eq_9, evalE.eq_10, evalE.eq_11, evalE.eq_12, evalE.eq_13, evalE.eq_14, evalE.eq_15, evalE.eq_16, evalE.eq_17, evalE.eq_18, evalE.eq_19, evalE.eq_20, evalE.eq_21, evalE.eq_22, evalE.eq_23, evalE.eq_24, evalE.eq_25, evalE.eq_26, evalE.eq_27, evalE.eq_28, evalE.eq_29, evalE.eq_30, evalE.eq_31, evalE.eq_32, evalE.eq_33, evalE.eq_34, evalE.eq_35, evalE.eq_36, evalEs.eq_1, evalEs.eq_2, evalL.eq_1, evalL.eq_2, evalL.eq_3, evalL.eq_4, evalL.eq_5, evalL.eq_6, evalL.eq_7, evalL.eq_8, evalL.eq_9, evalI.eq_1, evalI.eq_2, evalI.eq_3, evalI.eq_4, evalI.eq_5, evalI.eq_6, evalI.eq_7, evalI.eq_8, evalI.eq_9, evalI.eq_10, evalT, evalAnd.eq_1, evalOr.eq_1, evalH.eq_1, evalH.eq_2, handle, E.isNil, E.isNo, Val.isNon, truth, optI, x_lim, x_lim2, Ev.puts.eq_1, Ev.puts.eq_2, lvOf.eq_1, lvOf.eq_2, x_ofO_ite, x_bind_ite, x_toF_ite, x_fb_ite, x_fin_ite, j_ok, j_rt, j_nx, j_int, j_str, j_bl, j_cons, j_some, j_isNon, j_bl2, j_bl3, j_and, j_or, x_mod, x_fdv, x_pw, x_shr, x_mul, x_mulL, x_mulM, x_mulN, SD.val]
    have k2 : evalE P (callN P n) (.cmp .eq (.ix (.var 2) (.int 0)) (.str "word")) [some (.ref r), some (.ref l), some (SD.word t p).val, some (.ref S.length), none, none, none] A = .ok (.bl true) A := by simp [-getElem?_neg, -getElem?_pos, List.getElem?_cons_zero, List.getElem?_cons_succ, evalS.eq_1, evalS.eq_2, evalS.eq_3, evalS.eq_4, evalS.eq_5, evalS.eq_6, evalS.eq_7, evalS.eq_8, evalS.eq_9, evalS.eq_10, evalS.eq_11, evalS.eq_12, evalS.eq_13, evalS.eq_14, evalS.eq_15, evalS.eq_16, evalE.eq_1, evalE.eq_2, evalE.eq_3, evalE.eq_4, evalE.eq_5, evalE.eq_6, evalE.eq_7, evalE.eq_8, evalE.eq_9, evalE.eq_10, evalE.eq_11, evalE.eq_12, evalE.eq_13, evalE.eq_14, evalE.eq_15, evalE.eq_16, evalE.eq_17, evalE.eq_18, evalE.eq_19, evalE.eq_20, evalE.eq_21, evalE.eq_22, evalE.eq_23, evalE.eq_24, evalE.eq_25, evalE.eq_26, evalE.eq_27, evalE.eq_28, evalE.eq_29, evalE.eq_30, evalE.eq_31, evalE.eq_32, evalE.eq_33, evalE.eq_34, evalE.eq_35, evalE.eq_36, evalEs.eq_1, evalEs.eq_2, evalL.eq_1, evalL.eq_2, evalL.eq_3, evalL.eq_4, evalL.eq_5, evalL.eq_6, evalL.eq_7, evalL.eq_8, evalL.eq_9, evalI.eq_1, evalI.eq_2, evalI.eq_3, evalI.eq_4, evalI.eq_5, evalI.eq_6, evalI.eq_7, evalI.eq_8, evalI.eq_9, evalI.eq_10, evalT, evalAnd.eq_1, evalOr.eq_1, evalH.eq_1, evalH.eq_2, handle, E.isNil, E.isNo, Val.isNon, truth, optI, x_lim, x_lim2, Ev.puts.eq_1, Ev.puts.eq_2, lvOf.eq_1, lvOf.eq_2, x_ofO_ite, x_bind_ite, x_toF_ite, x_fb_ite, x_fin_ite, j_ok, j_rt, j_nx, j_int, j_str, j_bl, j_cons, j_some, j_isNon, j_bl2, j_bl3, j_and, j_or, x_mod, x_fdv, x_pw, x_shr, x_mul, x_mulL, x_mulM, x_mulN, SD.val]
    have kk : ∃ b, evalE P (callN P n) (.and (.cons (.cmp .eq (.bl1 .len (.var 3)) (.int 1)) (.cons (.isN (.ix (.ix (.var 3) (.int 0)) (.int 2))) .nil))) [some (.ref r), some (.ref l), some (SD.word t p).val, some (.ref S.length), none, none, none] A = .ok (.bl b) A ∧ (b = true ↔ SD.ok rs l0 (.word t p)) := by
      cases q : spotS rs t with
      | none =>
        have e : (rs.filter fun s : Sto => decide (s.t = (SD.word t p).t)) = [] := mine_no q
        have c1 := c1
        rw [e] at c1
        refine ⟨false, ev_and_f c1, by simp [SD.ok, q]⟩
      | some j =>
        obtain ⟨hj, ht⟩ := spotS_get q
        have e := mine_eq as hj
        rw [ht] at e
        have e : (rs.filter fun s : Sto => decide (s.t = (SD.word t p).t)) = [rs[j]] := e
        have c1 := c1
        have hAo := hAo
        rw [e] at c1 hAo
        refine ⟨_, ev_and2 c1 fun _ => ev_isN (ev_ixn (j := 2) (xs := [.int rs[j].t, oi rs[j].p, oi rs[j].w]) (ev_ixl (i := 0) (ev_var rfl) (ev_int 0) hAo (by rfl)) rfl), ?_⟩
        simp only [SD.ok, q]
        cases z : rs[j].w <;> simp [oi, z, hj, Val.isNon]
    obtain ⟨b, c5, hb⟩ := kk
    refine ⟨[.lst ((rs.filter fun s => decide (s.t = (SD.word t p).t)).map Sto.val)], b, ?_, hb⟩
    rw [hA]
    exact s_fin ((s_nx s1).trans ((s_nx (es_off k0)).trans ((s_nx (es_off k1)).trans (s_rt (es_hit k2 (es_one (es_ret c5))))))) rfl
  | load t p g =>
    have kk : ∀ (s : Str) (hs : decide (("load" : Str) = s) = false) X ρ, ρ[2]? = some (some (SD.load t p g).val) → evalE P (callN P n) (.cmp .eq (.ix (.var 2) (.int 0)) (.str s)) ρ X = .ok (.bl false) X := fun s hs X ρ hρ => by
      have := ev_cmp (c := .eq) (ev_ixn (cf := callN P n) (j := 0) (xs := [.str "load", .int t, .int p, oi g]) (S := X) (ev_var hρ) rfl) (ev_str s)
      refine this.trans ?_
      have hs : ¬ (("load" : Str) = s) := by simpa using hs
      simp [-getElem?_neg, -getElem?_pos, List.getElem?_cons_zero, List.getElem?_cons_succ, evalS.eq_1, evalS.eq_2, evalS.eq_3, evalS.eq_4, evalS.eq_5, evalS.eq_6, evalS.eq_7, evalS.eq_8, evalS.eq_9, evalS.eq_10, evalS.eq_11, evalS.eq_12, evalS.eq_13, evalS.eq_14, evalS.eq_15, evalS.eq_16, evalE.eq_1, evalE.eq_2, evalE.eq_3, evalE.eq_4, evalE.eq_5, evalE.eq_6, evalE.eq_7, evalE.eq_8, evalE.eq_9, evalE.eq_10, evalE.eq_11, evalE.eq_12, evalE.eq_13, evalE.eq_14, evalE.eq_15, evalE.eq_16, evalE.eq_17, evalE.eq_18, evalE.eq_19, evalE.eq_20, evalE.eq_21, evalE.eq_22, evalE.eq_23, evalE.eq_24, evalE.eq_25, evalE.eq_26, evalE.eq_27, evalE.eq_28, evalE.eq_29, evalE.eq_30, evalE.eq_31, evalE.eq_32, evalE.eq_33, evalE.eq_34, evalE.eq_35, evalE.eq_36, evalEs.eq_1, evalEs.eq_2, evalL.eq_1, evalL.eq_2, evalL.eq_3, evalL.eq_4, evalL.eq_5, evalL.eq_6, evalL.eq_7, evalL.eq_8, evalL.eq_9, evalI.eq_1, evalI.eq_2, evalI.eq_3, evalI.eq_4, evalI.eq_5, evalI.eq_6, evalI.eq_7, evalI.eq_8, evalI.eq_9, evalI.eq_10, evalT, evalAnd.eq_1, evalOr.eq_1, evalH.eq_1, evalH.eq_2, handle, E.isNil, E.isNo, Val.isNon, truth, optI, x_lim, x_lim2, Ev.puts.eq_1, Ev.puts.eq_2, lvOf.eq_1, lvOf.eq_2, x_ofO_ite, x_bind_ite, x_toF_ite, x_fb_ite, x_fin_ite, j_ok, j_rt, j_nx, j_int, j_str, j_bl, j_cons, j_some, j_isNon, j_bl2, j_bl3, j_and, j_or, x_mod, x_fdv, x_pw, x_shr, x_mul, x_mulL, x_mulM, x_mulN, hs]
    refine ⟨[.lst ((rs.filter fun s => decide (s.t = (SD.load t p g).t)).map Sto.val)], !lb, ?_, ?_⟩
    · rw [hA]
      have c9 := (ev_cmp (c := .eq) (ev_var (P := P) (cf := callN P n) (i := 6) (ρ := [some (.ref r), some (.ref l), some (SD.load t p g).val, some (.ref S.length), none, none, some (.bl lb)]) (S := A) rfl) (kk "leave" (by decide) A _ rfl))
      refine s_fin ((s_nx s1).trans ((s_nx (es_off (kk "store" (by decide) A _ rfl))).trans ((s_nx (es_off (kk "place" (by decide) A _ rfl))).trans ((s_nx (es_off (kk "word" (by decide) A _ rfl))).trans ((s_nx s6).trans (es_one (es_ret (c9.trans ?_)))))))) rfl
      cases lb <;> rfl
    · have li : lb = true ↔ ¬ (spotL l0 t = none ∧ spotS rs t = none) := li
      cases lb
      · simp only [Bool.false_eq_true, false_iff, Classical.not_not] at li
        simp [SD.ok, li.1, li.2]
      · simp only [true_iff] at li
        simp only [SD.ok, Bool.not_true, Bool.false_eq_true, false_iff]
        exact fun w => li ⟨w.2, w.1⟩
  | leave t =>
    have k0 : evalE P (callN P n) (.cmp .eq (.ix (.var 2) (.int 0)) (.str "store")) [some (.ref r), some (.ref l), some (SD.leave t).val, some (.ref S.length), none, none, none] A = .ok (.bl false) A := by simp [-getElem?_neg, -getElem?_pos, List.getElem?_cons_zero, List.getElem?_cons_succ, evalS.eq_1, evalS.eq_2, evalS.eq_3, evalS.eq_4, evalS.eq_5, evalS.eq_6, evalS.eq_7, evalS.eq_8, evalS.eq_9, evalS.eq_10, evalS.eq_11, evalS.eq_12, evalS.eq_13, evalS.eq_14, evalS.eq_15, evalS.eq_16, evalE.eq_1, evalE.eq_2, evalE.eq_3, evalE.eq_4, evalE.eq_5, evalE.eq_6, evalE.eq_7, evalE.eq_8, evalE.eq_9, evalE.eq_10, evalE.eq_11, evalE.eq_12, evalE.eq_13, evalE.eq_14, evalE.eq_15, evalE.eq_16, evalE.eq_17, evalE.eq_18, evalE.eq_19, evalE.eq_20, evalE.eq_21, evalE.eq_22, evalE.eq_23, evalE.eq_24, evalE.eq_25, evalE.eq_26, evalE.eq_27, evalE.eq_28, evalE.eq_29, evalE.eq_30, evalE.eq_31, evalE.eq_32, evalE.eq_33, evalE.eq_34, evalE.eq_35, evalE.eq_36, evalEs.eq_1, evalEs.eq_2, evalL.eq_1, evalL.eq_2, evalL.eq_3, evalL.eq_4, evalL.eq_5, evalL.eq_6, evalL.eq_7, evalL.eq_8, evalL.eq_9, evalI.eq_1, evalI.eq_2, evalI.eq_3, evalI.eq_4, evalI.eq_5, evalI.eq_6, evalI.eq_7, evalI.eq_8, evalI.eq_9, evalI.eq_10, evalT, evalAnd.eq_1, evalOr.eq_1, evalH.eq_1, evalH.eq_2, handle, E.isNil, E.isNo, Val.isNon, truth, optI, x_lim, x_lim2, Ev.puts.eq_1, Ev.puts.eq_2, lvOf.eq_1, lvOf.eq_2, x_ofO_ite, x_bind_ite, x_toF_ite, x_fb_ite, x_fin_ite, j_ok, j_rt, j_nx, j_int, j_str, j_bl, j_cons, j_some, j_isNon, j_bl2, j_bl3, j_and, j_or, x_mod, x_fdv, x_pw, x_shr, x_mul, x_mulL, x_mulM, x_mulN, SD.val]
    have k1 : evalE P (callN P n) (.cmp .eq (.ix (.var 2) (.int 0)) (.str "place")) [some (.ref r), some (.ref l), some (SD.leave t).val, some (.ref S.length), none, none, none] A = .ok (.bl false) A := by simp [-getElem?_neg, -getElem?_pos, List.getElem?_cons_zero, List.getElem?_cons_succ, evalS.eq_1, evalS.eq_2, evalS.eq_3, evalS.eq_4, evalS.eq_5, evalS.eq_6, evalS.eq_7, evalS.eq_8, evalS.eq_9, evalS.eq_10, evalS.eq_11, evalS.eq_12, evalS.eq_13, evalS.eq_14, evalS.eq_15, evalS.eq_16, evalE.eq_1, evalE.eq_2, evalE.eq_3, evalE.eq_4, evalE.eq_5, evalE.eq_6, evalE.eq_7, evalE.eq_8, evalE.eq_9, evalE.eq_10, evalE.eq_11, evalE.eq_12, evalE.eq_13, evalE.eq_14, evalE.eq_15, evalE.eq_16, evalE.eq_17, evalE.eq_18, evalE.eq_19, evalE.eq_20, evalE.eq_21, evalE.eq_22, evalE.eq_23, evalE.eq_24, evalE.eq_25, evalE.eq_26, evalE.eq_27, evalE.eq_28, evalE.eq_29, evalE.eq_30, evalE.eq_31, evalE.eq_32, evalE.eq_33, evalE.eq_34, evalE.eq_35, evalE.eq_36, evalEs.eq_1, evalEs.eq_2, evalL.eq_1, evalL.eq_2, evalL.eq_3, evalL.eq_4, evalL.eq_5, evalL.eq_6, evalL.eq_7, evalL.eq_8, evalL.eq_9, evalI.eq_1, evalI.eq_2, evalI.eq_3, evalI.eq_4, evalI.eq_5, evalI.eq_6, evalI.eq_7, evalI.eq_8, evalI.eq_9, evalI.eq_10, evalT, evalAnd.eq_1, evalOr.eq_1, evalH.eq_1, evalH.eq_2, handle, E.isNil, E.isNo, Val.isNon, truth, optI, x_lim, x_lim2, Ev.puts.eq_1, Ev.puts.eq_2, lvOf.eq_1, lvOf.eq_2, x_ofO_ite, x_bind_ite, x_toF_ite, x_fb_ite, x_fin_ite, j_ok, j_rt, j_nx, j_int, j_str, j_bl, j_cons, j_some, j_isNon, j_bl2, j_bl3, j_and, j_or, x_mod, x_fdv, x_pw, x_shr, x_mul, x_mulL, x_mulM, x_mulN, SD.val]
    have k2 : evalE P (callN P n) (.cmp .eq (.ix (.var 2) (.int 0)) (.str "word")) [some (.ref r), some (.ref l), some (SD.leave t).val, some (.ref S.length), none, none, none] A = .ok (.bl false) A := by simp [-getElem?_neg, -getElem?_pos, List.getElem?_cons_zero, List.getElem?_cons_succ, evalS.eq_1, evalS.eq_2, evalS.eq_3, evalS.eq_4, evalS.eq_5, evalS.eq_6, evalS.eq_7, evalS.eq_8, evalS.eq_9, evalS.eq_10, evalS.eq_11, evalS.eq_12, evalS.eq_13, evalS.eq_14, evalS.eq_15, evalS.eq_16, evalE.eq_1, evalE.eq_2, evalE.eq_3, evalE.eq_4, evalE.eq_5, evalE.eq_6, evalE.eq_7, evalE.eq_8, evalE.eq_9, evalE.eq_10, evalE.eq_11, evalE.eq_12, evalE.eq_13, evalE.eq_14, evalE.eq_15, evalE.eq_16, evalE.eq_17, evalE.eq_18, evalE.eq_19, evalE.eq_20, evalE.eq_21, evalE.eq_22, evalE.eq_23, evalE.eq_24, evalE.eq_25, evalE.eq_26, evalE.eq_27, evalE.eq_28, evalE.eq_29, evalE.eq_30, evalE.eq_31, evalE.eq_32, evalE.eq_33, evalE.eq_34, evalE.eq_35, evalE.eq_36, evalEs.eq_1, evalEs.eq_2, evalL.eq_1, evalL.eq_2, evalL.eq_3, evalL.eq_4, evalL.eq_5, evalL.eq_6, evalL.eq_7, evalL.eq_8, evalL.eq_9, evalI.eq_1, evalI.eq_2, evalI.eq_3, evalI.eq_4, evalI.eq_5, evalI.eq_6, evalI.eq_7, evalI.eq_8, evalI.eq_9, evalI.eq_10, evalT, evalAnd.eq_1, evalOr.eq_1, evalH.eq_1, evalH.eq_2, handle, E.isNil, E.isNo, Val.isNon, truth, optI, x_lim, x_lim2, Ev.puts.eq_1, Ev.puts.eq_2, lvOf.eq_1, lvOf.eq_2, x_ofO_ite, x_bind_ite, x_toF_ite, x_fb_ite, x_fin_ite, j_ok, j_rt, j_nx, j_int, j_str, j_bl, j_cons, j_some, j_isNon, j_bl2, j_bl3, j_and, j_or, x_mod, x_fdv, x_pw, x_shr, x_mul, x_mulL, x_mulM, x_mulN, SD.val]
    have k3 : evalE P (callN P n) (.cmp .eq (.ix (.var 2) (.int 0)) (.str "leave")) [some (.ref r), some (.ref l), some (SD.leave t).val, some (.ref S.length), none, none, some (.bl lb)] A = .ok (.bl true) A := by simp [-getElem?_neg, -getElem?_pos, List.getElem?_cons_zero, List.getElem?_cons_succ, evalS.eq_1, evalS.eq_2, evalS.eq_3, evalS.eq_4, evalS.eq_5, evalS.eq_6, evalS.eq_7, evalS.eq_8, evalS.eq_9, evalS.eq_10, evalS.eq_11, evalS.eq_12, evalS.eq_13, evalS.eq_14, evalS.eq_15, evalS.eq_16, evalE.eq_1, evalE.eq_2, evalE.eq_3, evalE.eq_4, evalE.eq_5, evalE.eq_6, evalE.eq_7, evalE.eq_8, evalE.eq_9, evalE.eq_10, evalE.eq_11, evalE.eq_12, evalE.eq_13, evalE.eq_14, evalE.eq_15, evalE.eq_16, evalE.eq_17, evalE.eq_18, evalE.eq_19, evalE.eq_20, evalE.eq_21, evalE.eq_22, evalE.eq_23, evalE.eq_24, evalE.eq_25, evalE.eq_26, evalE.eq_27, evalE.eq_28, evalE.eq_29, evalE.eq_30, evalE.eq_31, evalE.eq_32, evalE.eq_33, evalE.eq_34, evalE.eq_35, evalE.eq_36, evalEs.eq_1, evalEs.eq_2, evalL.eq_1, evalL.eq_2, evalL.eq_3, evalL.eq_4, evalL.eq_5, evalL.eq_6, evalL.eq_7, evalL.eq_8, evalL.eq_9, evalI.eq_1, evalI.eq_2, evalI.eq_3, evalI.eq_4, evalI.eq_5, evalI.eq_6, evalI.eq_7, evalI.eq_8, evalI.eq_9, evalI.eq_10, evalT, evalAnd.eq_1, evalOr.eq_1, evalH.eq_1, evalH.eq_2, handle, E.isNil, E.isNo, Val.isNon, truth, optI, x_lim, x_lim2, Ev.puts.eq_1, Ev.puts.eq_2, lvOf.eq_1, lvOf.eq_2, x_ofO_ite, x_bind_ite, x_toF_ite, x_fb_ite, x_fin_ite, j_ok, j_rt, j_nx, j_int, j_str, j_bl, j_cons, j_some, j_isNon, j_bl2, j_bl3, j_and, j_or, x_mod, x_fdv, x_pw, x_shr, x_mul, x_mulL, x_mulM, x_mulN, SD.val]
    refine ⟨[.lst ((rs.filter fun s => decide (s.t = (SD.leave t).t)).map Sto.val)], lb, ?_, li⟩
    rw [hA]
    refine s_fin ((s_nx s1).trans ((s_nx (es_off k0)).trans ((s_nx (es_off k1)).trans ((s_nx (es_off k2)).trans ((s_nx s6).trans (es_one (es_ret ((ev_cmp (ev_var rfl) k3).trans ?_)))))))) rfl
    cases lb <;> rfl
theorem alike_oi (a : Option Int) (n : Nat) (S : Store) : callN P (n+1) f_Lalike [oi a, oi a] S = .ok (.bl true) S := alike_flat 0 (oi a) (by cases a <;> rfl) n S
theorem col_of {col : Nat → Nat} {S : Store} {r r' : Nat} {o : Ob} (h : S[r]? = some o) (cr : col r = 0) (k : r' = r ∨ S.length ≤ r') : paint col S.length 0 r' = 0 := by
  rcases k with k | k
  · subst k; rw [paint_old (x_low h)]; exact cr
  · exact paint_new k
theorem done_ok {c col o rs l0 ls r l S} (h : Lw c col o rs l0 ls r l S) (hc : c ≠ 0) (d : SD) (hd : d.ok rs l0) (m : Nat) (b1 : rs.length ≤ m) (b2 : ls.length ≤ m) (hm : m ≤ 300) (n : Nat) : Done2 c col o m S (callN P (n+4) f_Ldone [.ref o, .ref r, .ref l, d.val] S) := by
  have hl0 := h.pm.length_eq
  obtain ⟨S1, col1, e1, h1, s1⟩ := do_ok h.sh d hd (by omega) (by omega) n
  have hr1 := s1.at_ h.hr h.cr (by simpa using hc.symm)
  have hl1 := s1.at_ h.hl h.cl (by simpa using hc.symm)
  have e2 := ans_ok h.al h.pm l S1 hl1.1 d (n+2)
  have e3 := alike_oi (d.ans l0) (n+2) S1
  obtain ⟨T, r', l', e4, g1, g2, g3, g4⟩ := (behind_ok hr1.1 hl1.1 h.as d hd (by omega) (by omega) (n+1)).ex
  refine ⟨S1 ++ T, paint col1 S1.length 0, _, _, _, r', l', ?_, ⟨h1.frame (Stp.app (C := fun _ => False) T 0) (by simp), g1, col_of hr1.1 hr1.2 g3, g2, col_of hl1.1 hl1.2 g4, st_asc h.as d hd, la_asc h.al h.pm d hd, la_perm h.pm d⟩, s1.trans (Stp.app T 0), Nat.le_trans (st_len d) (by omega), Nat.le_trans (la_len d) (by omega)⟩
  rw [u_Ldone]
  unfold b_Ldone
  have c1 : evalE P (callN P (n+3)) (.not (.call f_Lalike (.cons (.call f_Ldo (.cons (.var 0) (.cons (.var 3) .nil)) 0) (.cons (.call f_Lanswer (.cons (.var 2) (.cons (.var 3) .nil)) 0) .nil)) 0)) [some (.ref o), some (.ref r), some (.ref l), some d.val] S = .ok (.bl false) S1 :=
    ev_not (t := true) (ev_call (k := 0) (evs_cons (ev_call (k := 0) (evs_cons (ev_var rfl) (evs_cons (ev_var rfl) evs_nil)) e1) (evs_cons (ev_call (k := 0) (evs_cons (ev_var rfl) (evs_cons (ev_var rfl) evs_nil)) e2) evs_nil)) e3)
  have c2 : evalE P (callN P (n+3)) (.call f_Lbehind (.cons (.var 1) (.cons (.var 2) (.cons (.var 3) .nil))) 0) [some (.ref o), some (.ref r), some (.ref l), some d.val] S1 = .ok (.tup [.ref r', .ref l']) (S1 ++ T) :=
    ev_call (k := 0) (evs_cons (ev_var rfl) (evs_cons (ev_var rfl) (evs_cons (ev_var rfl) evs_nil))) e4
  exact s_fin ((s_nx (es_off c1)).trans (es_one (es_ret c2))) rfl
theorem thrown_ok {c col o rs l0 ls r l S} (h : Lw c col o rs l0 ls r l S) (hc : c ≠ 0) (b1 : rs.length ≤ 400) (b2 : ls.length ≤ 400) (t : Int) (n : Nat) : ∃ S' col' r' l', callN P (n+2) f_Lthrown [.ref o, .ref r, .ref l, .int t] S = .ok (.tup [.ref r', .ref l']) S' ∧ Lw c col' o (rs.filter fun s => decide (s.t < t)) (l0.filter fun s => decide (s.t < t)) (ls.filter fun s => decide (s.t < t)) r' l' S' ∧ Stp (· = c) col S col' S' := by
  have hl0 := h.pm.length_eq
  have ca : evalL P (callN P (n+1)) (.lcomp [5] true [5] (.iof (.lof (.var 1))) l_Lthrown_0 l_Lthrown_1) [some (.ref o), some (.ref r), some (.ref l), some (.int t), none, none, none, none] S = .ok (.tmp ((rs.filter fun s => decide (s.t < t)).map Sto.val)) S :=
    ev_flt Sto.val Sto.val (fun s => decide (s.t < t)) (ev_var rfl) h.hr (by omega) (fun v => [some (.ref o), some (.ref r), some (.ref l), some (.int t), none, some v, none, none]) (fun v => by simp [Ev.wipe]) rfl (fun x => ev_ltI (first_at _ x.t _ rfl (ev_var rfl)) (ev_var rfl)) (fun x => ev_var rfl)
  have s1 : evalS P (callN P (n+1)) (.asg (.name 4) (.list (.lcomp [5] true [5] (.iof (.lof (.var 1))) l_Lthrown_0 l_Lthrown_1))) [some (.ref o), some (.ref r), some (.ref l), some (.int t), none, none, none, none] S = .nx [some (.ref o), some (.ref r), some (.ref l), some (.int t), some (.ref S.length), none, none, none] (S ++ [.lst ((rs.filter fun s => decide (s.t < t)).map Sto.val)]) := es_set (ev_list ca) rfl
  obtain ⟨A, hA⟩ : ∃ A, S ++ [Ob.lst ((rs.filter fun s => decide (s.t < t)).map Sto.val)] = A := ⟨_, rfl⟩
  have hAl : A[l]? = some (.lst (ls.map Lod.val)) := by rw [← hA]; exact x_old h.hl
  rw [hA] at s1
  have cb : evalL P (callN P (n+1)) (.lcomp [5] true [5] (.iof (.lof (.var 2))) l_Lthrown_2 l_Lthrown_3) [some (.ref o), some (.ref r), some (.ref l), some (.int t), some (.ref S.length), none, none, none] A = .ok (.tmp ((ls.filter fun s => decide (s.t < t)).map Lod.val)) A :=
    ev_flt Lod.val Lod.val (fun s => decide (s.t < t)) (ev_var rfl) hAl (by omega) (fun v => [some (.ref o), some (.ref r), some (.ref l), some (.int t), some (.ref S.length), some v, none, none]) (fun v => by simp [Ev.wipe]) rfl (fun x => ev_ltI (first_at _ x.t _ rfl (ev_var rfl)) (ev_var rfl)) (fun x => ev_var rfl)
  have s2 : evalS P (callN P (n+1)) (.asg (.name 6) (.list (.lcomp [5] true [5] (.iof (.lof (.var 2))) l_Lthrown_2 l_Lthrown_3))) [some (.ref o), some (.ref r), some (.ref l), some (.int t), some (.ref S.length), none, none, none] A = .nx [some (.ref o), some (.ref r), some (.ref l), some (.int t), some (.ref S.length), none, some (.ref A.length), none] (A ++ [.lst ((ls.filter fun s => decide (s.t < t)).map Lod.val)]) := es_set (ev_list cb) rfl
  have hAn : A.length = S.length + 1 := by rw [← hA]; simp
  obtain ⟨B, hB⟩ : ∃ B, A ++ [Ob.lst ((ls.filter fun s => decide (s.t < t)).map Lod.val)] = B := ⟨_, rfl⟩
  have hBe : S ++ [Ob.lst ((rs.filter fun s => decide (s.t < t)).map Sto.val), .lst ((ls.filter fun s => decide (s.t < t)).map Lod.val)] = B := by rw [← hB, ← hA]; simp
  have hBs : B[S.length]? = some (.lst ((rs.filter fun s => decide (s.t < t)).map Sto.val)) := by rw [← hBe]; simp
  have hBl : B[A.length]? = some (.lst ((ls.filter fun s => decide (s.t < t)).map Lod.val)) := by rw [← hB]; simp
  rw [hB] at s2
  have st1 : Stp (· = c) col S (paint col S.length 0) B := by rw [← hBe]; exact Stp.app _ 0
  have lwB : Lw c (paint col S.length 0) o rs l0 ls r l B := by
    have := h.frame (Stp.app (C := fun _ => False) [Ob.lst ((rs.filter fun s => decide (s.t < t)).map Sto.val), .lst ((ls.filter fun s => decide (s.t < t)).map Lod.val)] 0) (by simp) (by simp)
    rw [hBe] at this; exact this
  have q1 : paint col S.length 0 S.length = 0 := paint_new (Nat.le_refl _)
  have q2 : paint col S.length 0 A.length = 0 := paint_new (by omega)
  generalize paint col S.length 0 = col1 at *
  obtain ⟨S', col', e, k1, k2⟩ := shelf_throw lwB.sh (by omega) (by omega) t n
  have n1 := k2.at_ hBs q1 (by simpa using hc.symm)
  have n2 := k2.at_ hBl q2 (by simpa using hc.symm)
  have pf : (ls.filter fun s => decide (s.t < t)).Perm (l0.filter fun s => decide (s.t < t)) := h.pm.filter _
  rw [← pf.length_eq, ← hl0] at e
  have el : ∀ (q : Nat) (v : Nat) (ρ : Ev) (xs : List Val), ρ[q]? = some (some (.ref v)) → B[v]? = some (.lst xs) → evalE P (callN P (n+1)) (.bl1 .len (.var q)) ρ B = .ok (.int (xs.length : Int)) B := fun q v ρ xs h1 h2 => ev_lenl (ev_var h1) h2
  obtain ⟨mv, hmv⟩ : ∃ mv : Int, (rs.length : Int) + ls.length - (rs.filter fun s => decide (s.t < t)).length - (ls.filter fun s => decide (s.t < t)).length = mv := ⟨_, rfl⟩
  rw [hmv] at e
  have s3 : evalS P (callN P (n+1)) (.asg (.name 7) (.bin .sub (.bin .sub (.bin .add (.bl1 .len (.var 1)) (.bl1 .len (.var 2))) (.bl1 .len (.var 4))) (.bl1 .len (.var 6)))) [some (.ref o), some (.ref r), some (.ref l), some (.int t), some (.ref S.length), none, some (.ref A.length), none] B = .nx [some (.ref o), some (.ref r), some (.ref l), some (.int t), some (.ref S.length), none, some (.ref A.length), some (.int mv)] B := by
    have := ev_sub (ev_sub (ev_add (el 1 r [some (.ref o), some (.ref r), some (.ref l), some (.int t), some (.ref S.length), none, some (.ref A.length), none] _ rfl lwB.hr) (el 2 l _ _ rfl lwB.hl)) (el 4 S.length _ _ rfl hBs)) (el 6 A.length _ _ rfl hBl)
    simp only [List.length_map] at this
    rw [hmv] at this
    exact es_set this rfl
  obtain ⟨AA, BB, hsh⟩ := id lwB.sh
  have c1 : evalE P (callN P (n+1)) (.not (.call f_Lalike (.cons (.meth (.var 0) M_throw (.cons (.var 3) .nil) 0) (.cons (.var 7) .nil)) 0)) [some (.ref o), some (.ref r), some (.ref l), some (.int t), some (.ref S.length), none, some (.ref A.length), some (.int mv)] B = .ok (.bl false) S' :=
    ev_not (t := true) (ev_call (k := 0) (evs_cons (ev_meth (k := 0) (ev_var rfl) hsh.ho rfl (evs_cons (ev_var rfl) evs_nil) e) (evs_cons (ev_var rfl) evs_nil)) (alike_oi (some mv) n S'))
  refine ⟨S', col', S.length, A.length, ?_, ⟨k1, n1.1, n1.2, n2.1, n2.2, List.Pairwise.filter _ h.as, List.Pairwise.filter _ h.al, pf⟩, st1.trans k2⟩
  rw [u_Lthrown]
  unfold b_Lthrown
  exact s_fin ((s_nx s1).trans ((s_nx s2).trans ((s_nx s3).trans ((s_nx (es_off c1)).trans (es_one (es_ret (ev_tup (evs_cons (ev_var rfl) (evs_cons (ev_var rfl) evs_nil)) (by simp)))))))) rfl
/-- behind the throw it may be done -/
theorem ok_thrown {rs : List Sto} {l0 : List Lod} (d : SD) (h : (∃ t, d = .store t) ∨ ∃ t p g, d = .load t p g) : d.ok (rs.filter fun s => decide (s.t < d.t)) (l0.filter fun s => decide (s.t < d.t)) := by
  have g1 : ∀ t : Int, spotL (l0.filter fun s => decide (s.t < t)) t = none := fun t => spotL_mem.mpr fun x hx => by
    have := (List.mem_filter.mp hx).2
    simp at this; omega
  have g2 : ∀ t : Int, spotS (rs.filter fun s => decide (s.t < t)) t = none := fun t => spotS_mem.mpr fun x hx => by
    have := (List.mem_filter.mp hx).2
    simp at this; omega
  rcases h with ⟨t, rfl⟩ | ⟨t, p, g, rfl⟩
  · refine ⟨fun k hk => ?_, g1 t⟩
    unfold lastT at hk
    cases q : (rs.filter fun s => decide (s.t < (SD.store t).t)).getLast? with
    | none => rw [q] at hk; simp at hk
    | some x =>
      rw [q] at hk; simp at hk; subst hk
      have := (List.mem_filter.mp (List.mem_of_getLast? q)).2
      exact of_decide_eq_true this
  · exact ⟨g2 t, g1 t⟩
def SD.kind : SD → Str
  | .store _ => "store" | .place _ _ => "place" | .word _ _ => "word" | .load _ _ _ => "load" | .leave _ => "leave"
theorem kind_ok (d : SD) (x y : Int) {cf : Nat → List Val → Store → R Val} {ρ : Ev} {S : Store} {nu : Nat} (h3 : ρ[3]? = some (some (.ref nu))) (h4 : ρ[4]? = some (some d.val)) (hn : S[nu]? = some (.lst [.int x, .int y])) : ∃ b, evalE P cf (.or (.cons (.cmp .gt (.bin .mod (.bin .fdiv (.ix (.var 3) (.int 0)) (.int 192)) (.int 4)) (.int 0)) (.cons (.and (.cons (.cmp .ne (.ix (.var 4) (.int 0)) (.str "store")) (.cons (.cmp .ne (.ix (.var 4) (.int 0)) (.str "load")) .nil))) .nil))) ρ S = .ok (.bl b) S ∧ (b = false → (∃ t, d = .store t) ∨ ∃ t p g, d = .load t p g) := by
  have c1 := ev_gtI (ev_mod (ev_fdiv (ev_ixl (cf := cf) (ev_var h3) (ev_int 0) hn (v := .int x) (by rfl)) (ev_int 192) (by decide) (by decide)) (ev_int 4) (by decide)) (ev_int 0)
  have c2 : ∃ b, evalE P cf (.and (.cons (.cmp .ne (.ix (.var 4) (.int 0)) (.str "store")) (.cons (.cmp .ne (.ix (.var 4) (.int 0)) (.str "load")) .nil))) ρ S = .ok (.bl b) S ∧ (b = false → (∃ t, d = .store t) ∨ ∃ t p g, d = .load t p g) := by
    have k : ∀ s : Str, evalE P cf (.cmp .ne (.ix (.var 4) (.int 0)) (.str s)) ρ S = .ok (.bl (!decide (d.kind = s))) S := fun s => by
      have e : ∃ xs, d.val = .tup (.str d.kind :: xs) := by cases d <;> exact ⟨_, rfl⟩
      obtain ⟨xs, e⟩ := e
      rw [e] at h4
      have := ev_cmp (c := .ne) (ev_ixn (cf := cf) (j := 0) (S := S) (ev_var h4) rfl) (ev_str s)
      refine this.trans ?_
      generalize d.kind = z
      by_cases q : z = s
      · simp [-getElem?_neg, -getElem?_pos, List.getElem?_cons_zero, List.getElem?_cons_succ, evalS.eq_1, evalS.eq_2, evalS.eq_3, evalS.eq_4, evalS.eq_5, evalS.eq_6, evalS.eq_7, evalS.eq_8, evalS.eq_9, evalS.eq_10, evalS.eq_11, evalS.eq_12, evalS.eq_13, evalS.eq_14, evalS.eq_15, evalS.eq_16, evalE.eq_1, evalE.eq_2, evalE.eq_3, evalE.eq_4, evalE.eq_5, evalE.eq_6, evalE.eq_7, evalE.eq_8, evalE.eq_9, evalE.eq_10, evalE.eq_11, evalE.eq_12, evalE.eq_13, evalE.eq_14, evalE.eq_15, evalE.eq_16, evalE.eq_17, evalE.eq_18, evalE.eq_19, evalE.eq_20, evalE.eq_21, evalE.eq_22, evalE.eq_23, evalE.eq_24, evalE.eq_25, evalE.eq_26, evalE.eq_27, evalE.eq_28, evalE.eq_29, evalE.eq_30, evalE.eq_31, evalE.eq_32, evalE.eq_33, evalE.eq_34, evalE.eq_35, evalE.eq_36, evalEs.eq_1, evalEs.eq_2, evalL.eq_1, evalL.eq_2, evalL.eq_3, evalL.eq_4, evalL.eq_5, evalL.eq_6, evalL.eq_7, evalL.eq_8, evalL.eq_9, evalI.eq_1, evalI.eq_2, evalI.eq_3, evalI.eq_4, evalI.eq_5, evalI.eq_6, evalI.eq_7, evalI.eq_8, evalI.eq_9, evalI.eq_10, evalT, evalAnd.eq_1, evalOr.eq_1, evalH.eq_1, evalH.eq_2, handle, E.isNil, E.isNo, Val.isNon, truth, optI, x_lim, x_lim2, Ev.puts.eq_1, Ev.puts.eq_2, lvOf.eq_1, lvOf.eq_2, x_ofO_ite, x_bind_ite, x_toF_ite, x_fb_ite, x_fin_ite, j_ok, j_rt, j_nx, j_int, j_str, j_bl, j_cons, j_some, j_isNon, j_bl2, j_bl3, j_and, j_or, x_mod, x_fdv, x_pw, x_shr, x_mul, x_mulL, x_mulM, x_mulN, q]
      · simp [-getElem?_neg, -getElem?_pos, List.getElem?_cons_zero, List.getElem?_cons_succ, evalS.eq_1, evalS.eq_2, evalS.eq_3, evalS.eq_4, evalS.eq_5, evalS.eq_6, evalS.eq_7, evalS.eq_8, evalS.eq_9, evalS.eq_10, evalS.eq_11, evalS.eq_12, evalS.eq_13, evalS.eq_14, evalS.eq_15, evalS.eq_16, evalE.eq_1, evalE.eq_2, evalE.eq_3, evalE.eq_4, evalE.eq_5, evalE.eq_6, evalE.eq_7, evalE.eq_8, evalE.eq_9, evalE.eq_10, evalE.eq_11, evalE.eq_12, evalE.eq_13, evalE.eq_14, evalE.eq_15, evalE.eq_16, evalE.eq_17, evalE.eq_18, evalE.eq_19, evalE.eq_20, evalE.eq_21, evalE.eq_22, evalE.eq_23, evalE.eq_24, evalE.eq_25, evalE.eq_26, evalE.eq_27, evalE.eq_28, evalE.eq_29, evalE.eq_30, evalE.eq_31, evalE.eq_32, evalE.eq_33, evalE.eq_34, evalE.eq_35, evalE.eq_36, evalEs.eq_1, evalEs.eq_2, evalL.eq_1, evalL.eq_2, evalL.eq_3, evalL.eq_4, evalL.eq_5, evalL.eq_6, evalL.eq_7, evalL.eq_8, evalL.eq_9, evalI.eq_1, evalI.eq_2, evalI.eq_3, evalI.eq_4, evalI.eq_5, evalI.eq_6, evalI.eq_7, evalI.eq_8, evalI.eq_9, evalI.eq_10, evalT, evalAnd.eq_1, evalOr.eq_1, evalH.eq_1, evalH.eq_2, handle, E.isNil, E.isNo, Val.isNon, truth, optI, x_lim, x_lim2, Ev.puts.eq_1, Ev.puts.eq_2, lvOf.eq_1, lvOf.eq_2, x_ofO_ite, x_bind_ite, x_toF_ite, x_fb_ite, x_fin_ite, j_ok, j_rt, j_nx, j_int, j_str, j_bl, j_cons, j_some, j_isNon, j_bl2, j_bl3, j_and, j_or, x_mod, x_fdv, x_pw, x_shr, x_mul, x_mulL, x_mulM, x_mulN, q]
    refine ⟨_, ev_and2 (k "store") (fun _ => k "load"), fun h => ?_⟩
    cases d with
    | store t => exact .inl ⟨t, rfl⟩
    | load t p g => exact .inr ⟨t, p, g, rfl⟩
    | place t p =>
      have e : (!decide (("place" : Str) = "store") && !decide (("place" : Str) = "load")) = true := by decide
      exact absurd (e.symm.trans h) (by decide)
    | word t p =>
      have e : (!decide (("word" : Str) = "store") && !decide (("word" : Str) = "load")) = true := by decide
      exact absurd (e.symm.trans h) (by decide)
    | leave t =>
      have e : (!decide (("leave" : Str) = "store") && !decide (("leave" : Str) = "load")) = true := by decide
      exact absurd (e.symm.trans h) (by decide)
  obtain ⟨b, c2, hb⟩ := c2
  refine ⟨_, ev_or2 c1 c2, fun h => hb ?_⟩
  simp only [Bool.or_eq_false_iff] at h
  exact h.2
theorem Done2.pre {c col col1 o m S S1 res} (a : Stp (· = c) col S col1 S1) (h : Done2 c col1 o m S1 res) : Done2 c col o m S res := by
  obtain ⟨S', col', rs', l0', ls', r', l', h1, h2, h3, h4⟩ := h
  exact ⟨S', col', rs', l0', ls', r', l', h1, h2, a.trans h3, h4⟩
theorem stepped_ok {c col o rs l0 ls r l S} (h : Lw c col o rs l0 ls r l S) (hc : c ≠ 0) (d : SD) (m : Nat) (b1 : rs.length ≤ m) (b2 : ls.length ≤ m) (hm : m ≤ 300) (nu : Nat) (x y : Int) (hnu : S[nu]? = some (.lst [.int x, .int y])) (n : Nat) : Done2 c col o m S (callN P (n+5) f_Lstepped [.ref o, .ref r, .ref l, .ref nu, d.val] S) := by
  have fl : ∀ (rs : List Sto) (q : Sto → Bool), rs.length ≤ m → (rs.filter q).length ≤ m + 1 := fun rs q hq => Nat.le_trans (List.length_filter_le _ _) (by omega)
  have fl2 : ∀ (rs : List Lod) (q : Lod → Bool), rs.length ≤ m → (rs.filter q).length ≤ m + 1 := fun rs q hq => Nat.le_trans (List.length_filter_le _ _) (by omega)
  have fl3 : ∀ (rs : List Sto) (q : Sto → Bool), rs.length ≤ m → (rs.filter q).length ≤ m := fun rs q hq => Nat.le_trans (List.length_filter_le _ _) (by omega)
  have fl4 : ∀ (rs : List Lod) (q : Lod → Bool), rs.length ≤ m → (rs.filter q).length ≤ m := fun rs q hq => Nat.le_trans (List.length_filter_le _ _) (by omega)
  rw [u_Lstepped]
  unfold b_Lstepped
  have c1 : evalE P (callN P (n+4)) (.cmp .eq (.bin .mod (.bin .fdiv (.ix (.var 3) (.int 0)) (.int 16)) (.int 12)) (.int 7)) [some (.ref o), some (.ref r), some (.ref l), some (.ref nu), some d.val, none] S = .ok (.bl (decide (x / 16 % 12 = 7))) S := ev_eqI (ev_mod (ev_fdiv (ev_ixl (ev_var rfl) (ev_int 0) hnu (v := .int x) (by rfl)) (ev_int 16) (by decide) (by decide)) (ev_int 12) (by decide)) (ev_int 7)
  by_cases z : x / 16 % 12 = 7
  · rw [decide_eq_true z] at c1
    obtain ⟨S', col', r', l', e, lw, st⟩ := thrown_ok h hc (by omega) (by omega) d.t (n+2)
    refine ⟨S', col', _, _, _, r', l', ?_, lw, st, fl _ _ b1, fl2 _ _ b2⟩
    exact s_fin (s_rt (es_hit c1 (es_one (es_ret (ev_call (k := 0) (evs_cons (ev_var rfl) (evs_cons (ev_var rfl) (evs_cons (ev_var rfl) (evs_cons (dt d (ev_var rfl)) evs_nil)))) e))))) rfl
  rw [decide_eq_false z] at c1
  obtain ⟨T, b, e2, hb⟩ := allowed_ok h.hr h.hl h.as h.pm d (by omega) (by omega) (n+3)
  have hA := h.frame (Stp.app (C := fun _ => False) T 0) (by simp) (by simp)
  have st0 : Stp (· = c) col S (paint col S.length 0) (S ++ T) := Stp.app T 0
  have hnA : (S ++ T)[nu]? = some (.lst [.int x, .int y]) := x_old hnu
  generalize paint col S.length 0 = col1 at *
  obtain ⟨A, hAA⟩ : ∃ A, S ++ T = A := ⟨_, rfl⟩
  rw [hAA] at e2 hA st0 hnA
  have c2 : evalE P (callN P (n+4)) (.call f_Lallowed (.cons (.var 1) (.cons (.var 2) (.cons (.var 4) .nil))) 0) [some (.ref o), some (.ref r), some (.ref l), some (.ref nu), some d.val, none] S = .ok (.bl b) A := ev_call (k := 0) (evs_cons (ev_var rfl) (evs_cons (ev_var rfl) (evs_cons (ev_var rfl) evs_nil))) e2
  refine Done2.pre st0 ?_
  cases b with
  | true =>
    obtain ⟨S', col', rs', l0', ls', r', l', e3, k⟩ := done_ok hA hc d (hb.mp rfl) m b1 b2 hm n
    refine ⟨S', col', rs', l0', ls', r', l', ?_, k⟩
    exact s_fin ((s_nx (es_off c1)).trans (s_rt (es_hit c2 (es_one (es_ret (ev_call (k := 0) (evs_cons (ev_var rfl) (evs_cons (ev_var rfl) (evs_cons (ev_var rfl) (evs_cons (ev_var rfl) evs_nil)))) e3)))))) rfl
  | false =>
    have hd : ¬ d.ok rs l0 := fun w => by simpa using hb.mpr w
    have e3 := refused_ok hA.sh d hd n
    have e4 := refused_any hA.sh d hd n
    have c3 : evalE P (callN P (n+4)) (.or (.cons (.not (.call f_Lrefused (.cons (.var 0) (.cons (.var 4) .nil)) 0)) (.cons (.not (.call f_Lrefused_by_any (.cons (.var 0) (.cons (.var 4) .nil)) 0)) .nil))) [some (.ref o), some (.ref r), some (.ref l), some (.ref nu), some d.val, none] A = .ok (.bl false) A :=
      ev_or2 (k := false) (l := false) (ev_not (t := true) (ev_call (k := 0) (evs_cons (ev_var rfl) (evs_cons (ev_var rfl) evs_nil)) e3)) (ev_not (t := true) (ev_call (k := 0) (evs_cons (ev_var rfl) (evs_cons (ev_var rfl) evs_nil)) e4))
    obtain ⟨b, c4, hk⟩ := kind_ok d x y (cf := callN P (n+4)) (ρ := [some (.ref o), some (.ref r), some (.ref l), some (.ref nu), some d.val, none]) (S := A) rfl rfl hnA
    cases b with
    | true =>
      refine ⟨A, col1, rs, l0, ls, r, l, ?_, hA, Stp.refl, by omega, by omega⟩
      exact s_fin ((s_nx (es_off c1)).trans ((s_nx (es_off c2)).trans ((s_nx (es_off c3)).trans (s_rt (es_hit c4 (es_one (es_ret (ev_tup (evs_cons (ev_var rfl) (evs_cons (ev_var rfl) evs_nil)) (by simp))))))))) rfl
    | false =>
      obtain ⟨S2, col2, r2, l2, e5, lw2, st2⟩ := thrown_ok hA hc (by omega) (by omega) d.t (n+2)
      obtain ⟨S', col', rs', l0', ls', r', l', e6, k1, k2, k3⟩ := done_ok lw2 hc d (ok_thrown d (hk rfl)) m (fl3 _ _ b1) (fl4 _ _ b2) hm n
      refine ⟨S', col', rs', l0', ls', r', l', ?_, k1, st2.trans k2, k3⟩
      have s5 : evalS P (callN P (n+4)) (.asg (.name 5) (.call f_Lthrown (.cons (.var 0) (.cons (.var 1) (.cons (.var 2) (.cons (.ix (.var 4) (.int 1)) .nil)))) 0)) [some (.ref o), some (.ref r), some (.ref l), some (.ref nu), some d.val, none] A = .nx [some (.ref o), some (.ref r), some (.ref l), some (.ref nu), some d.val, some (.tup [.ref r2, .ref l2])] S2 := es_set (ev_call (k := 0) (evs_cons (ev_var rfl) (evs_cons (ev_var rfl) (evs_cons (ev_var rfl) (evs_cons (dt d (ev_var rfl)) evs_nil)))) e5) rfl
      have c5 : evalE P (callN P (n+4)) (.isN (.var 5)) [some (.ref o), some (.ref r), some (.ref l), some (.ref nu), some d.val, some (.tup [.ref r2, .ref l2])] S2 = .ok (.bl false) S2 := ev_isN (v := .tup [.ref r2, .ref l2]) (ev_var rfl)
      exact s_fin ((s_nx (es_off c1)).trans ((s_nx (es_off c2)).trans ((s_nx (es_off c3)).trans ((s_nx (es_off c4)).trans ((s_nx s5).trans ((s_nx (es_off c5)).trans (es_one (es_ret (ev_call (k := 0) (evs_cons (ev_var rfl) (evs_cons (ev_ixn (j := 0) (xs := [.ref r2, .ref l2]) (ev_var rfl) rfl) (evs_cons (ev_ixn (j := 1) (xs := [.ref r2, .ref l2]) (ev_var rfl) rfl) (evs_cons (ev_var rfl) evs_nil)))) e6))))))))) rfl
theorem kcmp {cf : Nat → List Val → Store → R Val} {a : E} {ρ : Ev} {S S1 : Store} (k s : Str) (h : evalE P cf a ρ S = .ok (.str k) S1) : evalE P cf (.cmp .eq a (.str s)) ρ S = .ok (.bl (decide (k = s))) S1 := by
  refine (ev_cmp h (ev_str s)).trans ?_
  by_cases q : k = s
  · simp [-getElem?_neg, -getElem?_pos, List.getElem?_cons_zero, List.getElem?_cons_succ, evalS.eq_1, evalS.eq_2, evalS.eq_3, evalS.eq_4, evalS.eq_5, evalS.eq_6, evalS.eq_7, evalS.eq_8, evalS.eq_9, evalS.eq_10, evalS.eq_11, evalS.eq_12, evalS.eq_13, evalS.eq_14, evalS.eq_15, evalS.eq_16, evalE.eq_1, evalE.eq_2, evalE.eq_3, evalE.eq_4, evalE.eq_5, evalE.eq_6, evalE.eq_7, evalE.eq_8, evalE.eq_9, evalE.eq_10, evalE.eq_11, evalE.eq_12, evalE.eq_13, evalE.eq_14, evalE.eq_15, evalE.eq_16, evalE.eq_17, evalE.eq_18, evalE.eq_19, evalE.eq_20, evalE.eq_21, evalE.eq_22, evalE.eq_23, evalE.eq_24, evalE.eq_25, evalE.eq_26, evalE.eq_27, evalE.eq_28, evalE.eq_29, evalE.eq_30, evalE.eq_31, evalE.eq_32, evalE.eq_33, evalE.eq_34, evalE.eq_35, evalE.eq_36, evalEs.eq_1, evalEs.eq_2, evalL.eq_1, evalL.eq_2, evalL.eq_3, evalL.eq_4, evalL.eq_5, evalL.eq_6, evalL.eq_7, evalL.eq_8, evalL.eq_9, evalI.eq_1, evalI.eq_2, evalI.eq_3, evalI.eq_4, evalI.eq_5, evalI.eq_6, evalI.eq_7, evalI.eq_8, evalI.eq_9, evalI.eq_10, evalT, evalAnd.eq_1, evalOr.eq_1, evalH.eq_1, evalH.eq_2, handle, E.isNil, E.isNo, Val.isNon, truth, optI, x_lim, x_lim2, Ev.puts.eq_1, Ev.puts.eq_2, lvOf.eq_1, lvOf.eq_2, x_ofO_ite, x_bind_ite, x_toF_ite, x_fb_ite, x_fin_ite, j_ok, j_rt, j_nx, j_int, j_str, j_bl, j_cons, j_some, j_isNon, j_bl2, j_bl3, j_and, j_or, x_mod, x_fdv, x_pw, x_shr, x_mul, x_mulL, x_mulM, x_mulN, q]
  · simp [-getElem?_neg, -getElem?_pos, List.getElem?_cons_zero, List.getElem?_cons_succ, evalS.eq_1, evalS.eq_2, evalS.eq_3, evalS.eq_4, evalS.eq_5, evalS.eq_6, evalS.eq_7, evalS.eq_8, evalS.eq_9, evalS.eq_10, evalS.eq_11, evalS.eq_12, evalS.eq_13, evalS.eq_14, evalS.eq_15, evalS.eq_16, evalE.eq_1, evalE.eq_2, evalE.eq_3, evalE.eq_4, evalE.eq_5, evalE.eq_6, evalE.eq_7, evalE.eq_8, evalE.eq_9, evalE.eq_10, evalE.eq_11, evalE.eq_12, evalE.eq_13, evalE.eq_14, evalE.eq_15, evalE.eq_16, evalE.eq_17, evalE.eq_18, evalE.eq_19, evalE.eq_20, evalE.eq_21, evalE.eq_22, evalE.eq_23, evalE.eq_24, evalE.eq_25, evalE.eq_26, evalE.eq_27, evalE.eq_28, evalE.eq_29, evalE.eq_30, evalE.eq_31, evalE.eq_32, evalE.eq_33, evalE.eq_34, evalE.eq_35, evalE.eq_36, evalEs.eq_1, evalEs.eq_2, evalL.eq_1, evalL.eq_2, evalL.eq_3, evalL.eq_4, evalL.eq_5, evalL.eq_6, evalL.eq_7, evalL.eq_8, evalL.eq_9, evalI.eq_1, evalI.eq_2, evalI.eq_3, evalI.eq_4, evalI.eq_5, evalI.eq_6, evalI.eq_7, evalI.eq_8, evalI.eq_9, evalI.eq_10, evalT, evalAnd.eq_1, evalOr.eq_1, evalH.eq_1, evalH.eq_2, handle, E.isNil, E.isNo, Val.isNon, truth, optI, x_lim, x_lim2, Ev.puts.eq_1, Ev.puts.eq_2, lvOf.eq_1, lvOf.eq_2, x_ofO_ite, x_bind_ite, x_toF_ite, x_fb_ite, x_fin_ite, j_ok, j_rt, j_nx, j_int, j_str, j_bl, j_cons, j_some, j_isNon, j_bl2, j_bl3, j_and, j_or, x_mod, x_fdv, x_pw, x_shr, x_mul, x_mulL, x_mulM, x_mulN, q]
theorem ticket_by_ok (k : Str) {rs : List Sto} {ls : List Lod} {r l : Nat} {S : Store} (hr : S[r]? = some (.lst (rs.map Sto.val))) (hl : S[l]? = some (.lst (ls.map Lod.val))) (b1 : rs.length ≤ 400) (b2 : ls.length ≤ 400) (base num : Int) (n : Nat) : ∃ t T, callN P (n+1) f_Lticket_by [.str k, .ref r, .ref l, .int base, .int num] S = .ok (.int t) (S ++ T) := by
  have ca : evalL P (callN P n) (.lcomp [6] true [6] (.iof (.lof (.var 1))) .noPart l_Lticket_by_0) [some (.str k), some (.ref r), some (.ref l), some (.int base), some (.int num), none, none] S = .ok (.tmp (rs.map fun x => Val.int x.t)) S :=
    ev_mp Sto.val (fun x => .int x.t) (ev_var rfl) hr (by omega) (fun v => [some (.str k), some (.ref r), some (.ref l), some (.int base), some (.int num), none, some v]) (fun v => by simp [Ev.wipe]) (fun x => first_at _ x.t _ rfl (ev_var rfl))
  have s1 : evalS P (callN P n) (.asg (.name 5) (.list (.lcomp [6] true [6] (.iof (.lof (.var 1))) .noPart l_Lticket_by_0))) [some (.str k), some (.ref r), some (.ref l), some (.int base), some (.int num), none, none] S = .nx [some (.str k), some (.ref r), some (.ref l), some (.int base), some (.int num), some (.ref S.length), none] (S ++ [.lst (rs.map fun x => Val.int x.t)]) := es_set (ev_list ca) rfl
  have hAo : (S ++ [Ob.lst (rs.map fun x => Val.int x.t)])[S.length]? = some (.lst (rs.map fun x => Val.int x.t)) := by simp
  have hAl : (S ++ [Ob.lst (rs.map fun x => Val.int x.t)])[l]? = some (.lst (ls.map Lod.val)) := x_old hl
  have s2 : ∃ (TS : List Int) (q : Nat) (T : Store), evalS P (callN P n) (.ite (.cmp .eq (.var 0) (.str "leave")) (.cons (.asg (.name 5) (.list (.lcat (.lof (.var 5)) (.lcomp [6] true [6] (.iof (.lof (.var 2))) .noPart l_Lticket_by_1)))) .nil) .nil) [some (.str k), some (.ref r), some (.ref l), some (.int base), some (.int num), some (.ref S.length), none] (S ++ [.lst (rs.map fun x => Val.int x.t)]) = .nx [some (.str k), some (.ref r), some (.ref l), some (.int base), some (.int num), some (.ref q), none] (S ++ T) ∧ (S ++ T)[q]? = some (.lst (TS.map Val.int)) := by
    have c0 := kcmp (cf := callN P n) (a := .var 0) (ρ := [some (.str k), some (.ref r), some (.ref l), some (.int base), some (.int num), some (.ref S.length), none]) (S := S ++ [.lst (rs.map fun x => Val.int x.t)]) k "leave" (ev_var rfl)
    by_cases z : k = "leave"
    · rw [decide_eq_true z] at c0
      have cb : evalL P (callN P n) (.lcomp [6] true [6] (.iof (.lof (.var 2))) .noPart l_Lticket_by_1) [some (.str k), some (.ref r), some (.ref l), some (.int base), some (.int num), some (.ref S.length), none] (S ++ [.lst (rs.map fun x => Val.int x.t)]) = .ok (.tmp (ls.map fun x => Val.int x.t)) (S ++ [.lst (rs.map fun x => Val.int x.t)]) :=
        ev_mp Lod.val (fun x => .int x.t) (ev_var rfl) hAl (by omega) (fun v => [some (.str k), some (.ref r), some (.ref l), some (.int base), some (.int num), some (.ref S.length), some v]) (fun v => by simp [Ev.wipe]) (fun x => first_at _ x.t _ rfl (ev_var rfl))
      have e1 := el_cat (cf := callN P n) (a := .lof (.var 5)) (ρ := [some (.str k), some (.ref r), some (.ref l), some (.int base), some (.int num), some (.ref S.length), none]) (el_ref (ev_var rfl) hAo) cb (ll_trk hAo) (by rfl) (by simp; omega)
      refine ⟨rs.map (·.t) ++ ls.map (·.t), (S ++ [Ob.lst (rs.map fun x => Val.int x.t)]).length, [.lst (rs.map fun x => Val.int x.t), .lst ((rs.map fun x => Val.int x.t) ++ ls.map fun x => Val.int x.t)], ?_, ?_⟩
      · have := es_hit (y := .nil) c0 (es_one (es_set (i := 5) (ρ1 := [some (.str k), some (.ref r), some (.ref l), some (.int base), some (.int num), some (.ref (S ++ [Ob.lst (rs.map fun x => Val.int x.t)]).length), none]) (ev_list e1) rfl))
        rw [this]; simp
      · simp; rfl
    · rw [decide_eq_false z] at c0
      exact ⟨rs.map (·.t), S.length, [.lst (rs.map fun x => Val.int x.t)], es_off c0, by simp⟩
  obtain ⟨TS, q, T, s2, hq⟩ := s2
  obtain ⟨B, hB⟩ : ∃ B, S ++ T = B := ⟨_, rfl⟩
  rw [hB] at s2 hq
  obtain ⟨ρ, hρ⟩ : ∃ ρ : Ev, [some (.str k), some (.ref r), some (.ref l), some (.int base), some (.int num), some (.ref q), none] = ρ := ⟨_, rfl⟩
  have v0 : ρ[0]? = some (some (.str k)) := by rw [← hρ]; rfl
  have v3 : ρ[3]? = some (some (.int base)) := by rw [← hρ]; rfl
  have v4 : ρ[4]? = some (some (.int num)) := by rw [← hρ]; rfl
  have v5 : ρ[5]? = some (some (.ref q)) := by rw [← hρ]; rfl
  have el := ev_lenl (cf := callN P n) (a := .var 5) (S := B) (ev_var v5) hq
  rw [List.length_map] at el
  have c1 := ev_or2 (ev_eqI (ev_mod (ev_var (P := P) (cf := callN P n) (S := B) v4) (ev_int 4) (by decide)) (ev_int 0)) (ev_eqI el (ev_int 0))
  have d4 : ∀ j : Int, 0 < j → j < 18446744073709551616 → evalE P (callN P n) (.bin .fdiv (.var 4) (.int j)) ρ B = .ok (.int (num / j)) B := fun j h1 h2 => ev_fdiv (ev_var v4) (ev_int j) h1 h2
  have fin : ∀ t : Int, evalS P (callN P n) (.cons (.ite (.or (.cons (.cmp .eq (.bin .mod (.var 4) (.int 4)) (.int 0)) (.cons (.cmp .eq (.bl1 .len (.var 5)) (.int 0)) .nil))) (.cons (.ret (.bin .add (.bin .add (.var 3) (.int 1)) (.bin .mod (.bin .fdiv (.var 4) (.int 4)) (.int 24)))) .nil) .nil) (.cons (.ite (.cmp .eq (.var 0) (.str "store")) (.cons (.ret (.bin .add (.ix (.var 5) (.neg (.int 1))) (.bin .mod (.bin .fdiv (.var 4) (.int 4)) (.int 4)))) .nil) .nil) (.cons (.asg (.name 6) (.ix (.var 5) (.bin .mod (.bin .fdiv (.var 4) (.int 4)) (.bl1 .len (.var 5))))) (.cons (.ite (.cmp .eq (.var 0) (.str "load")) (.cons (.ret (.bin .add (.var 6) (.bin .mod (.bin .fdiv (.var 4) (.int 256)) (.int 3)))) .nil) .nil) (.cons (.ret (.var 6)) .nil))))) ρ B = .rt (.int t) B → ∃ t T, callN P (n+1) f_Lticket_by [.str k, .ref r, .ref l, .int base, .int num] S = .ok (.int t) (S ++ T) := fun t h => by
    refine ⟨t, T, ?_⟩
    rw [hB, u_Lticket_by]
    unfold b_Lticket_by
    rw [hρ] at s2
    exact s_fin ((s_nx s1).trans ((s_nx s2).trans h)) rfl
  by_cases z : num % 4 = 0 ∨ (TS.length : Int) = 0
  · have e : (decide (num % 4 = 0) || decide ((TS.length : Int) = 0)) = true := by simpa using z
    rw [e] at c1
    exact fin _ (s_rt (es_hit c1 (es_one (es_ret (ev_add (ev_add (ev_var v3) (ev_int 1)) (ev_mod (d4 4 (by decide) (by decide)) (ev_int 24) (by decide)))))))
  have e : (decide (num % 4 = 0) || decide ((TS.length : Int) = 0)) = false := by
    simp only [Bool.or_eq_false_iff, decide_eq_false_iff_not]
    exact ⟨fun w => z (.inl w), fun w => z (.inr w)⟩
  rw [e] at c1
  have hpos : 0 < TS.length := by omega
  have c2 := kcmp (cf := callN P n) (a := .var 0) (ρ := ρ) (S := B) k "store" (ev_var v0)
  by_cases z2 : k = "store"
  · rw [decide_eq_true z2] at c2
    obtain ⟨x, hx⟩ : ∃ x : Int, MP.atI (TS.map Val.int) (-1) = some (.int x) := by
      rcases List.eq_nil_or_concat TS with w | ⟨xs, y, w⟩
      · subst w; simp at hpos
      · rw [List.concat_eq_append] at w
        subst w
        rw [List.map_append]
        exact ⟨y, at_m1⟩
    have em : evalE P (callN P n) (.neg (.int 1)) ρ B = .ok (.int (-1)) B := by simp [-getElem?_neg, -getElem?_pos, List.getElem?_cons_zero, List.getElem?_cons_succ, evalS.eq_1, evalS.eq_2, evalS.eq_3, evalS.eq_4, evalS.eq_5, evalS.eq_6, evalS.eq_7, evalS.eq_8, evalS.eq_9, evalS.eq_10, evalS.eq_11, evalS.eq_12, evalS.eq_13, evalS.eq_14, evalS.eq_15, evalS.eq_16, evalE.eq_1, evalE.eq_2, evalE.eq_3, evalE.eq_4, evalE.eq_5, evalE.eq_6, evalE.eq_7, evalE.eq_8, evalE.eq_9, evalE.eq_10, evalE.eq_11, evalE.eq_12, evalE.eq_13, evalE.eq_14, evalE.eq_15, evalE.eq_16, evalE.eq_17, evalE.eq_18, evalE.eq_19, evalE.eq_20, evalE.eq_21, evalE.eq_22, evalE.eq_23, evalE.eq_24, evalE.eq_25, evalE.eq_26, evalE.eq_27, evalE.eq_28, evalE.eq_29, evalE.eq_30, evalE.eq_31, evalE.eq_32, evalE.eq_33, evalE.eq_34, evalE.eq_35, evalE.eq_36, evalEs.eq_1, evalEs.eq_2, evalL.eq_1, evalL.eq_2, evalL.eq_3, evalL.eq_4, evalL.eq_5, evalL.eq_6, evalL.eq_7, evalL.eq_8, evalL.eq_9, evalI.eq_1, evalI.eq_2, evalI.eq_3, evalI.eq_4, evalI.eq_5, evalI.eq_6, evalI.eq_7, evalI.eq_8, evalI.eq_9, evalI.eq_10, evalT, evalAnd.eq_1, evalOr.eq_1, evalH.eq_1, evalH.eq_2, handle, E.isNil, E.isNo, Val.isNon, truth, optI, x_lim, x_lim2, Ev.puts.eq_1, Ev.puts.eq_2, lvOf.eq_1, lvOf.eq_2, x_ofO_ite, x_bind_ite, x_toF_ite, x_fb_ite, x_fin_ite, j_ok, j_rt, j_nx, j_int, j_str, j_bl, j_cons, j_some, j_isNon, j_bl2, j_bl3, j_and, j_or, x_mod, x_fdv, x_pw, x_shr, x_mul, x_mulL, x_mulM, x_mulN]
    exact fin _ ((s_nx (es_off c1)).trans (s_rt (es_hit c2 (es_one (es_ret (ev_add (ev_ixl (ev_var v5) em hq hx) (ev_mod (d4 4 (by decide) (by decide)) (ev_int 4) (by decide))))))))
  rw [decide_eq_false z2] at c2
  obtain ⟨j, hj, hjl⟩ : ∃ j : Nat, num / 4 % (TS.length : Int) = (j : Int) ∧ j < TS.length := by
    have h1 := Int.emod_nonneg (num / 4) (show (TS.length : Int) ≠ 0 by omega)
    have h2 := Int.emod_lt_of_pos (num / 4) (show 0 < (TS.length : Int) by omega)
    exact ⟨(num / 4 % (TS.length : Int)).toNat, by omega, by omega⟩
  have hx : MP.atI (TS.map Val.int) (num / 4 % (TS.length : Int)) = some (.int TS[j]) := by rw [hj, at_nat]; simp [hjl]
  have s6 : ∃ ρ2, evalS P (callN P n) (.asg (.name 6) (.ix (.var 5) (.bin .mod (.bin .fdiv (.var 4) (.int 4)) (.bl1 .len (.var 5))))) ρ B = .nx ρ2 B ∧ ρ2[0]? = some (some (.str k)) ∧ ρ2[4]? = some (some (.int num)) ∧ ρ2[6]? = some (some (.int TS[j])) := by
    refine ⟨[some (.str k), some (.ref r), some (.ref l), some (.int base), some (.int num), some (.ref q), some (.int TS[j])], ?_, rfl, rfl, rfl⟩
    exact es_set (ev_ixl (ev_var v5) (ev_mod (d4 4 (by decide) (by decide)) el (by omega)) hq hx) (by rw [← hρ]; rfl)
  obtain ⟨ρ2, s6, w0, w4, w6⟩ := s6
  have c3 := kcmp (cf := callN P n) (a := .var 0) (ρ := ρ2) (S := B) k "load" (ev_var w0)
  by_cases z3 : k = "load"
  · rw [decide_eq_true z3] at c3
    exact fin _ ((s_nx (es_off c1)).trans ((s_nx (es_off c2)).trans ((s_nx s6).trans (s_rt (es_hit c3 (es_one (es_ret (ev_add (ev_var w6) (ev_mod (ev_fdiv (ev_var w4) (ev_int 256) (by decide) (by decide)) (ev_int 3) (by decide))))))))))
  · rw [decide_eq_false z3] at c3
    exact fin _ ((s_nx (es_off c1)).trans ((s_nx (es_off c2)).trans ((s_nx s6).trans ((s_nx (es_off c3)).trans (es_one (es_ret (ev_var w6)))))))
theorem kinds8 (v : Int) (h0 : 0 ≤ v) (h8 : v < 8) : ∃ k : Str, MP.atI [Val.str "store", .str "store", .str "place", .str "word", .str "word", .str "load", .str "load", .str "leave"] v = some (.str k) ∧ (k = "store" ∨ k = "place" ∨ k = "word" ∨ k = "load" ∨ k = "leave") := by
  have : v = 0 ∨ v = 1 ∨ v = 2 ∨ v = 3 ∨ v = 4 ∨ v = 5 ∨ v = 6 ∨ v = 7 := by omega
  rcases this with rfl | rfl | rfl | rfl | rfl | rfl | rfl | rfl
  · exact ⟨"store", rfl, .inl rfl⟩
  · exact ⟨"store", rfl, .inl rfl⟩
  · exact ⟨"place", rfl, .inr (.inl rfl)⟩
  · exact ⟨"word", rfl, .inr (.inr (.inl rfl))⟩
  · exact ⟨"word", rfl, .inr (.inr (.inl rfl))⟩
  · exact ⟨"load", rfl, .inr (.inr (.inr (.inl rfl)))⟩
  · exact ⟨"load", rfl, .inr (.inr (.inr (.inl rfl)))⟩
  · exact ⟨"leave", rfl, .inr (.inr (.inr (.inr rfl)))⟩
theorem deed_ok {rs : List Sto} {ls : List Lod} {r l : Nat} {S : Store} (hr : S[r]? = some (.lst (rs.map Sto.val))) (hl : S[l]? = some (.lst (ls.map Lod.val))) (b1 : rs.length ≤ 400) (b2 : ls.length ≤ 400) (nu : Nat) (x y : Int) (hn : S[nu]? = some (.lst [.int x, .int y])) (base far : Int) (n : Nat) : ∃ (d : SD) (T : Store), callN P (n+2) f_Ldeed [.ref nu, .ref r, .ref l, .int base, .int far] S = .ok d.val (S ++ T) := by
  obtain ⟨k, hk, hk5⟩ := kinds8 (x / 2 % 8) (Int.emod_nonneg _ (by decide)) (Int.emod_lt_of_pos _ (by decide))
  have s1 : evalS P (callN P (n+1)) (.asg (.name 5) (.ixL (.llit (.cons (.str "store") (.cons (.str "store") (.cons (.str "place") (.cons (.str "word") (.cons (.str "word") (.cons (.str "load") (.cons (.str "load") (.cons (.str "leave") .nil))))))))) (.bin .mod (.bin .fdiv (.ix (.var 0) (.int 0)) (.int 2)) (.int 8)))) [some (.ref nu), some (.ref r), some (.ref l), some (.int base), some (.int far), none, none, none, none] S = .nx [some (.ref nu), some (.ref r), some (.ref l), some (.int base), some (.int far), some (.str k), none, none, none] S :=
    es_set (ev_ixLt (el_lits (evs_cons (ev_str _) (evs_cons (ev_str _) (evs_cons (ev_str _) (evs_cons (ev_str _) (evs_cons (ev_str _) (evs_cons (ev_str _) (evs_cons (ev_str _) (evs_cons (ev_str _) evs_nil)))))))) (by simp)) (ev_mod (ev_fdiv (ev_ixl (ev_var rfl) (ev_int 0) hn (v := .int x) (by rfl)) (ev_int 2) (by decide) (by decide)) (ev_int 8) (by decide)) hk) rfl
  have s2 : evalS P (callN P (n+1)) (.asg (.name 6) (.ix (.var 0) (.int 1))) [some (.ref nu), some (.ref r), some (.ref l), some (.int base), some (.int far), some (.str k), none, none, none] S = .nx [some (.ref nu), some (.ref r), some (.ref l), some (.int base), some (.int far), some (.str k), some (.int y), none, none] S :=
    es_set (ev_ixl (ev_var rfl) (ev_int 1) hn (v := .int y) (by rfl)) rfl
  obtain ⟨t, T, e3⟩ := ticket_by_ok k hr hl b1 b2 base (y / 32) n
  obtain ⟨A, hA⟩ : ∃ A, S ++ T = A := ⟨_, rfl⟩
  rw [hA] at e3
  have s3 : evalS P (callN P (n+1)) (.asg (.name 7) (.call f_Lticket_by (.cons (.var 5) (.cons (.var 1) (.cons (.var 2) (.cons (.var 3) (.cons (.bin .fdiv (.var 6) (.int 32)) .nil))))) 0)) [some (.ref nu), some (.ref r), some (.ref l), some (.int base), some (.int far), some (.str k), some (.int y), none, none] S = .nx [some (.ref nu), some (.ref r), some (.ref l), some (.int base), some (.int far), some (.str k), some (.int y), some (.int t), none] A :=
    es_set (ev_call (k := 0) (evs_cons (ev_var rfl) (evs_cons (ev_var rfl) (evs_cons (ev_var rfl) (evs_cons (ev_var rfl) (evs_cons (ev_fdiv (ev_var rfl) (ev_int 32) (by decide) (by decide)) evs_nil))))) e3) rfl
  obtain ⟨p, hp⟩ : ∃ p, far + y % 4 = p := ⟨_, rfl⟩
  have s4 : evalS P (callN P (n+1)) (.asg (.name 8) (.bin .add (.var 4) (.bin .mod (.var 6) (.int 4)))) [some (.ref nu), some (.ref r), some (.ref l), some (.int base), some (.int far), some (.str k), some (.int y), some (.int t), none] A = .nx [some (.ref nu), some (.ref r), some (.ref l), some (.int base), some (.int far), some (.str k), some (.int y), some (.int t), some (.int p)] A :=
    es_set (ev_add (ev_var rfl) (ev_mod (ev_var rfl) (ev_int 4) (by decide))) (by rw [hp]; rfl)
  obtain ⟨ρ, hρ⟩ : ∃ ρ : Ev, [some (.ref nu), some (.ref r), some (.ref l), some (.int base), some (.int far), some (.str k), some (.int y), some (.int t), some (.int p)] = ρ := ⟨_, rfl⟩
  have v5 : ∀ X, evalE P (callN P (n+1)) (.var 5) ρ X = .ok (.str k) X := fun X => by rw [← hρ]; exact ev_var rfl
  have v6 : ∀ X, evalE P (callN P (n+1)) (.var 6) ρ X = .ok (.int y) X := fun X => by rw [← hρ]; exact ev_var rfl
  have v7 : ∀ X, evalE P (callN P (n+1)) (.var 7) ρ X = .ok (.int t) X := fun X => by rw [← hρ]; exact ev_var rfl
  have v8 : ∀ X, evalE P (callN P (n+1)) (.var 8) ρ X = .ok (.int p) X := fun X => by rw [← hρ]; exact ev_var rfl
  have cw : ∃ w : Int, evalE P (callN P (n+1)) (.bin .mod (.bin .mul (.var 6) (.int 6364136223846793005)) (.bin .pow (.int 2) (.int 64))) ρ A = .ok (.int w) A := by
    rw [← hρ]
    exact ⟨y * 6364136223846793005 % 18446744073709551616, by simp [-getElem?_neg, -getElem?_pos, List.getElem?_cons_zero, List.getElem?_cons_succ, evalS.eq_1, evalS.eq_2, evalS.eq_3, evalS.eq_4, evalS.eq_5, evalS.eq_6, evalS.eq_7, evalS.eq_8, evalS.eq_9, evalS.eq_10, evalS.eq_11, evalS.eq_12, evalS.eq_13, evalS.eq_14, evalS.eq_15, evalS.eq_16, evalE.eq_1, evalE.eq_2, evalE.eq_3, evalE.eq_4, evalE.eq_5, evalE.eq_6, evalE.eq_7, evalE.eq_8, evalE.eq_9, evalE.eq_10, evalE.eq_11, evalE.eq_12, evalE.eq_13, evalE.eq_14, evalE.eq_15, evalE.eq_16, evalE.eq_17, evalE.eq_18, evalE.eq_19, evalE.eq_20, evalE.eq_21, evalE.eq_22, evalE.eq_23, evalE.eq_24, evalE.eq_25, evalE.eq_26, evalE.eq_27, evalE.eq_28, evalE.eq_29, evalE.eq_30, evalE.eq_31, evalE.eq_32, evalE.eq_33, evalE.eq_34, evalE.eq_35, evalE.eq_36, evalEs.eq_1, evalEs.eq_2, evalL.eq_1, evalL.eq_2, evalL.eq_3, evalL.eq_4, evalL.eq_5, evalL.eq_6, evalL.eq_7, evalL.eq_8, evalL.eq_9, evalI.eq_1, evalI.eq_2, evalI.eq_3, evalI.eq_4, evalI.eq_5, evalI.eq_6, evalI.eq_7, evalI.eq_8, evalI.eq_9, evalI.eq_10, evalT, evalAnd.eq_1, evalOr.eq_1, evalH.eq_1, evalH.eq_2, handle, E.isNil, E.isNo, Val.isNon, truth, optI, x_lim, x_lim2, Ev.puts.eq_1, Ev.puts.eq_2, lvOf.eq_1, lvOf.eq_2, x_ofO_ite, x_bind_ite, x_toF_ite, x_fb_ite, x_fin_ite, j_ok, j_rt, j_nx, j_int, j_str, j_bl, j_cons, j_some, j_isNon, j_bl2, j_bl3, j_and, j_or, x_mod, x_fdv, x_pw, x_shr, x_mul, x_mulL, x_mulM, x_mulN]⟩
  have cg : ∃ g : Option Int, evalE P (callN P (n+1)) (.ixL (.llit (.cons .non (.cons (.bl2 .max (.int 0) (.bin .sub (.bin .sub (.var 7) (.int 1)) (.bin .mod (.bin .fdiv (.var 6) (.int 8)) (.int 4)))) .nil))) (.bin .mod (.bin .fdiv (.var 6) (.int 4)) (.int 2))) ρ A = .ok (oi g) A := by
    have em : ∃ m : Int, evalE P (callN P (n+1)) (.bl2 .max (.int 0) (.bin .sub (.bin .sub (.var 7) (.int 1)) (.bin .mod (.bin .fdiv (.var 6) (.int 8)) (.int 4)))) ρ A = .ok (.int m) A := by
      rw [← hρ]
      exact ⟨if 0 < t - 1 - y / 8 % 4 then t - 1 - y / 8 % 4 else 0, by simp [-getElem?_neg, -getElem?_pos, List.getElem?_cons_zero, List.getElem?_cons_succ, evalS.eq_1, evalS.eq_2, evalS.eq_3, evalS.eq_4, evalS.eq_5, evalS.eq_6, evalS.eq_7, evalS.eq_8, evalS.eq_9, evalS.eq_10, evalS.eq_11, evalS.eq_12, evalS.eq_13, evalS.eq_14, evalS.eq_15, evalS.eq_16, evalE.eq_1, evalE.eq_2, evalE.eq_3, evalE.eq_4, evalE.eq_5, evalE.eq_6, evalE.eq_7, evalE.eq_8, evalE.eq_9, evalE.eq_10, evalE.eq_11, evalE.eq_12, evalE.eq_13, evalE.eq_14, evalE.eq_15, evalE.eq_16, evalE.eq_17, evalE.eq_18, evalE.eq_19, evalE.eq_20, evalE.eq_21, evalE.eq_22, evalE.eq_23, evalE.eq_24, evalE.eq_25, evalE.eq_26, evalE.eq_27, evalE.eq_28, evalE.eq_29, evalE.eq_30, evalE.eq_31, evalE.eq_32, evalE.eq_33, evalE.eq_34, evalE.eq_35, evalE.eq_36, evalEs.eq_1, evalEs.eq_2, evalL.eq_1, evalL.eq_2, evalL.eq_3, evalL.eq_4, evalL.eq_5, evalL.eq_6, evalL.eq_7, evalL.eq_8, evalL.eq_9, evalI.eq_1, evalI.eq_2, evalI.eq_3, evalI.eq_4, evalI.eq_5, evalI.eq_6, evalI.eq_7, evalI.eq_8, evalI.eq_9, evalI.eq_10, evalT, evalAnd.eq_1, evalOr.eq_1, evalH.eq_1, evalH.eq_2, handle, E.isNil, E.isNo, Val.isNon, truth, optI, x_lim, x_lim2, Ev.puts.eq_1, Ev.puts.eq_2, lvOf.eq_1, lvOf.eq_2, x_ofO_ite, x_bind_ite, x_toF_ite, x_fb_ite, x_fin_ite, j_ok, j_rt, j_nx, j_int, j_str, j_bl, j_cons, j_some, j_isNon, j_bl2, j_bl3, j_and, j_or, x_mod, x_fdv, x_pw, x_shr, x_mul, x_mulL, x_mulM, x_mulN]⟩
    obtain ⟨m, em⟩ := em
    have eL := el_lits (evs_cons (ev_non (cf := callN P (n+1)) (ρ := ρ) (S := A)) (evs_cons em evs_nil)) (by simp)
    have ei := ev_mod (ev_fdiv (v6 A) (ev_int 4) (by decide) (by decide)) (ev_int 2) (by decide)
    have h1 := Int.emod_nonneg (y / 4) (show (2 : Int) ≠ 0 by decide)
    have h2 := Int.emod_lt_of_pos (y / 4) (show (0 : Int) < 2 by decide)
    generalize y / 4 % 2 = z at *
    have : z = 0 ∨ z = 1 := by omega
    rcases this with rfl | rfl
    · exact ⟨none, ev_ixLt eL ei rfl⟩
    · exact ⟨some m, ev_ixLt eL ei rfl⟩
  obtain ⟨w, cw⟩ := cw
  obtain ⟨g, cg⟩ := cg
  have fin : ∀ d : SD, evalS P (callN P (n+1)) (.cons (.ite (.cmp .eq (.var 5) (.str "place")) (.cons (.ret (.tup (.cons (.var 5) (.cons (.var 7) (.cons (.var 8) .nil))))) .nil) .nil) (.cons (.ite (.cmp .eq (.var 5) (.str "word")) (.cons (.ret (.tup (.cons (.var 5) (.cons (.var 7) (.cons (.bin .mod (.bin .mul (.var 6) (.int 6364136223846793005)) (.bin .pow (.int 2) (.int 64))) .nil))))) .nil) .nil) (.cons (.ite (.cmp .eq (.var 5) (.str "load")) (.cons (.ret (.tup (.cons (.var 5) (.cons (.var 7) (.cons (.var 8) (.cons (.ixL (.llit (.cons .non (.cons (.bl2 .max (.int 0) (.bin .sub (.bin .sub (.var 7) (.int 1)) (.bin .mod (.bin .fdiv (.var 6) (.int 8)) (.int 4)))) .nil))) (.bin .mod (.bin .fdiv (.var 6) (.int 4)) (.int 2))) .nil)))))) .nil) .nil) (.cons (.ret (.tup (.cons (.var 5) (.cons (.var 7) .nil)))) .nil)))) ρ A = .rt d.val A → ∃ (d : SD) (T : Store), callN P (n+2) f_Ldeed [.ref nu, .ref r, .ref l, .int base, .int far] S = .ok d.val (S ++ T) := fun d h => by
    refine ⟨d, T, ?_⟩
    rw [hA, u_Ldeed]
    unfold b_Ldeed
    rw [hρ] at s4
    exact s_fin ((s_nx s1).trans ((s_nx s2).trans ((s_nx s3).trans ((s_nx s4).trans h)))) rfl
  have kc := fun s => kcmp k s (v5 A)
  rcases hk5 with rfl | rfl | rfl | rfl | rfl
  · exact fin (.store t) ((s_nx (es_off (kc "place"))).trans ((s_nx (es_off (kc "word"))).trans ((s_nx (es_off (kc "load"))).trans (es_one (es_ret (ev_tup (evs_cons (v5 A) (evs_cons (v7 A) evs_nil)) (by simp)))))))
  · exact fin (.place t p) (s_rt (es_hit (kc "place") (es_one (es_ret (ev_tup (evs_cons (v5 A) (evs_cons (v7 A) (evs_cons (v8 A) evs_nil))) (by simp))))))
  · exact fin (.word t w) ((s_nx (es_off (kc "place"))).trans (s_rt (es_hit (kc "word") (es_one (es_ret (ev_tup (evs_cons (v5 A) (evs_cons (v7 A) (evs_cons cw evs_nil))) (by simp)))))))
  · exact fin (.load t p g) ((s_nx (es_off (kc "place"))).trans ((s_nx (es_off (kc "word"))).trans (s_rt (es_hit (kc "load") (es_one (es_ret (ev_tup (evs_cons (v5 A) (evs_cons (v7 A) (evs_cons (v8 A) (evs_cons cg evs_nil)))) (by simp))))))))
  · exact fin (.leave t) ((s_nx (es_off (kc "place"))).trans ((s_nx (es_off (kc "word"))).trans ((s_nx (es_off (kc "load"))).trans (es_one (es_ret (ev_tup (evs_cons (v5 A) (evs_cons (v7 A) evs_nil)) (by simp)))))))
theorem spot_law {rs : List Sto} {r : Nat} {S : Store} (hr : S[r]? = some (.lst (rs.map Sto.val))) (b1 : rs.length ≤ 400) (d : SD) (base far num : Int) (n : Nat) : ∃ (a b : Int) (T : Store), callN P (n+1) f_Lspot [.ref r, d.val, .int base, .int far, .int num] S = .ok (.tup [.int a, .int b]) (S ++ T) := by
  have ca : evalL P (callN P n) (.lcomp [6] true [6] (.iof (.lof (.var 0))) l_Lspot_0 l_Lspot_1) [some (.ref r), some d.val, some (.int base), some (.int far), some (.int num), none, none] S = .ok (.tmp ((rs.filter fun s => decide (d.t ≤ s.t) && !(oi s.p).isNon).map Sto.val)) S :=
    ev_flt Sto.val Sto.val (fun s => decide (d.t ≤ s.t) && !(oi s.p).isNon) (ev_var rfl) hr (by omega) (fun v => [some (.ref r), some d.val, some (.int base), some (.int far), some (.int num), none, some v]) (fun v => by simp [Ev.wipe]) rfl (fun x => ev_and2 (ev_geI (first_at _ x.t _ rfl (ev_var rfl)) (dt d (ev_var rfl))) (fun _ => ev_notN (ev_ixn (j := 1) (xs := [.int x.t, oi x.p, oi x.w]) (ev_var rfl) rfl))) (fun x => ev_var rfl)
  have s1 : evalS P (callN P n) (.asg (.name 5) (.list (.lcomp [6] true [6] (.iof (.lof (.var 0))) l_Lspot_0 l_Lspot_1))) [some (.ref r), some d.val, some (.int base), some (.int far), some (.int num), none, none] S = .nx [some (.ref r), some d.val, some (.int base), some (.int far), some (.int num), some (.ref S.length), none] (S ++ [.lst ((rs.filter fun s => decide (d.t ≤ s.t) && !(oi s.p).isNon).map Sto.val)]) := es_set (ev_list ca) rfl
  have s2 : ∃ (X : List Sto) (q : Nat) (T : Store), evalS P (callN P n) (.ite (.cmp .eq (.bl1 .len (.var 5)) (.int 0)) (.cons (.asg (.name 5) (.list (.lcomp [6] true [6] (.iof (.lof (.var 0))) l_Lspot_2 l_Lspot_3))) .nil) .nil) [some (.ref r), some d.val, some (.int base), some (.int far), some (.int num), some (.ref S.length), none] (S ++ [.lst ((rs.filter fun s => decide (d.t ≤ s.t) && !(oi s.p).isNon).map Sto.val)]) = .nx [some (.ref r), some d.val, some (.int base), some (.int far), some (.int num), some (.ref q), none] (S ++ T) ∧ (S ++ T)[q]? = some (.lst (X.map Sto.val)) ∧ ∀ s ∈ X, (oi s.p).isNon = false := by
    have hAo : (S ++ [Ob.lst ((rs.filter fun s => decide (d.t ≤ s.t) && !(oi s.p).isNon).map Sto.val)])[S.length]? = some (.lst ((rs.filter fun s => decide (d.t ≤ s.t) && !(oi s.p).isNon).map Sto.val)) := by simp
    have el := ev_lenl (cf := callN P n) (a := .var 5) (ρ := [some (.ref r), some d.val, some (.int base), some (.int far), some (.int num), some (.ref S.length), none]) (ev_var rfl) hAo
    have c0 := ev_eqI el (ev_int 0)
    by_cases z : ((((rs.filter fun s => decide (d.t ≤ s.t) && !(oi s.p).isNon).map Sto.val).length : Nat) : Int) = 0
    · rw [decide_eq_true z] at c0
      have hAr : (S ++ [Ob.lst ((rs.filter fun s => decide (d.t ≤ s.t) && !(oi s.p).isNon).map Sto.val)])[r]? = some (.lst (rs.map Sto.val)) := x_old hr
      have cb := ev_flt (cf := callN P n) (tg := [6]) (own := [6]) (ρ := [some (.ref r), some d.val, some (.int base), some (.int far), some (.int num), some (.ref S.length), none]) (a := .var 0) (c := l_Lspot_2) (e := l_Lspot_3) Sto.val Sto.val (fun s => !(oi s.p).isNon) (ev_var rfl) hAr (by omega) (fun v => [some (.ref r), some d.val, some (.int base), some (.int far), some (.int num), some (.ref S.length), some v]) (fun v => by simp [Ev.wipe]) rfl (fun x => ev_notN (ev_ixn (j := 1) (xs := [.int x.t, oi x.p, oi x.w]) (ev_var rfl) rfl)) (fun x => ev_var rfl)
      refine ⟨rs.filter fun s => !(oi s.p).isNon, (S ++ [Ob.lst ((rs.filter fun s => decide (d.t ≤ s.t) && !(oi s.p).isNon).map Sto.val)]).length, [.lst ((rs.filter fun s => decide (d.t ≤ s.t) && !(oi s.p).isNon).map Sto.val), .lst ((rs.filter fun s => !(oi s.p).isNon).map Sto.val)], ?_, by simp, fun s hs => by simpa using (List.mem_filter.mp hs).2⟩
      have := es_hit (y := .nil) c0 (es_one (es_set (i := 5) (ρ1 := [some (.ref r), some d.val, some (.int base), some (.int far), some (.int num), some (.ref (S ++ [Ob.lst ((rs.filter fun s => decide (d.t ≤ s.t) && !(oi s.p).isNon).map Sto.val)]).length), none]) (ev_list cb) rfl))
      rw [this]; simp
    · rw [decide_eq_false z] at c0
      exact ⟨_, S.length, _, es_off c0, hAo, fun s hs => by have := (List.mem_filter.mp hs).2; simp only [Bool.and_eq_true, Bool.not_eq_true'] at this; exact this.2⟩
  obtain ⟨X, q, T, s2, hq, hX⟩ := s2
  obtain ⟨B, hB⟩ : ∃ B, S ++ T = B := ⟨_, rfl⟩
  rw [hB] at s2 hq
  have el := ev_lenl (cf := callN P n) (a := .var 5) (ρ := [some (.ref r), some d.val, some (.int base), some (.int far), some (.int num), some (.ref q), none]) (ev_var rfl) hq
  rw [List.length_map] at el
  have c1 := ev_or2 (ev_eqI el (ev_int 0)) (ev_eqI (ev_mod (ev_var (i := 4) (v := .int num) rfl) (ev_int 5) (by decide)) (ev_int 0))
  cases X with
  | nil =>
    refine ⟨base + num / 5 % 40, far + num / 200 % 4, T, ?_⟩
    rw [hB, u_Lspot]
    unfold b_Lspot
    exact s_fin ((s_nx s1).trans ((s_nx s2).trans (s_rt (es_hit c1 (es_one (es_ret (ev_tup (evs_cons (ev_add (ev_var rfl) (ev_mod (ev_fdiv (ev_var rfl) (ev_int 5) (by decide) (by decide)) (ev_int 40) (by decide))) (evs_cons (ev_add (ev_var rfl) (ev_mod (ev_fdiv (ev_var rfl) (ev_int 200) (by decide) (by decide)) (ev_int 4) (by decide))) evs_nil)) (by simp)))))))) rfl
  | cons s X =>
    have e0 : decide ((((s :: X).length : Nat) : Int) = 0) = false := by simp; omega
    rw [e0, Bool.false_or] at c1
    by_cases z : num % 5 = 0
    · rw [decide_eq_true z] at c1
      refine ⟨base + num / 5 % 40, far + num / 200 % 4, T, ?_⟩
      rw [hB, u_Lspot]
      unfold b_Lspot
      exact s_fin ((s_nx s1).trans ((s_nx s2).trans (s_rt (es_hit c1 (es_one (es_ret (ev_tup (evs_cons (ev_add (ev_var rfl) (ev_mod (ev_fdiv (ev_var rfl) (ev_int 5) (by decide) (by decide)) (ev_int 40) (by decide))) (evs_cons (ev_add (ev_var rfl) (ev_mod (ev_fdiv (ev_var rfl) (ev_int 200) (by decide) (by decide)) (ev_int 4) (by decide))) evs_nil)) (by simp)))))))) rfl
    · rw [decide_eq_false z] at c1
      have hs := hX s (by simp)
      obtain ⟨p, hp⟩ : ∃ p, s.p = some p := by
        cases w : s.p with
        | none => rw [w] at hs; simp [oi, Val.isNon] at hs
        | some p => exact ⟨p, rfl⟩
      have hat : MP.atI ((s :: X).map Sto.val) 0 = some s.val := by show MP.atI _ ((0 : Nat) : Int) = _; rw [at_nat]; rfl
      have g0 : evalE P (callN P n) (.ix (.var 5) (.int 0)) [some (.ref r), some d.val, some (.int base), some (.int far), some (.int num), some (.ref q), none] B = .ok s.val B := ev_ixl (i := 0) (ev_var rfl) (ev_int 0) hq hat
      have g1 : evalE P (callN P n) (.ix (.ix (.var 5) (.int 0)) (.int 1)) [some (.ref r), some d.val, some (.int base), some (.int far), some (.int num), some (.ref q), none] B = .ok (.int p) B := by
        have := ev_ixn (j := 1) (xs := [.int s.t, oi s.p, oi s.w]) (v := oi s.p) g0 rfl
        rw [hp] at this; exact this
      refine ⟨s.t + 1 + num / 5 % 3, p, T, ?_⟩
      rw [hB, u_Lspot]
      unfold b_Lspot
      exact s_fin ((s_nx s1).trans ((s_nx s2).trans ((s_nx (es_off c1)).trans (es_one (es_ret (ev_tup (evs_cons (ev_add (ev_add (first_at _ s.t _ rfl g0) (ev_int 1)) (ev_mod (ev_fdiv (ev_var rfl) (ev_int 5) (by decide) (by decide)) (ev_int 3) (by decide))) (evs_cons g1 evs_nil)) (by simp))))))) rfl
theorem dueO (t p : Int) (d : Bool) (a0 v0 : Option Val) (u : Val) (s : Sto) (n : Nat) (S : Store) : evalS P (callN P n) l_Ldue_0 [a0, some (.tup [.int t, .int p]), some (.bl d), some u, some (.int s.t), some (oi s.p), some (oi s.w)] S = .nx [a0, some (.tup [.int t, .int p]), some (.bl d), some ((lookO t p d s).getD u), some (.int s.t), some (oi s.p), some (oi s.w)] S := by
  obtain ⟨st, sp, sw⟩ := s
  by_cases h1 : t ≤ st
  · have h1' : ¬ st < t := by omega
    simp only [lookO, if_pos h1, Option.getD_none]
    simp [-getElem?_neg, -getElem?_pos, List.getElem?_cons_zero, List.getElem?_cons_succ, evalS.eq_1, evalS.eq_2, evalS.eq_3, evalS.eq_4, evalS.eq_5, evalS.eq_6, evalS.eq_7, evalS.eq_8, evalS.eq_9, evalS.eq_10, evalS.eq_11, evalS.eq_12, evalS.eq_13, evalS.eq_14, evalS.eq_15, evalS.eq_16, evalE.eq_1, evalE.eq_2, evalE.eq_3, evalE.eq_4, evalE.eq_5, evalE.eq_6, evalE.eq_7, evalE.eq_8, evalE.eq_9, evalE.eq_10, evalE.eq_11, evalE.eq_12, evalE.eq_13, evalE.eq_14, evalE.eq_15, evalE.eq_16, evalE.eq_17, evalE.eq_18, evalE.eq_19, evalE.eq_20, evalE.eq_21, evalE.eq_22, evalE.eq_23, evalE.eq_24, evalE.eq_25, evalE.eq_26, evalE.eq_27, evalE.eq_28, evalE.eq_29, evalE.eq_30, evalE.eq_31, evalE.eq_32, evalE.eq_33, evalE.eq_34, evalE.eq_35, evalE.eq_36, evalEs.eq_1, evalEs.eq_2, evalL.eq_1, evalL.eq_2, evalL.eq_3, evalL.eq_4, evalL.eq_5, evalL.eq_6, evalL.eq_7, evalL.eq_8, evalL.eq_9, evalI.eq_1, evalI.eq_2, evalI.eq_3, evalI.eq_4, evalI.eq_5, evalI.eq_6, evalI.eq_7, evalI.eq_8, evalI.eq_9, evalI.eq_10, evalT, evalAnd.eq_1, evalOr.eq_1, evalH.eq_1, evalH.eq_2, handle, E.isNil, E.isNo, Val.isNon, truth, optI, x_lim, x_lim2, Ev.puts.eq_1, Ev.puts.eq_2, lvOf.eq_1, lvOf.eq_2, x_ofO_ite, x_bind_ite, x_toF_ite, x_fb_ite, x_fin_ite, j_ok, j_rt, j_nx, j_int, j_str, j_bl, j_cons, j_some, j_isNon, j_bl2, j_bl3, j_and, j_or, x_mod, x_fdv, x_pw, x_shr, x_mul, x_mulL, x_mulM, x_mulN, l_Ldue_0, h1']
  · have h1' : st < t := by omega
    cases sp with
    | none =>
      cases d with
      | true =>
        simp only [lookO, if_neg h1, if_true, Option.getD_none]
        simp [-getElem?_neg, -getElem?_pos, List.getElem?_cons_zero, List.getElem?_cons_succ, evalS.eq_1, evalS.eq_2, evalS.eq_3, evalS.eq_4, evalS.eq_5, evalS.eq_6, evalS.eq_7, evalS.eq_8, evalS.eq_9, evalS.eq_10, evalS.eq_11, evalS.eq_12, evalS.eq_13, evalS.eq_14, evalS.eq_15, evalS.eq_16, evalE.eq_1, evalE.eq_2, evalE.eq_3, evalE.eq_4, evalE.eq_5, evalE.eq_6, evalE.eq_7, evalE.eq_8, evalE.eq_9, evalE.eq_10, evalE.eq_11, evalE.eq_12, evalE.eq_13, evalE.eq_14, evalE.eq_15, evalE.eq_16, evalE.eq_17, evalE.eq_18, evalE.eq_19, evalE.eq_20, evalE.eq_21, evalE.eq_22, evalE.eq_23, evalE.eq_24, evalE.eq_25, evalE.eq_26, evalE.eq_27, evalE.eq_28, evalE.eq_29, evalE.eq_30, evalE.eq_31, evalE.eq_32, evalE.eq_33, evalE.eq_34, evalE.eq_35, evalE.eq_36, evalEs.eq_1, evalEs.eq_2, evalL.eq_1, evalL.eq_2, evalL.eq_3, evalL.eq_4, evalL.eq_5, evalL.eq_6, evalL.eq_7, evalL.eq_8, evalL.eq_9, evalI.eq_1, evalI.eq_2, evalI.eq_3, evalI.eq_4, evalI.eq_5, evalI.eq_6, evalI.eq_7, evalI.eq_8, evalI.eq_9, evalI.eq_10, evalT, evalAnd.eq_1, evalOr.eq_1, evalH.eq_1, evalH.eq_2, handle, E.isNil, E.isNo, Val.isNon, truth, optI, x_lim, x_lim2, Ev.puts.eq_1, Ev.puts.eq_2, lvOf.eq_1, lvOf.eq_2, x_ofO_ite, x_bind_ite, x_toF_ite, x_fb_ite, x_fin_ite, j_ok, j_rt, j_nx, j_int, j_str, j_bl, j_cons, j_some, j_isNon, j_bl2, j_bl3, j_and, j_or, x_mod, x_fdv, x_pw, x_shr, x_mul, x_mulL, x_mulM, x_mulN, l_Ldue_0, oi, h1', vEq_ni]
      | false =>
        simp only [lookO, if_neg h1, Bool.false_eq_true, if_false, Option.getD_some]
        simp [-getElem?_neg, -getElem?_pos, List.getElem?_cons_zero, List.getElem?_cons_succ, evalS.eq_1, evalS.eq_2, evalS.eq_3, evalS.eq_4, evalS.eq_5, evalS.eq_6, evalS.eq_7, evalS.eq_8, evalS.eq_9, evalS.eq_10, evalS.eq_11, evalS.eq_12, evalS.eq_13, evalS.eq_14, evalS.eq_15, evalS.eq_16, evalE.eq_1, evalE.eq_2, evalE.eq_3, evalE.eq_4, evalE.eq_5, evalE.eq_6, evalE.eq_7, evalE.eq_8, evalE.eq_9, evalE.eq_10, evalE.eq_11, evalE.eq_12, evalE.eq_13, evalE.eq_14, evalE.eq_15, evalE.eq_16, evalE.eq_17, evalE.eq_18, evalE.eq_19, evalE.eq_20, evalE.eq_21, evalE.eq_22, evalE.eq_23, evalE.eq_24, evalE.eq_25, evalE.eq_26, evalE.eq_27, evalE.eq_28, evalE.eq_29, evalE.eq_30, evalE.eq_31, evalE.eq_32, evalE.eq_33, evalE.eq_34, evalE.eq_35, evalE.eq_36, evalEs.eq_1, evalEs.eq_2, evalL.eq_1, evalL.eq_2, evalL.eq_3, evalL.eq_4, evalL.eq_5, evalL.eq_6, evalL.eq_7, evalL.eq_8, evalL.eq_9, evalI.eq_1, evalI.eq_2, evalI.eq_3, evalI.eq_4, evalI.eq_5, evalI.eq_6, evalI.eq_7, evalI.eq_8, evalI.eq_9, evalI.eq_10, evalT, evalAnd.eq_1, evalOr.eq_1, evalH.eq_1, evalH.eq_2, handle, E.isNil, E.isNo, Val.isNon, truth, optI, x_lim, x_lim2, Ev.puts.eq_1, Ev.puts.eq_2, lvOf.eq_1, lvOf.eq_2, x_ofO_ite, x_bind_ite, x_toF_ite, x_fb_ite, x_fin_ite, j_ok, j_rt, j_nx, j_int, j_str, j_bl, j_cons, j_some, j_isNon, j_bl2, j_bl3, j_and, j_or, x_mod, x_fdv, x_pw, x_shr, x_mul, x_mulL, x_mulM, x_mulN, l_Ldue_0, oi, h1', vEq_ni]
    | some q =>
      by_cases h2 : q = p
      · simp only [lookO, if_neg h1, if_pos h2, Option.getD_some]
        cases sw with
        | none => simp [-getElem?_neg, -getElem?_pos, List.getElem?_cons_zero, List.getElem?_cons_succ, evalS.eq_1, evalS.eq_2, evalS.eq_3, evalS.eq_4, evalS.eq_5, evalS.eq_6, evalS.eq_7, evalS.eq_8, evalS.eq_9, evalS.eq_10, evalS.eq_11, evalS.eq_12, evalS.eq_13, evalS.eq_14, evalS.eq_15, evalS.eq_16, evalE.eq_1, evalE.eq_2, evalE.eq_3, evalE.eq_4, evalE.eq_5, evalE.eq_6, evalE.eq_7, evalE.eq_8, evalE.eq_9, evalE.eq_10, evalE.eq_11, evalE.eq_12, evalE.eq_13, evalE.eq_14, evalE.eq_15, evalE.eq_16, evalE.eq_17, evalE.eq_18, evalE.eq_19, evalE.eq_20, evalE.eq_21, evalE.eq_22, evalE.eq_23, evalE.eq_24, evalE.eq_25, evalE.eq_26, evalE.eq_27, evalE.eq_28, evalE.eq_29, evalE.eq_30, evalE.eq_31, evalE.eq_32, evalE.eq_33, evalE.eq_34, evalE.eq_35, evalE.eq_36, evalEs.eq_1, evalEs.eq_2, evalL.eq_1, evalL.eq_2, evalL.eq_3, evalL.eq_4, evalL.eq_5, evalL.eq_6, evalL.eq_7, evalL.eq_8, evalL.eq_9, evalI.eq_1, evalI.eq_2, evalI.eq_3, evalI.eq_4, evalI.eq_5, evalI.eq_6, evalI.eq_7, evalI.eq_8, evalI.eq_9, evalI.eq_10, evalT, evalAnd.eq_1, evalOr.eq_1, evalH.eq_1, evalH.eq_2, handle, E.isNil, E.isNo, Val.isNon, truth, optI, x_lim, x_lim2, Ev.puts.eq_1, Ev.puts.eq_2, lvOf.eq_1, lvOf.eq_2, x_ofO_ite, x_bind_ite, x_toF_ite, x_fb_ite, x_fin_ite, j_ok, j_rt, j_nx, j_int, j_str, j_bl, j_cons, j_some, j_isNon, j_bl2, j_bl3, j_and, j_or, x_mod, x_fdv, x_pw, x_shr, x_mul, x_mulL, x_mulM, x_mulN, l_Ldue_0, oi, h1', h2]
        | some w => simp [-getElem?_neg, -getElem?_pos, List.getElem?_cons_zero, List.getElem?_cons_succ, evalS.eq_1, evalS.eq_2, evalS.eq_3, evalS.eq_4, evalS.eq_5, evalS.eq_6, evalS.eq_7, evalS.eq_8, evalS.eq_9, evalS.eq_10, evalS.eq_11, evalS.eq_12, evalS.eq_13, evalS.eq_14, evalS.eq_15, evalS.eq_16, evalE.eq_1, evalE.eq_2, evalE.eq_3, evalE.eq_4, evalE.eq_5, evalE.eq_6, evalE.eq_7, evalE.eq_8, evalE.eq_9, evalE.eq_10, evalE.eq_11, evalE.eq_12, evalE.eq_13, evalE.eq_14, evalE.eq_15, evalE.eq_16, evalE.eq_17, evalE.eq_18, evalE.eq_19, evalE.eq_20, evalE.eq_21, evalE.eq_22, evalE.eq_23, evalE.eq_24, evalE.eq_25, evalE.eq_26, evalE.eq_27, evalE.eq_28, evalE.eq_29, evalE.eq_30, evalE.eq_31, evalE.eq_32, evalE.eq_33, evalE.eq_34, evalE.eq_35, evalE.eq_36, evalEs.eq_1, evalEs.eq_2, evalL.eq_1, evalL.eq_2, evalL.eq_3, evalL.eq_4, evalL.eq_5, evalL.eq_6, evalL.eq_7, evalL.eq_8, evalL.eq_9, evalI.eq_1, evalI.eq_2, evalI.eq_3, evalI.eq_4, evalI.eq_5, evalI.eq_6, evalI.eq_7, evalI.eq_8, evalI.eq_9, evalI.eq_10, evalT, evalAnd.eq_1, evalOr.eq_1, evalH.eq_1, evalH.eq_2, handle, E.isNil, E.isNo, Val.isNon, truth, optI, x_lim, x_lim2, Ev.puts.eq_1, Ev.puts.eq_2, lvOf.eq_1, lvOf.eq_2, x_ofO_ite, x_bind_ite, x_toF_ite, x_fb_ite, x_fin_ite, j_ok, j_rt, j_nx, j_int, j_str, j_bl, j_cons, j_some, j_isNon, j_bl2, j_bl3, j_and, j_or, x_mod, x_fdv, x_pw, x_shr, x_mul, x_mulL, x_mulM, x_mulN, l_Ldue_0, oi, h1', h2]
      · simp only [lookO, if_neg h1, if_neg h2, Option.getD_none]
        simp [-getElem?_neg, -getElem?_pos, List.getElem?_cons_zero, List.getElem?_cons_succ, evalS.eq_1, evalS.eq_2, evalS.eq_3, evalS.eq_4, evalS.eq_5, evalS.eq_6, evalS.eq_7, evalS.eq_8, evalS.eq_9, evalS.eq_10, evalS.eq_11, evalS.eq_12, evalS.eq_13, evalS.eq_14, evalS.eq_15, evalS.eq_16, evalE.eq_1, evalE.eq_2, evalE.eq_3, evalE.eq_4, evalE.eq_5, evalE.eq_6, evalE.eq_7, evalE.eq_8, evalE.eq_9, evalE.eq_10, evalE.eq_11, evalE.eq_12, evalE.eq_13, evalE.eq_14, evalE.eq_15, evalE.eq_16, evalE.eq_17, evalE.eq_18, evalE.eq_19, evalE.eq_20, evalE.eq_21, evalE.eq_22, evalE.eq_23, evalE.eq_24, evalE.eq_25, evalE.eq_26, evalE.eq_27, evalE.eq_28, evalE.eq_29, evalE.eq_30, evalE.eq_31, evalE.eq_32, evalE.eq_33, evalE.eq_34, evalE.eq_35, evalE.eq_36, evalEs.eq_1, evalEs.eq_2, evalL.eq_1, evalL.eq_2, evalL.eq_3, evalL.eq_4, evalL.eq_5, evalL.eq_6, evalL.eq_7, evalL.eq_8, evalL.eq_9, evalI.eq_1, evalI.eq_2, evalI.eq_3, evalI.eq_4, evalI.eq_5, evalI.eq_6, evalI.eq_7, evalI.eq_8, evalI.eq_9, evalI.eq_10, evalT, evalAnd.eq_1, evalOr.eq_1, evalH.eq_1, evalH.eq_2, handle, E.isNil, E.isNo, Val.isNon, truth, optI, x_lim, x_lim2, Ev.puts.eq_1, Ev.puts.eq_2, lvOf.eq_1, lvOf.eq_2, x_ofO_ite, x_bind_ite, x_toF_ite, x_fb_ite, x_fin_ite, j_ok, j_rt, j_nx, j_int, j_str, j_bl, j_cons, j_some, j_isNon, j_bl2, j_bl3, j_and, j_or, x_mod, x_fdv, x_pw, x_shr, x_mul, x_mulL, x_mulM, x_mulN, l_Ldue_0, oi, h1', h2]
theorem due_fold (t p : Int) (d : Bool) : ∀ (ss : List Sto) (u : Val), ss.foldl (fun u s => (lookO t p d s).getD u) u = match ss.reverse.findSome? (lookO t p d) with | some v => v | none => u
  | [], u => rfl
  | s :: r, u => by
    rw [List.foldl_cons, due_fold t p d r, List.reverse_cons, List.findSome?_append]
    cases e : r.reverse.findSome? (lookO t p d) with
    | some v => simp
    | none =>
      simp only [Option.none_or, List.findSome?_cons, List.findSome?_nil]
      cases lookO t p d s <;> rfl
theorem due_ok (ss : List Sto) (r : Nat) (t p : Int) (d : Bool) (S : Store) (h : S[r]? = some (.lst (ss.map Sto.val))) (n : Nat) : callN P (n+1) f_Ldue [.ref r, .tup [.int t, .int p], .bl d] S = .ok (lookV ss t p d) S := by
  obtain ⟨ρ', S', r1, a, b, c, hρ, hS⟩ := for_lst (P := P) (cf := callN P n) (e := .var 0) (u := l_Ldue_0) (tg := [4, 5, 6]) (one := false) (xs := ss.map Sto.val) (q := r) (ρ := [some (.ref r), some (.tup [.int t, .int p]), some (.bl d), some (.tup [.non, .non]), none, none, none]) (S := S) (S1 := S) (ev_var rfl)
    (fun i ρ S' => ∃ a b c, ρ = [some (.ref r), some (.tup [.int t, .int p]), some (.bl d), some ((ss.take i).foldl (fun u s => (lookO t p d s).getD u) (.tup [.non, .non])), a, b, c] ∧ S' = S) (fun i ρ S' ⟨_, _, _, _, q⟩ => by rw [q]; exact x_lst h) (fun i ρ S' hi ⟨a, b, c, q1, q2⟩ => by
      subst q1; subst q2
      have hi : i < ss.length := by simpa using hi
      refine ⟨[some (.ref r), some (.tup [.int t, .int p]), some (.bl d), some ((ss.take i).foldl (fun u s => (lookO t p d s).getD u) (.tup [.non, .non])), some (.int ss[i].t), some (oi ss[i].p), some (oi ss[i].w)], _, _, by simp [Sto.val, Ev.puts], .of (dueO t p d _ none _ ss[i] n S'), some (.int ss[i].t), some (oi ss[i].p), some (oi ss[i].w), ?_, rfl⟩
      rw [take_snoc hi, List.foldl_append]
      rfl) ⟨none, none, none, rfl, rfl⟩
  subst hρ; subst hS
  rw [List.length_map, List.take_length] at r1
  rw [due_fold] at r1
  rw [u_Ldue]
  unfold b_Ldue
  have s1 : evalS P (callN P n) (.asg (.name 3) (.tup (.cons .non (.cons .non .nil)))) [some (.ref r), some (.tup [.int t, .int p]), some (.bl d), none, none, none, none] S' = .nx [some (.ref r), some (.tup [.int t, .int p]), some (.bl d), some (.tup [.non, .non]), none, none, none] S' := es_set (ev_tup (evs_cons ev_non (evs_cons ev_non evs_nil)) (by simp)) rfl
  exact s_fin ((s_nx s1).trans ((s_nx r1).trans (es_one (es_ret (ev_var rfl))))) rfl
theorem look_flat (ss : List Sto) (t p : Int) (d : Bool) : flatN 1 (lookV ss t p d) = true := by
  rcases look_kind ss t p d with z | z | ⟨k, w, z⟩ <;> rw [z] <;> rfl
theorem looks_ok {c col o rs l0 S} (h : IsShelf c col o rs l0 S) (r : Nat) (hr : S[r]? = some (.lst (rs.map Sto.val))) (t p : Int) (d : Bool) (n : Nat) : callN P (n+3) f_Llooks [.ref o, .ref r, .tup [.int t, .int p], .bl d] S = .ok (.bl true) S := by
  have e1 := fun d => due_ok rs r t p d S hr (n+1)
  have e2 := fun d => shelf_look h t p d (n+1)
  have e3 := fun d => alike_flat 1 _ (look_flat rs t p d) n S
  obtain ⟨A, B, h'⟩ := h
  have ho := h'.ho
  have el : evalL P (callN P (n+2)) (.llit (.cons (.var 3) (.cons (.not (.var 3)) .nil))) [some (.ref o), some (.ref r), some (.tup [.int t, .int p]), some (.bl d), none] S = .ok (.tmp [.bl d, .bl (!d)]) S := el_lits (evs_cons (ev_var rfl) (evs_cons (ev_not (ev_var rfl)) evs_nil)) (by simp)
  obtain ⟨ρ', S', r1, a, hρ, hS⟩ := for_tmp (u := l_Llooks_0) (tg := [4]) (one := true) el (fun i ρ S' => ∃ a, ρ = [some (.ref o), some (.ref r), some (.tup [.int t, .int p]), some (.bl d), a] ∧ S' = S) (fun i ρ S' hi ⟨a, q1, q2⟩ => by
    subst q1; subst q2
    have hb : ∃ b, [Val.bl d, .bl (!d)][i] = .bl b := by
      have hi : i < 2 := hi
      have : i = 0 ∨ i = 1 := by omega
      rcases this with rfl | rfl
      · exact ⟨_, rfl⟩
      · exact ⟨_, rfl⟩
    obtain ⟨b, hb⟩ := hb
    refine ⟨[some (.ref o), some (.ref r), some (.tup [.int t, .int p]), some (.bl d), some (.bl b)], [some (.ref o), some (.ref r), some (.tup [.int t, .int p]), some (.bl d), some (.bl b)], S', by rw [hb]; rfl, .of ?_, _, rfl, rfl⟩
    have c1 : evalE P (callN P (n+2)) (.not (.call f_Lalike (.cons (.meth (.var 0) M_look (.cons (.ix (.var 2) (.int 0)) (.cons (.ix (.var 2) (.int 1)) (.cons (.var 4) .nil))) 0) (.cons (.call f_Ldue (.cons (.var 1) (.cons (.var 2) (.cons (.var 4) .nil))) 0) .nil)) 0)) [some (.ref o), some (.ref r), some (.tup [.int t, .int p]), some (.bl d), some (.bl b)] S' = .ok (.bl false) S' :=
      ev_not (t := true) (ev_call (k := 0) (evs_cons (ev_meth (k := 0) (ev_var rfl) ho rfl (evs_cons (ev_ixn (j := 0) (xs := [.int t, .int p]) (ev_var rfl) rfl) (evs_cons (ev_ixn (j := 1) (xs := [.int t, .int p]) (ev_var rfl) rfl) (evs_cons (ev_var rfl) evs_nil))) (e2 b)) (evs_cons (ev_call (k := 0) (evs_cons (ev_var rfl) (evs_cons (ev_var rfl) (evs_cons (ev_var rfl) evs_nil))) (e1 b)) evs_nil)) (e3 b))
    unfold l_Llooks_0
    exact es_one (es_off c1)) ⟨none, rfl, rfl⟩
  subst hρ; subst hS
  rw [u_Llooks]
  unfold b_Llooks
  exact s_fin ((s_nx r1).trans (es_one (es_ret (ev_bl true)))) rfl
theorem flat_sto (rs : List Sto) : ∀ x ∈ rs.map Sto.val, flatN 1 x = true := fun x hx => by
  obtain ⟨s, _, rfl⟩ := List.mem_map.mp hx
  obtain ⟨t, p, w⟩ := s
  cases p <;> cases w <;> rfl
theorem flat_lod (rs : List Lod) : ∀ x ∈ rs.map Lod.val, flatN 1 x = true := fun x hx => by
  obtain ⟨s, _, rfl⟩ := List.mem_map.mp hx
  obtain ⟨t, p, g⟩ := s
  cases g <;> rfl
theorem alike_l (xs : List Val) (l m : Nat) (S : Store) (hl : S[l]? = some (.lst xs)) (hm : S[m]? = some (.lst xs)) (hx : ∀ x ∈ xs, flatN 1 x = true) (n : Nat) : callN P (n+3) f_Lalike [.ref l, .ref m] S = .ok (.bl true) S :=
  alike_lst 2 xs l m S hl hm (fun x h n S => alike_flat 1 x (hx x h) n S) n
theorem told_ok {c col o rs l0 ls r l S} (h : Lw c col o rs l0 ls r l S) (n : Nat) : ∃ T, callN P (n+4) f_Ltold [.ref o, .tup [.ref r, .ref l]] S = .ok (.bl true) (S ++ T) := by
  obtain ⟨A0, B0, h0⟩ := id h.sh
  have g1 := shelf_stores h.sh (n+2)
  have lwF := h.frame (Stp.app (C := fun _ => False) [.lst (rs.map Sto.val)] 0) (by simp) (by simp)
  have hF : (S ++ [Ob.lst (rs.map Sto.val)])[S.length]? = some (.lst (rs.map Sto.val)) := by simp
  obtain ⟨F, hFF⟩ : ∃ F, S ++ [Ob.lst (rs.map Sto.val)] = F := ⟨_, rfl⟩
  rw [hFF] at g1 lwF hF
  obtain ⟨AA', BB', hshF⟩ := id lwF.sh
  have g2 := shelf_loads lwF.sh (n+1)
  rw [sort_asc lwF.al lwF.pm] at g2
  have lwG := lwF.frame (Stp.app (C := fun _ => False) [.lst (ls.map Lod.val)] 0) (by simp) (by simp)
  have hG : (F ++ [Ob.lst (ls.map Lod.val)])[F.length]? = some (.lst (ls.map Lod.val)) := by simp
  have hGG : S ++ [Ob.lst (rs.map Sto.val), .lst (ls.map Lod.val)] = F ++ [Ob.lst (ls.map Lod.val)] := by rw [← hFF]; simp
  refine ⟨[Ob.lst (rs.map Sto.val), .lst (ls.map Lod.val)], ?_⟩
  rw [hGG]
  have a1 := alike_l (rs.map Sto.val) S.length r F hF lwF.hr (flat_sto rs) n
  have a2 := alike_l (ls.map Lod.val) F.length l _ hG lwG.hl (flat_lod ls) n
  rw [u_Ltold]
  unfold b_Ltold
  exact s_fin (es_one (es_ret (ev_and_t (ev_call (k := 0) (evs_cons (ev_meth (k := 0) (ev_var rfl) h0.ho rfl evs_nil g1) (evs_cons (ev_ixn (j := 0) (xs := [.ref r, .ref l]) (ev_var rfl) rfl) evs_nil)) a1) (ev_and_1 (ev_call (k := 0) (evs_cons (ev_meth (k := 0) (ev_var rfl) hshF.ho rfl evs_nil g2) (evs_cons (ev_ixn (j := 1) (xs := [.ref r, .ref l]) (ev_var rfl) rfl) evs_nil)) a2))))) rfl
theorem es_subl {cf : Nat → List Val → Store → R Val} {a o i : E} {ρ : Ev} {S : Store} {v : Val} {l : Nat} {xs : List Val} {k : Int} {q : Nat} (h1 : evalE P cf a ρ S = .ok v S) (h2 : evalE P cf o ρ S = .ok (.ref l) S) (h3 : evalE P cf i ρ S = .ok (.int k) S) (hl : S[l]? = some (.lst xs)) (hk : ixOf xs.length k = some q) : evalS P cf (.asg (.sub o i) a) ρ S = .nx ρ (S.set l (.lst (xs.set q v))) := by
  simp only [evalS, h1, x_toF_ok, evalT, h2, h3, setSub, hl, hk, Option.map_some, Store.put]
def P2 (w : Nat) (a b : Val) : List Val := if w = 0 then [a, b] else [b, a]
theorem p2_at {w : Nat} (hw : w < 2) (a b : Val) : MP.atI (P2 w a b) (w : Int) = some a := by
  have : w = 0 ∨ w = 1 := by omega
  rcases this with rfl | rfl <;> simp [P2]
theorem p2_ot {w : Nat} (hw : w < 2) (a b : Val) : MP.atI (P2 w a b) (1 - (w : Int)) = some b := by
  have : w = 0 ∨ w = 1 := by omega
  rcases this with rfl | rfl <;> simp [P2]
theorem p2_set {w : Nat} (hw : w < 2) (a b x : Val) : (P2 w a b).set w x = P2 w x b := by
  have : w = 0 ∨ w = 1 := by omega
  rcases this with rfl | rfl <;> simp [P2]
theorem p2_len {w : Nat} (a b : Val) : (P2 w a b).length = 2 := by unfold P2; split <;> rfl
/-- one of the two shelves: its place, its stores, its loads, the law's lists -/
structure One where
  c : Nat
  o : Nat
  rs : List Sto
  l0 : List Lod
  ls : List Lod
  r : Nat
  l : Nat
def One.Lw (q : One) (col : Nat → Nat) (S : Store) : Prop := LW.Lw q.c col q.o q.rs q.l0 q.ls q.r q.l S
structure Two (sh pr w : Nat) (a b : One) (col : Nat → Nat) (S : Store) : Prop where
  ha : a.Lw col S
  hb : b.Lw col S
  hs : S[sh]? = some (.lst (P2 w (.ref a.o) (.ref b.o)))
  cs : col sh = 0
  hp : S[pr]? = some (.lst (P2 w (.tup [.ref a.r, .ref a.l]) (.tup [.ref b.r, .ref b.l])))
  cp : col pr = 3
theorem Two.frame {C sh pr w a b col S col' S'} (h : Two sh pr w a b col S) (st : Stp C col S col' S') (h1 : ¬ C a.c) (h2 : ¬ C b.c) (h0 : ¬ C 0) (h3 : ¬ C 3) : Two sh pr w a b col' S' :=
  ⟨LW.Lw.frame h.ha st h1 h0, LW.Lw.frame h.hb st h2 h0, (st.at_ h.hs h.cs h0).1, (st.at_ h.hs h.cs h0).2, (st.at_ h.hp h.cp h3).1, (st.at_ h.hp h.cp h3).2⟩
theorem Two.other {sh pr a b col S} {w w' : Nat} (hw : w < 2) (hw' : w' = 1 - w) (h : Two sh pr w a b col S) : Two sh pr w' b a col S := by
  have e : ∀ a b, P2 w a b = P2 w' b a := fun a b => by
    have : w = 0 ∨ w = 1 := by omega
    rcases this with rfl | rfl <;> subst hw' <;> simp [P2]
  exact ⟨h.hb, h.ha, by rw [← e]; exact h.hs, h.cs, by rw [← e]; exact h.hp, h.cp⟩
theorem mixed_ok (c k b p : Int) (h0 : 0 ≤ k) (hk : k ≤ 400) (hb : 0 ≤ b ∧ b ≤ 1000000) (hp : 0 < p) (n : Nat) (S : Store) : ∃ x, callN P (n+1) f_Lmixed [.int c, .int k, .int b, .int p] S = .ok (.int x) S ∧ 0 ≤ x := by
  have em : ∀ i, binopS .mod (.int i) (.int p) S = .ok (.int (i % p)) S := fun i => x_mod hp
  have eb : ∀ i, binopS .mul (.int i) (.int b) S = .ok (.int (i * b)) S := fun i => x_mul_r (small_of (by omega) (by omega))
  refine ⟨(c % 100000000000000000000 + k * k + 1) * b % p, ?_, Int.emod_nonneg _ (by omega)⟩
  rw [u_Lmixed]
  simp [-getElem?_neg, -getElem?_pos, List.getElem?_cons_zero, List.getElem?_cons_succ, evalS.eq_1, evalS.eq_2, evalS.eq_3, evalS.eq_4, evalS.eq_5, evalS.eq_6, evalS.eq_7, evalS.eq_8, evalS.eq_9, evalS.eq_10, evalS.eq_11, evalS.eq_12, evalS.eq_13, evalS.eq_14, evalS.eq_15, evalS.eq_16, evalE.eq_1, evalE.eq_2, evalE.eq_3, evalE.eq_4, evalE.eq_5, evalE.eq_6, evalE.eq_7, evalE.eq_8, evalE.eq_9, evalE.eq_10, evalE.eq_11, evalE.eq_12, evalE.eq_13, evalE.eq_14, evalE.eq_15, evalE.eq_16, evalE.eq_17, evalE.eq_18, evalE.eq_19, evalE.eq_20, evalE.eq_21, evalE.eq_22, evalE.eq_23, evalE.eq_24, evalE.eq_25, evalE.eq_26, evalE.eq_27, evalE.eq_28, evalE.eq_29, evalE.eq_30, evalE.eq_31, evalE.eq_32, evalE.eq_33, evalE.eq_34, evalE.eq_35, evalE.eq_36, evalEs.eq_1, evalEs.eq_2, evalL.eq_1, evalL.eq_2, evalL.eq_3, evalL.eq_4, evalL.eq_5, evalL.eq_6, evalL.eq_7, evalL.eq_8, evalL.eq_9, evalI.eq_1, evalI.eq_2, evalI.eq_3, evalI.eq_4, evalI.eq_5, evalI.eq_6, evalI.eq_7, evalI.eq_8, evalI.eq_9, evalI.eq_10, evalT, evalAnd.eq_1, evalOr.eq_1, evalH.eq_1, evalH.eq_2, handle, E.isNil, E.isNo, Val.isNon, truth, optI, x_lim, x_lim2, Ev.puts.eq_1, Ev.puts.eq_2, lvOf.eq_1, lvOf.eq_2, x_ofO_ite, x_bind_ite, x_toF_ite, x_fb_ite, x_fin_ite, j_ok, j_rt, j_nx, j_int, j_str, j_bl, j_cons, j_some, j_isNon, j_bl2, j_bl3, j_and, j_or, x_mod, x_fdv, x_pw, x_shr, x_mul, x_mulL, x_mulM, x_mulN, b_Lmixed, x_mul_l (small_of (i := k) (by omega) (by omega)), em, eb]
theorem turn_ok {sh pr w a b col S} (h : Two sh pr w a b col S) (hw : w < 2) (ha0 : a.c ≠ 0) (ha3 : a.c ≠ 3) (hb0 : b.c ≠ 0) (hb3 : b.c ≠ 3) (hab : a.c ≠ b.c) (i : Nat) (hi : i < 63) (l1 : a.rs.length ≤ i) (l2 : a.ls.length ≤ i) (base far c x y : Int) (e1 : callN P 9 f_Lmixed [.int c, .int (i : Int), .int 48271, .int 2147483647] S = .ok (.int x) S) (e2 : callN P 9 f_Lmixed [.int c, .int (i : Int), .int 69621, .int 2147483629] S = .ok (.int y) S) (hx : x % 2 = (w : Int)) (a7 a8 a9 a10 a11 : Option Val) :
    ∃ S' col' a' b7 b8 b9 b10 b11, evalS P (callN P 9) l_law_0 [some (.ref 0), some (.int base), some (.int far), some (.ref sh), some (.ref pr), some (.int (i : Int)), some (.int c), a7, a8, a9, a10, a11] S = .nx [some (.ref 0), some (.int base), some (.int far), some (.ref sh), some (.ref pr), some (.int (i : Int)), some (.int c), b7, b8, b9, b10, b11] S' ∧ Two sh pr w a' b col' S' ∧ a'.c = a.c ∧ a'.rs.length ≤ i + 1 ∧ a'.ls.length ≤ i + 1 ∧ Stp (fun q => q = a.c ∨ q = 3) col S col' S' := by
  obtain ⟨ac, ao, ars, al0, als, ar, al⟩ := a
  obtain ⟨bc, bo, brs, bl0, bls, br, bl⟩ := b
  simp only at ha0 ha3 hb0 hb3 hab l1 l2
  -- the numbers
  obtain ⟨nu, hnu⟩ : ∃ nu, S.length = nu := ⟨_, rfl⟩
  have s1 : evalS P (callN P 9) (.asg (.name 7) (.list (.llit (.cons (.call f_Lmixed (.cons (.var 6) (.cons (.var 5) (.cons (.int 48271) (.cons (.int 2147483647) .nil)))) 0) (.cons (.call f_Lmixed (.cons (.var 6) (.cons (.var 5) (.cons (.int 69621) (.cons (.int 2147483629) .nil)))) 0) .nil))))) [some (.ref 0), some (.int base), some (.int far), some (.ref sh), some (.ref pr), some (.int (i : Int)), some (.int c), a7, a8, a9, a10, a11] S = .nx [some (.ref 0), some (.int base), some (.int far), some (.ref sh), some (.ref pr), some (.int (i : Int)), some (.int c), some (.ref nu), a8, a9, a10, a11] (S ++ [.lst [.int x, .int y]]) :=
    es_set (ev_list (el_lits (evs_cons (ev_call (k := 0) (evs_cons (ev_var rfl) (evs_cons (ev_var rfl) (evs_cons (ev_int _) (evs_cons (ev_int _) evs_nil)))) e1) (evs_cons (ev_call (k := 0) (evs_cons (ev_var rfl) (evs_cons (ev_var rfl) (evs_cons (ev_int _) (evs_cons (ev_int _) evs_nil)))) e2) evs_nil)) (by simp))) (by rw [hnu]; rfl)
  have stA : Stp (fun _ => False) col S (paint col S.length 0) (S ++ [.lst [.int x, .int y]]) := Stp.app _ 0
  have twA := h.frame stA (by simp) (by simp) (by simp) (by simp)
  have hnA : (S ++ [Ob.lst [.int x, .int y]])[nu]? = some (.lst [.int x, .int y]) := by rw [← hnu]; simp
  have cnA : paint col S.length 0 nu = 0 := by rw [← hnu]; exact paint_new (Nat.le_refl _)
  obtain ⟨A, hA⟩ : ∃ A, S ++ [Ob.lst [.int x, .int y]] = A := ⟨_, rfl⟩
  rw [hA] at s1 stA twA hnA
  generalize paint col S.length 0 = colA at *
  have s2 : evalS P (callN P 9) (.asg (.name 8) (.bin .mod (.ix (.var 7) (.int 0)) (.int 2))) [some (.ref 0), some (.int base), some (.int far), some (.ref sh), some (.ref pr), some (.int (i : Int)), some (.int c), some (.ref nu), a8, a9, a10, a11] A = .nx [some (.ref 0), some (.int base), some (.int far), some (.ref sh), some (.ref pr), some (.int (i : Int)), some (.int c), some (.ref nu), some (.int (w : Int)), a9, a10, a11] A := by
    refine es_set (ev_mod (ev_ixl (ev_var rfl) (ev_int 0) hnA (v := .int x) (by rfl)) (ev_int 2) (by decide)) ?_
    rw [hx]; rfl
  -- the deed
  have p0 : ∀ (X : Store) (ρ : Ev) (u : Val), X[pr]? = some (.lst (P2 w (.tup [.ref ar, .ref al]) u)) → ρ[4]? = some (some (.ref pr)) → ρ[8]? = some (some (.int (w : Int))) → evalE P (callN P 9) (.ix (.ix (.var 4) (.var 8)) (.int 0)) ρ X = .ok (.ref ar) X ∧ evalE P (callN P 9) (.ix (.ix (.var 4) (.var 8)) (.int 1)) ρ X = .ok (.ref al) X := fun X ρ u hX h4 h8 => by
    have g := ev_ixl (cf := callN P 9) (ev_var (S := X) h4) (ev_var h8) hX (p2_at hw _ _)
    exact ⟨ev_ixn (j := 0) (xs := [.ref ar, .ref al]) g rfl, ev_ixn (j := 1) (xs := [.ref ar, .ref al]) g rfl⟩
  have q0 : ∀ (X : Store) (ρ : Ev) (u v : Val), X[sh]? = some (.lst (P2 w u v)) → ρ[3]? = some (some (.ref sh)) → ρ[8]? = some (some (.int (w : Int))) → evalE P (callN P 9) (.ix (.var 3) (.var 8)) ρ X = .ok u X := fun X ρ u v hX h4 h8 => ev_ixl (cf := callN P 9) (ev_var (S := X) h4) (ev_var h8) hX (p2_at hw _ _)
  obtain ⟨d, T1, e3⟩ := deed_ok twA.ha.hr twA.ha.hl (by simp only; omega) (by simp only; omega) nu x y hnA base far 7
  have stB : Stp (fun _ => False) colA A (paint colA A.length 0) (A ++ T1) := Stp.app _ 0
  have twB := twA.frame stB (by simp) (by simp) (by simp) (by simp)
  have nB := stB.at_ hnA cnA (by simp)
  obtain ⟨B, hB⟩ : ∃ B, A ++ T1 = B := ⟨_, rfl⟩
  rw [hB] at e3 stB twB nB
  generalize paint colA A.length 0 = colB at *
  have s3 : evalS P (callN P 9) (.asg (.name 9) (.call f_Ldeed (.cons (.var 7) (.cons (.ix (.ix (.var 4) (.var 8)) (.int 0)) (.cons (.ix (.ix (.var 4) (.var 8)) (.int 1)) (.cons (.var 1) (.cons (.var 2) .nil))))) 0)) [some (.ref 0), some (.int base), some (.int far), some (.ref sh), some (.ref pr), some (.int (i : Int)), some (.int c), some (.ref nu), some (.int (w : Int)), a9, a10, a11] A = .nx [some (.ref 0), some (.int base), some (.int far), some (.ref sh), some (.ref pr), some (.int (i : Int)), some (.int c), some (.ref nu), some (.int (w : Int)), some d.val, a10, a11] B :=
    es_set (ev_call (k := 0) (evs_cons (ev_var rfl) (evs_cons (p0 A _ _ twA.hp rfl rfl).1 (evs_cons (p0 A _ _ twA.hp rfl rfl).2 (evs_cons (ev_var rfl) (evs_cons (ev_var rfl) evs_nil))))) e3) rfl
  -- the spot
  obtain ⟨t, p, T2, e4⟩ := spot_law twB.ha.hr (by simp only; omega) d base far (y / 7) 8
  have stC : Stp (fun _ => False) colB B (paint colB B.length 0) (B ++ T2) := Stp.app _ 0
  have twC := twB.frame stC (by simp) (by simp) (by simp) (by simp)
  have nC := stC.at_ nB.1 nB.2 (by simp)
  obtain ⟨D, hD⟩ : ∃ D, B ++ T2 = D := ⟨_, rfl⟩
  rw [hD] at e4 stC twC nC
  generalize paint colB B.length 0 = colC at *
  have s4 : evalS P (callN P 9) (.asg (.name 10) (.call f_Lspot (.cons (.ix (.ix (.var 4) (.var 8)) (.int 0)) (.cons (.var 9) (.cons (.var 1) (.cons (.var 2) (.cons (.bin .fdiv (.ix (.var 7) (.int 1)) (.int 7)) .nil))))) 0)) [some (.ref 0), some (.int base), some (.int far), some (.ref sh), some (.ref pr), some (.int (i : Int)), some (.int c), some (.ref nu), some (.int (w : Int)), some d.val, a10, a11] B = .nx [some (.ref 0), some (.int base), some (.int far), some (.ref sh), some (.ref pr), some (.int (i : Int)), some (.int c), some (.ref nu), some (.int (w : Int)), some d.val, some (.tup [.int t, .int p]), a11] D :=
    es_set (ev_call (k := 0) (evs_cons (p0 B _ _ twB.hp rfl rfl).1 (evs_cons (ev_var rfl) (evs_cons (ev_var rfl) (evs_cons (ev_var rfl) (evs_cons (ev_fdiv (ev_ixl (ev_var rfl) (ev_int 1) nB.1 (v := .int y) (by rfl)) (ev_int 7) (by decide) (by decide)) evs_nil))))) e4) rfl
  -- the looks ahead
  have e5 := fun q => looks_ok twC.ha.sh _ twC.ha.hr t p q 6
  have c5 : evalE P (callN P 9) (.not (.call f_Llooks (.cons (.ix (.var 3) (.var 8)) (.cons (.ix (.ix (.var 4) (.var 8)) (.int 0)) (.cons (.var 10) (.cons (.cmp .eq (.bin .mod (.var 5) (.int 2)) (.int 0)) .nil)))) 0)) [some (.ref 0), some (.int base), some (.int far), some (.ref sh), some (.ref pr), some (.int (i : Int)), some (.int c), some (.ref nu), some (.int (w : Int)), some d.val, some (.tup [.int t, .int p]), a11] D = .ok (.bl false) D :=
    ev_not (t := true) (ev_call (k := 0) (evs_cons (q0 D _ _ _ twC.hs rfl rfl) (evs_cons (p0 D _ _ twC.hp rfl rfl).1 (evs_cons (ev_var rfl) (evs_cons (ev_eqI (ev_mod (ev_var rfl) (ev_int 2) (by decide)) (ev_int 0)) evs_nil)))) (e5 _))
  -- the step
  obtain ⟨S', col', rs', l0', ls', r', l', e6, lwE, stE, k1, k2⟩ := stepped_ok twC.ha ha0 d i l1 l2 (by omega) nu x y nC.1 4
  have bE : (One.mk bc bo brs bl0 bls br bl).Lw col' S' := LW.Lw.frame twC.hb stE (fun z => hab z.symm) (fun z => ha0 z.symm)
  have hsE := stE.at_ twC.hs twC.cs (fun z => ha0 z.symm)
  have hpE := stE.at_ twC.hp twC.cp (fun z => ha3 z.symm)
  have s6 : evalS P (callN P 9) (.asg (.name 11) (.call f_Lstepped (.cons (.ix (.var 3) (.var 8)) (.cons (.ix (.ix (.var 4) (.var 8)) (.int 0)) (.cons (.ix (.ix (.var 4) (.var 8)) (.int 1)) (.cons (.var 7) (.cons (.var 9) .nil))))) 0)) [some (.ref 0), some (.int base), some (.int far), some (.ref sh), some (.ref pr), some (.int (i : Int)), some (.int c), some (.ref nu), some (.int (w : Int)), some d.val, some (.tup [.int t, .int p]), a11] D = .nx [some (.ref 0), some (.int base), some (.int far), some (.ref sh), some (.ref pr), some (.int (i : Int)), some (.int c), some (.ref nu), some (.int (w : Int)), some d.val, some (.tup [.int t, .int p]), some (.tup [.ref r', .ref l'])] S' :=
    es_set (ev_call (k := 0) (evs_cons (q0 D _ _ _ twC.hs rfl rfl) (evs_cons (p0 D _ _ twC.hp rfl rfl).1 (evs_cons (p0 D _ _ twC.hp rfl rfl).2 (evs_cons (ev_var rfl) (evs_cons (ev_var rfl) evs_nil))))) e6) rfl
  -- told
  obtain ⟨T3, e7⟩ := told_ok lwE 5
  have stF : Stp (fun _ => False) col' S' (paint col' S'.length 0) (S' ++ T3) := Stp.app _ 0
  have lwF := LW.Lw.frame lwE stF (by simp) (by simp)
  have bF : (One.mk bc bo brs bl0 bls br bl).Lw (paint col' S'.length 0) (S' ++ T3) := LW.Lw.frame bE stF (by simp) (by simp)
  have hsF := stF.at_ hsE.1 hsE.2 (by simp)
  have hpF := stF.at_ hpE.1 hpE.2 (by simp)
  obtain ⟨F, hF⟩ : ∃ F, S' ++ T3 = F := ⟨_, rfl⟩
  rw [hF] at e7 stF lwF bF hsF hpF
  generalize paint col' S'.length 0 = colF at *
  obtain ⟨ρ, hρ⟩ : ∃ ρ : Ev, [some (.ref 0), some (.int base), some (.int far), some (.ref sh), some (.ref pr), some (.int (i : Int)), some (.int c), some (.ref nu), some (.int (w : Int)), some d.val, some (.tup [.int t, .int p]), some (.tup [.ref r', .ref l'])] = ρ := ⟨_, rfl⟩
  have v3 : ρ[3]? = some (some (.ref sh)) := by rw [← hρ]; rfl
  have v4 : ρ[4]? = some (some (.ref pr)) := by rw [← hρ]; rfl
  have v5 : ρ[5]? = some (some (.int (i : Int))) := by rw [← hρ]; rfl
  have v8 : ρ[8]? = some (some (.int (w : Int))) := by rw [← hρ]; rfl
  have v10 : ρ[10]? = some (some (.tup [.int t, .int p])) := by rw [← hρ]; rfl
  have v11 : ρ[11]? = some (some (.tup [.ref r', .ref l'])) := by rw [← hρ]; rfl
  rw [hρ] at s6
  have c7 : evalE P (callN P 9) (.or (.cons (.isN (.var 11)) (.cons (.not (.call f_Ltold (.cons (.ix (.var 3) (.var 8)) (.cons (.var 11) .nil)) 0)) .nil))) ρ S' = .ok (.bl false) F :=
    ev_or_f (ev_isN (v := .tup [.ref r', .ref l']) (ev_var v11)) (ev_or_1 (ev_not (t := true) (ev_call (k := 0) (evs_cons (q0 S' _ _ _ hsE.1 v3 v8) (evs_cons (ev_var v11) evs_nil)) e7)))
  -- the looks behind
  have e8 := fun q => looks_ok lwF.sh _ lwF.hr t p q 6
  have c8 : evalE P (callN P 9) (.not (.call f_Llooks (.cons (.ix (.var 3) (.var 8)) (.cons (.ix (.var 11) (.int 0)) (.cons (.var 10) (.cons (.cmp .eq (.bin .mod (.var 5) (.int 3)) (.int 0)) .nil)))) 0)) ρ F = .ok (.bl false) F :=
    ev_not (t := true) (ev_call (k := 0) (evs_cons (q0 F _ _ _ hsF.1 v3 v8) (evs_cons (ev_ixn (j := 0) (xs := [.ref r', .ref l']) (ev_var v11) rfl) (evs_cons (ev_var v10) (evs_cons (ev_eqI (ev_mod (ev_var v5) (ev_int 3) (by decide)) (ev_int 0)) evs_nil)))) (e8 _))
  -- the law's book
  have s9 := es_subl (cf := callN P 9) (a := .var 11) (o := .var 4) (i := .var 8) (ρ := ρ) (S := F) (ev_var v11) (ev_var v4) (ev_var v8) hpF.1 (by rw [p2_len]; exact ix_nat hw)
  rw [p2_set hw] at s9
  have stG : Stp (fun q => q = ac ∨ q = 3) colF F colF (F.set pr (.lst (P2 w (.tup [.ref r', .ref l']) (.tup [.ref br, .ref bl])))) := Stp.set _ (.inr hpF.2)
  have stG' : Stp (fun q => q = 3) colF F colF (F.set pr (.lst (P2 w (.tup [.ref r', .ref l']) (.tup [.ref br, .ref bl])))) := Stp.set _ hpF.2
  have lwG := LW.Lw.frame lwF stG' ha3 (by decide)
  have bG : (One.mk bc bo brs bl0 bls br bl).Lw colF _ := LW.Lw.frame bF stG' hb3 (by decide)
  have hsG := stG'.at_ hsF.1 hsF.2 (by decide)
  have hpG : (F.set pr (.lst (P2 w (.tup [.ref r', .ref l']) (.tup [.ref br, .ref bl]))))[pr]? = some (.lst (P2 w (.tup [.ref r', .ref l']) (.tup [.ref br, .ref bl]))) := x_set_at hpF.1
  obtain ⟨G, hG⟩ : ∃ G, F.set pr (.lst (P2 w (.tup [.ref r', .ref l']) (.tup [.ref br, .ref bl]))) = G := ⟨_, rfl⟩
  rw [hG] at s9 stG stG' lwG bG hsG hpG
  -- the other one
  obtain ⟨T4, e10⟩ := told_ok (show LW.Lw bc colF bo brs bl0 bls br bl G from bG) 5
  have d8 : evalE P (callN P 9) (.bin .sub (.int 1) (.var 8)) ρ G = .ok (.int (1 - (w : Int))) G := ev_sub (ev_int 1) (ev_var v8)
  have c10 : evalE P (callN P 9) (.not (.call f_Ltold (.cons (.ix (.var 3) (.bin .sub (.int 1) (.var 8))) (.cons (.ix (.var 4) (.bin .sub (.int 1) (.var 8))) .nil)) 0)) ρ G = .ok (.bl false) (G ++ T4) :=
    ev_not (t := true) (ev_call (k := 0) (evs_cons (ev_ixl (ev_var v3) d8 hsG.1 (p2_ot hw _ _)) (evs_cons (ev_ixl (ev_var v4) d8 hpG (p2_ot hw _ _)) evs_nil)) e10)
  have stH : Stp (fun _ => False) colF G (paint colF G.length 0) (G ++ T4) := Stp.app _ 0
  have tw : Two sh pr w ⟨ac, ao, rs', l0', ls', r', l'⟩ ⟨bc, bo, brs, bl0, bls, br, bl⟩ colF G := ⟨lwG, bG, hsG.1, hsG.2, hpG, hpF.2⟩
  have f : ∀ q, (fun _ => False) q → (fun q => q = ac ∨ q = 3) q := fun q z => z.elim
  refine ⟨G ++ T4, paint colF G.length 0, ⟨ac, ao, rs', l0', ls', r', l'⟩, some (.ref nu), some (.int (w : Int)), some d.val, some (.tup [.int t, .int p]), some (.tup [.ref r', .ref l']), ?_, tw.frame stH (by simp) (by simp) (by simp) (by simp), rfl, k1, k2, ?_⟩
  · rw [hρ]
    unfold l_law_0
    exact (s_nx s1).trans ((s_nx s2).trans ((s_nx s3).trans ((s_nx s4).trans ((s_nx (es_off c5)).trans ((s_nx s6).trans ((s_nx (es_off c7)).trans ((s_nx (es_off c8)).trans ((s_nx s9).trans (es_one (es_off c10))))))))))
  · exact ((((((stA.mono f).trans (stB.mono f)).trans (stC.mono f)).trans (stE.mono (fun q z => .inl z))).trans (stF.mono f)).trans stG).trans (stH.mono f)
theorem shelf_init (S : Store) (col : Nat → Nat) (c : Nat) (n : Nat) (cf : Nat → List Val → Store → R Val) (hcf : cf = callN P (n+1)) (ρ : Ev) : ∃ T, evalE P cf (.new C_Shelf .nil 0) ρ S = .ok (.ref S.length) (S ++ T) ∧ IsShelf c (paint col S.length c) S.length [] [] (S ++ T) := by
  subst hcf
  refine ⟨[.ins C_Shelf [(F_kept_stores, .ref (S.length + 1)), (F_kept_loads, .ref (S.length + 2))], .lst [], .lst []], ?_, S.length + 1, S.length + 2, by simp, by simp, by simp, paint_new (by omega), paint_new (by omega), paint_new (by omega), by omega, by simp, by simp⟩
  have e : callN P (n+1) f_Shelf___init__ [.ref S.length] (S ++ [.ins C_Shelf []]) = .ok .non (S ++ [.ins C_Shelf [(F_kept_stores, .ref (S.length + 1)), (F_kept_loads, .ref (S.length + 2))], .lst [], .lst []]) := by
    rw [u_Shelf___init__]
    simp [-getElem?_neg, -getElem?_pos, List.getElem?_cons_zero, List.getElem?_cons_succ, evalS.eq_1, evalS.eq_2, evalS.eq_3, evalS.eq_4, evalS.eq_5, evalS.eq_6, evalS.eq_7, evalS.eq_8, evalS.eq_9, evalS.eq_10, evalS.eq_11, evalS.eq_12, evalS.eq_13, evalS.eq_14, evalS.eq_15, evalS.eq_16, evalE.eq_1, evalE.eq_2, evalE.eq_3, evalE.eq_4, evalE.eq_5, evalE.eq_6, evalE.eq_7, evalE.eq_8, evalE.eq_9, evalE.eq_10, evalE.eq_11, evalE.eq_12, evalE.eq_13, evalE.eq_14, evalE.eq_15, evalE.eq_16, evalE.eq_17, evalE.eq_18, evalE.eq_19, evalE.eq_20, evalE.eq_21, evalE.eq_22, evalE.eq_23, evalE.eq_24, evalE.eq_25, evalE.eq_26, evalE.eq_27, evalE.eq_28, evalE.eq_29, evalE.eq_30, evalE.eq_31, evalE.eq_32, evalE.eq_33, evalE.eq_34, evalE.eq_35, evalE.eq_36, evalEs.eq_1, evalEs.eq_2, evalL.eq_1, evalL.eq_2, evalL.eq_3, evalL.eq_4, evalL.eq_5, evalL.eq_6, evalL.eq_7, evalL.eq_8, evalL.eq_9, evalI.eq_1, evalI.eq_2, evalI.eq_3, evalI.eq_4, evalI.eq_5, evalI.eq_6, evalI.eq_7, evalI.eq_8, evalI.eq_9, evalI.eq_10, evalT, evalAnd.eq_1, evalOr.eq_1, evalH.eq_1, evalH.eq_2, handle, E.isNil, E.isNo, Val.isNon, truth, optI, x_lim, x_lim2, Ev.puts.eq_1, Ev.puts.eq_2, lvOf.eq_1, lvOf.eq_2, x_ofO_ite, x_bind_ite, x_toF_ite, x_fb_ite, x_fin_ite, j_ok, j_rt, j_nx, j_int, j_str, j_bl, j_cons, j_some, j_isNon, j_bl2, j_bl3, j_and, j_or, x_mod, x_fdv, x_pw, x_shr, x_mul, x_mulL, x_mulM, x_mulN, b_Shelf___init__, setFld.eq_1, Store.put, fput]
  simp [-getElem?_neg, -getElem?_pos, List.getElem?_cons_zero, List.getElem?_cons_succ, evalS.eq_1, evalS.eq_2, evalS.eq_3, evalS.eq_4, evalS.eq_5, evalS.eq_6, evalS.eq_7, evalS.eq_8, evalS.eq_9, evalS.eq_10, evalS.eq_11, evalS.eq_12, evalS.eq_13, evalS.eq_14, evalS.eq_15, evalS.eq_16, evalE.eq_1, evalE.eq_2, evalE.eq_3, evalE.eq_4, evalE.eq_5, evalE.eq_6, evalE.eq_7, evalE.eq_8, evalE.eq_9, evalE.eq_10, evalE.eq_11, evalE.eq_12, evalE.eq_13, evalE.eq_14, evalE.eq_15, evalE.eq_16, evalE.eq_17, evalE.eq_18, evalE.eq_19, evalE.eq_20, evalE.eq_21, evalE.eq_22, evalE.eq_23, evalE.eq_24, evalE.eq_25, evalE.eq_26, evalE.eq_27, evalE.eq_28, evalE.eq_29, evalE.eq_30, evalE.eq_31, evalE.eq_32, evalE.eq_33, evalE.eq_34, evalE.eq_35, evalE.eq_36, evalEs.eq_1, evalEs.eq_2, evalL.eq_1, evalL.eq_2, evalL.eq_3, evalL.eq_4, evalL.eq_5, evalL.eq_6, evalL.eq_7, evalL.eq_8, evalL.eq_9, evalI.eq_1, evalI.eq_2, evalI.eq_3, evalI.eq_4, evalI.eq_5, evalI.eq_6, evalI.eq_7, evalI.eq_8, evalI.eq_9, evalI.eq_10, evalT, evalAnd.eq_1, evalOr.eq_1, evalH.eq_1, evalH.eq_2, handle, E.isNil, E.isNo, Val.isNon, truth, optI, x_lim, x_lim2, Ev.puts.eq_1, Ev.puts.eq_2, lvOf.eq_1, lvOf.eq_2, x_ofO_ite, x_bind_ite, x_toF_ite, x_fb_ite, x_fin_ite, j_ok, j_rt, j_nx, j_int, j_str, j_bl, j_cons, j_some, j_isNon, j_bl2, j_bl3, j_and, j_or, x_mod, x_fdv, x_pw, x_shr, x_mul, x_mulL, x_mulM, x_mulN, e]
theorem cell_ok (ns : List Int) (S : Store) (h0 : S[0]? = some (.fro (ns.map .int))) (k : Nat) (hk : k ≤ 1) (n : Nat) : ∃ c, callN P (n+1) f_Lcell_at [.ref 0, .int (k : Int)] S = .ok (.int c) S := by
  rw [u_Lcell_at]
  by_cases z : k < ns.length
  · have z1 : ((k : Int) < (ns.length : Int)) := by omega
    have e : MP.atI (ns.map Val.int) (k : Int) = some (.int ns[k]) := by rw [at_nat]; simp [z]
    generalize (k : Int) = ki at *
    exact ⟨ns[k], by simp [-getElem?_neg, -getElem?_pos, List.getElem?_cons_zero, List.getElem?_cons_succ, evalS.eq_1, evalS.eq_2, evalS.eq_3, evalS.eq_4, evalS.eq_5, evalS.eq_6, evalS.eq_7, evalS.eq_8, evalS.eq_9, evalS.eq_10, evalS.eq_11, evalS.eq_12, evalS.eq_13, evalS.eq_14, evalS.eq_15, evalS.eq_16, evalE.eq_1, evalE.eq_2, evalE.eq_3, evalE.eq_4, evalE.eq_5, evalE.eq_6, evalE.eq_7, evalE.eq_8, evalE.eq_9, evalE.eq_10, evalE.eq_11, evalE.eq_12, evalE.eq_13, evalE.eq_14, evalE.eq_15, evalE.eq_16, evalE.eq_17, evalE.eq_18, evalE.eq_19, evalE.eq_20, evalE.eq_21, evalE.eq_22, evalE.eq_23, evalE.eq_24, evalE.eq_25, evalE.eq_26, evalE.eq_27, evalE.eq_28, evalE.eq_29, evalE.eq_30, evalE.eq_31, evalE.eq_32, evalE.eq_33, evalE.eq_34, evalE.eq_35, evalE.eq_36, evalEs.eq_1, evalEs.eq_2, evalL.eq_1, evalL.eq_2, evalL.eq_3, evalL.eq_4, evalL.eq_5, evalL.eq_6, evalL.eq_7, evalL.eq_8, evalL.eq_9, evalI.eq_1, evalI.eq_2, evalI.eq_3, evalI.eq_4, evalI.eq_5, evalI.eq_6, evalI.eq_7, evalI.eq_8, evalI.eq_9, evalI.eq_10, evalT, evalAnd.eq_1, evalOr.eq_1, evalH.eq_1, evalH.eq_2, handle, E.isNil, E.isNo, Val.isNon, truth, optI, x_lim, x_lim2, Ev.puts.eq_1, Ev.puts.eq_2, lvOf.eq_1, lvOf.eq_2, x_ofO_ite, x_bind_ite, x_toF_ite, x_fb_ite, x_fin_ite, j_ok, j_rt, j_nx, j_int, j_str, j_bl, j_cons, j_some, j_isNon, j_bl2, j_bl3, j_and, j_or, x_mod, x_fdv, x_pw, x_shr, x_mul, x_mulL, x_mulM, x_mulN, b_Lcell_at, h0, z1, e]⟩
  · have z1 : ¬ ((k : Int) < (ns.length : Int)) := by omega
    generalize (k : Int) = ki at *
    exact ⟨0, by simp [-getElem?_neg, -getElem?_pos, List.getElem?_cons_zero, List.getElem?_cons_succ, evalS.eq_1, evalS.eq_2, evalS.eq_3, evalS.eq_4, evalS.eq_5, evalS.eq_6, evalS.eq_7, evalS.eq_8, evalS.eq_9, evalS.eq_10, evalS.eq_11, evalS.eq_12, evalS.eq_13, evalS.eq_14, evalS.eq_15, evalS.eq_16, evalE.eq_1, evalE.eq_2, evalE.eq_3, evalE.eq_4, evalE.eq_5, evalE.eq_6, evalE.eq_7, evalE.eq_8, evalE.eq_9, evalE.eq_10, evalE.eq_11, evalE.eq_12, evalE.eq_13, evalE.eq_14, evalE.eq_15, evalE.eq_16, evalE.eq_17, evalE.eq_18, evalE.eq_19, evalE.eq_20, evalE.eq_21, evalE.eq_22, evalE.eq_23, evalE.eq_24, evalE.eq_25, evalE.eq_26, evalE.eq_27, evalE.eq_28, evalE.eq_29, evalE.eq_30, evalE.eq_31, evalE.eq_32, evalE.eq_33, evalE.eq_34, evalE.eq_35, evalE.eq_36, evalEs.eq_1, evalEs.eq_2, evalL.eq_1, evalL.eq_2, evalL.eq_3, evalL.eq_4, evalL.eq_5, evalL.eq_6, evalL.eq_7, evalL.eq_8, evalL.eq_9, evalI.eq_1, evalI.eq_2, evalI.eq_3, evalI.eq_4, evalI.eq_5, evalI.eq_6, evalI.eq_7, evalI.eq_8, evalI.eq_9, evalI.eq_10, evalT, evalAnd.eq_1, evalOr.eq_1, evalH.eq_1, evalH.eq_2, handle, E.isNil, E.isNo, Val.isNon, truth, optI, x_lim, x_lim2, Ev.puts.eq_1, Ev.puts.eq_2, lvOf.eq_1, lvOf.eq_2, x_ofO_ite, x_bind_ite, x_toF_ite, x_fb_ite, x_fin_ite, j_ok, j_rt, j_nx, j_int, j_str, j_bl, j_cons, j_some, j_isNon, j_bl2, j_bl3, j_and, j_or, x_mod, x_fdv, x_pw, x_shr, x_mul, x_mulL, x_mulM, x_mulN, b_Lcell_at, h0, z1]⟩
theorem far_ok (S : Store) (c0 c1 : Int) (e0 : callN P 9 f_Lcell_at [.ref 0, .int 0] S = .ok (.int c0) S) (e1 : callN P 9 f_Lcell_at [.ref 0, .int 1] S = .ok (.int c1) S) : ∃ b f : Int, evalS P (callN P 9) (.cons (.asg (.name 1) (.int 0)) (.cons (.asg (.name 2) (.neg (.int 2))) (.cons (.ite (.cmp .eq (.bin .mod (.call f_Lcell_at (.cons (.var 0) (.cons (.int 0) .nil)) 0) (.int 3)) (.int 1)) (.cons (.asg (.name 1) (.bin .mod (.bin .fdiv (.call f_Lcell_at (.cons (.var 0) (.cons (.int 0) .nil)) 0) (.int 3)) (.bin .pow (.int 10) (.int 17)))) (.cons (.asg (.name 2) (.bin .sub (.bin .mod (.call f_Lcell_at (.cons (.var 0) (.cons (.int 1) .nil)) 0) (.bin .mul (.int 2) (.bin .pow (.int 10) (.int 50)))) (.bin .pow (.int 10) (.int 50)))) .nil)) .nil) .nil))) [some (.ref 0), none, none, none, none, none, none, none, none, none, none, none] S = .nx [some (.ref 0), some (.int b), some (.int f), none, none, none, none, none, none, none, none, none] S := by
  by_cases z : c0 % 3 = 1
  · exact ⟨c0 / 3 % 100000000000000000, c1 % 200000000000000000000000000000000000000000000000000 - 100000000000000000000000000000000000000000000000000, by simp [-getElem?_neg, -getElem?_pos, List.getElem?_cons_zero, List.getElem?_cons_succ, evalS.eq_1, evalS.eq_2, evalS.eq_3, evalS.eq_4, evalS.eq_5, evalS.eq_6, evalS.eq_7, evalS.eq_8, evalS.eq_9, evalS.eq_10, evalS.eq_11, evalS.eq_12, evalS.eq_13, evalS.eq_14, evalS.eq_15, evalS.eq_16, evalE.eq_1, evalE.eq_2, evalE.eq_3, evalE.eq_4, evalE.eq_5, evalE.eq_6, evalE.eq_7, evalE.eq_8, evalE.eq_9, evalE.eq_10, evalE.eq_11, evalE.eq_12, evalE.eq_13, evalE.eq_14, evalE.eq_15, evalE.eq_16, evalE.eq_17, evalE.eq_18, evalE.eq_19, evalE.eq_20, evalE.eq_21, evalE.eq_22, evalE.eq_23, evalE.eq_24, evalE.eq_25, evalE.eq_26, evalE.eq_27, evalE.eq_28, evalE.eq_29, evalE.eq_30, evalE.eq_31, evalE.eq_32, evalE.eq_33, evalE.eq_34, evalE.eq_35, evalE.eq_36, evalEs.eq_1, evalEs.eq_2, evalL.eq_1, evalL.eq_2, evalL.eq_3, evalL.eq_4, evalL.eq_5, evalL.eq_6, evalL.eq_7, evalL.eq_8, evalL.eq_9, evalI.eq_1, evalI.eq_2, evalI.eq_3, evalI.eq_4, evalI.eq_5, evalI.eq_6, evalI.eq_7, evalI.eq_8, evalI.eq_9, evalI.eq_10, evalT, evalAnd.eq_1, evalOr.eq_1, evalH.eq_1, evalH.eq_2, handle, E.isNil, E.isNo, Val.isNon, truth, optI, x_lim, x_lim2, Ev.puts.eq_1, Ev.puts.eq_2, lvOf.eq_1, lvOf.eq_2, x_ofO_ite, x_bind_ite, x_toF_ite, x_fb_ite, x_fin_ite, j_ok, j_rt, j_nx, j_int, j_str, j_bl, j_cons, j_some, j_isNon, j_bl2, j_bl3, j_and, j_or, x_mod, x_fdv, x_pw, x_shr, x_mul, x_mulL, x_mulM, x_mulN, e0, e1, z]⟩
  · exact ⟨0, -2, by simp [-getElem?_neg, -getElem?_pos, List.getElem?_cons_zero, List.getElem?_cons_succ, evalS.eq_1, evalS.eq_2, evalS.eq_3, evalS.eq_4, evalS.eq_5, evalS.eq_6, evalS.eq_7, evalS.eq_8, evalS.eq_9, evalS.eq_10, evalS.eq_11, evalS.eq_12, evalS.eq_13, evalS.eq_14, evalS.eq_15, evalS.eq_16, evalE.eq_1, evalE.eq_2, evalE.eq_3, evalE.eq_4, evalE.eq_5, evalE.eq_6, evalE.eq_7, evalE.eq_8, evalE.eq_9, evalE.eq_10, evalE.eq_11, evalE.eq_12, evalE.eq_13, evalE.eq_14, evalE.eq_15, evalE.eq_16, evalE.eq_17, evalE.eq_18, evalE.eq_19, evalE.eq_20, evalE.eq_21, evalE.eq_22, evalE.eq_23, evalE.eq_24, evalE.eq_25, evalE.eq_26, evalE.eq_27, evalE.eq_28, evalE.eq_29, evalE.eq_30, evalE.eq_31, evalE.eq_32, evalE.eq_33, evalE.eq_34, evalE.eq_35, evalE.eq_36, evalEs.eq_1, evalEs.eq_2, evalL.eq_1, evalL.eq_2, evalL.eq_3, evalL.eq_4, evalL.eq_5, evalL.eq_6, evalL.eq_7, evalL.eq_8, evalL.eq_9, evalI.eq_1, evalI.eq_2, evalI.eq_3, evalI.eq_4, evalI.eq_5, evalI.eq_6, evalI.eq_7, evalI.eq_8, evalI.eq_9, evalI.eq_10, evalT, evalAnd.eq_1, evalOr.eq_1, evalH.eq_1, evalH.eq_2, handle, E.isNil, E.isNo, Val.isNon, truth, optI, x_lim, x_lim2, Ev.puts.eq_1, Ev.puts.eq_2, lvOf.eq_1, lvOf.eq_2, x_ofO_ite, x_bind_ite, x_toF_ite, x_fb_ite, x_fin_ite, j_ok, j_rt, j_nx, j_int, j_str, j_bl, j_cons, j_some, j_isNon, j_bl2, j_bl3, j_and, j_or, x_mod, x_fdv, x_pw, x_shr, x_mul, x_mulL, x_mulM, x_mulN, e0, z]⟩
theorem law : src.law f_law DEP 63 := by
  intro ns hl
  show ∃ S, callN P (9 + 1) f_law [.ref 0] [.fro (ns.map .int)] = .ok (.bl true) S
  obtain ⟨S0, hS0⟩ : ∃ S0, ([.fro (ns.map .int)] : Store) = S0 := ⟨_, rfl⟩
  have h0 : S0[0]? = some (.fro (ns.map .int)) := by rw [← hS0]; rfl
  rw [hS0]
  obtain ⟨c0, e0⟩ := cell_ok ns S0 h0 0 (by decide) 8
  obtain ⟨c1, e1⟩ := cell_ok ns S0 h0 1 (by decide) 8
  obtain ⟨base, far, hf⟩ := far_ok S0 c0 c1 e0 e1
  have hlen0 : 0 < S0.length := x_low h0
  -- the shelves
  obtain ⟨T1, g1, sh1⟩ := shelf_init S0 (fun _ => 0) 1 8 (callN P 9) rfl [some (.ref 0), some (.int base), some (.int far), none, none, none, none, none, none, none, none, none]
  have hcz : paint (fun _ => 0) S0.length 1 0 = 0 := paint_old hlen0
  have hA0 : (S0 ++ T1)[0]? = some (.fro (ns.map .int)) := x_old h0
  obtain ⟨A, hA⟩ : ∃ A, S0 ++ T1 = A := ⟨_, rfl⟩
  rw [hA] at g1 sh1 hA0
  generalize paint (fun _ => 0) S0.length 1 = colA at *
  obtain ⟨oa, hoa⟩ : ∃ o, S0.length = o := ⟨_, rfl⟩
  rw [hoa] at g1 sh1
  obtain ⟨T2, g2, sh2⟩ := shelf_init A colA 2 8 (callN P 9) rfl [some (.ref 0), some (.int base), some (.int far), none, none, none, none, none, none, none, none, none]
  have stB : Stp (fun _ => False) colA A (paint colA A.length 2) (A ++ T2) := Stp.app _ 2
  have sh1 := sh1.frame stB (by simp)
  have hB0 := stB.at_ hA0 hcz (by simp)
  obtain ⟨B, hB⟩ : ∃ B, A ++ T2 = B := ⟨_, rfl⟩
  rw [hB] at g2 sh1 sh2 hB0
  generalize paint colA A.length 2 = colB at *
  obtain ⟨ob, hob⟩ : ∃ o, A.length = o := ⟨_, rfl⟩
  rw [hob] at g2 sh2
  have s3 : evalS P (callN P 9) (.asg (.name 3) (.list (.llit (.cons (.new C_Shelf .nil 0) (.cons (.new C_Shelf .nil 0) .nil))))) [some (.ref 0), some (.int base), some (.int far), none, none, none, none, none, none, none, none, none] S0 = .nx [some (.ref 0), some (.int base), some (.int far), some (.ref B.length), none, none, none, none, none, none, none, none] (B ++ [.lst [.ref oa, .ref ob]]) :=
    es_set (ev_list (el_lits (evs_cons g1 (evs_cons g2 evs_nil)) (by simp))) rfl
  have stC : Stp (fun _ => False) colB B (paint colB B.length 0) (B ++ [.lst [.ref oa, .ref ob]]) := Stp.app _ 0
  have sh1 := sh1.frame stC (by simp)
  have sh2 := sh2.frame stC (by simp)
  have hC0 := stC.at_ hB0.1 hB0.2 (by simp)
  have hCs : (B ++ [Ob.lst [.ref oa, .ref ob]])[B.length]? = some (.lst [.ref oa, .ref ob]) := by simp
  obtain ⟨sh, hsh⟩ : ∃ sh, B.length = sh := ⟨_, rfl⟩
  have cCs : paint colB B.length 0 sh = 0 := by rw [← hsh]; exact paint_new (Nat.le_refl _)
  rw [hsh] at s3 hCs
  obtain ⟨C, hC⟩ : ∃ C, B ++ [Ob.lst [.ref oa, .ref ob]] = C := ⟨_, rfl⟩
  rw [hC] at s3 sh1 sh2 hC0 hCs
  generalize paint colB B.length 0 = colC at *
  -- the pairs
  have s4 : evalS P (callN P 9) (.asg (.name 4) (.list (.llit (.cons (.tup (.cons (.list (.llit .nil)) (.cons (.list (.llit .nil)) .nil))) (.cons (.tup (.cons (.list (.llit .nil)) (.cons (.list (.llit .nil)) .nil))) .nil))))) [some (.ref 0), some (.int base), some (.int far), some (.ref sh), none, none, none, none, none, none, none, none] C = .nx [some (.ref 0), some (.int base), some (.int far), some (.ref sh), some (.ref (C.length + 4)), none, none, none, none, none, none, none] (C ++ [.lst [], .lst [], .lst [], .lst [], .lst [.tup [.ref C.length, .ref (C.length + 1)], .tup [.ref (C.length + 2), .ref (C.length + 3)]]]) := by
    have w1 : ∀ X : Store, evalE P (callN P 9) (.tup (.cons (.list (.llit .nil)) (.cons (.list (.llit .nil)) .nil))) [some (.ref 0), some (.int base), some (.int far), some (.ref sh), none, none, none, none, none, none, none, none] X = .ok (.tup [.ref X.length, .ref (X.length + 1)]) (X ++ [.lst [], .lst []]) := fun X => by
      have := ev_tup (evs_cons (ev_nil (cf := callN P 9) (ρ := [some (.ref 0), some (.int base), some (.int far), some (.ref sh), none, none, none, none, none, none, none, none]) (S := X)) (evs_cons ev_nil evs_nil)) (by simp)
      rw [this]; simp
    have := ev_list (el_lits (evs_cons (w1 C) (evs_cons (w1 _) evs_nil)) (by simp))
    have := es_set (i := 4) (ρ1 := [some (.ref 0), some (.int base), some (.int far), some (.ref sh), some (.ref (C.length + 4)), none, none, none, none, none, none, none]) this (by simp [Ev.put])
    rw [this]; simp
  have stD : Stp (fun _ => False) colC C (paint (paint colC C.length 0) (C.length + 4) 3) (C ++ [.lst [], .lst [], .lst [], .lst [], .lst [.tup [.ref C.length, .ref (C.length + 1)], .tup [.ref (C.length + 2), .ref (C.length + 3)]]]) := ⟨by simp, fun l h => by rw [paint_old (by omega), paint_old h], fun l h _ => List.getElem?_append_left h⟩
  have sh1 := sh1.frame stD (by simp)
  have sh2 := sh2.frame stD (by simp)
  have hD0 := stD.at_ hC0.1 hC0.2 (by simp)
  have hDs := stD.at_ hCs cCs (by simp)
  have pc : ∀ j, j < 4 → paint (paint colC C.length 0) (C.length + 4) 3 (C.length + j) = 0 := fun j hj => by rw [paint_old (by omega), paint_new (by omega)]
  have tw : Two sh (C.length + 4) 0 ⟨1, oa, [], [], [], C.length, C.length + 1⟩ ⟨2, ob, [], [], [], C.length + 2, C.length + 3⟩ (paint (paint colC C.length 0) (C.length + 4) 3) (C ++ [.lst [], .lst [], .lst [], .lst [], .lst [.tup [.ref C.length, .ref (C.length + 1)], .tup [.ref (C.length + 2), .ref (C.length + 3)]]]) :=
    ⟨⟨sh1, by simp, pc 0 (by decide), by simp, pc 1 (by decide), List.Pairwise.nil, List.Pairwise.nil, List.Perm.refl _⟩, ⟨sh2, by simp, pc 2 (by decide), by simp, pc 3 (by decide), List.Pairwise.nil, List.Pairwise.nil, List.Perm.refl _⟩, hDs.1, hDs.2, by simp [P2], paint_new (Nat.le_refl _)⟩
  obtain ⟨D, hD⟩ : ∃ D, C ++ [Ob.lst [], .lst [], .lst [], .lst [], .lst [.tup [.ref C.length, .ref (C.length + 1)], .tup [.ref (C.length + 2), .ref (C.length + 3)]]] = D := ⟨_, rfl⟩
  obtain ⟨pr, hpr⟩ : ∃ pr, C.length + 4 = pr := ⟨_, rfl⟩
  rw [hD] at s4 tw hD0
  rw [hpr] at s4
  generalize paint (paint colC C.length 0) (C.length + 4) 3 = colD at *
  rw [hpr] at tw
  have hcells : MP.cut (ns.map Val.int) none (some 63) = (ns.take 63).map Val.int := by
    have h : MP.cut (ns.map Val.int) none (some ((63 : Nat) : Int)) = _ := cut_hi
    rw [← List.map_take] at h
    exact h
  have hcl : (ns.take 63).length ≤ 63 := by simp; omega
  generalize ns.take 63 = cs at *
  have el : evalL P (callN P 9) (.lsl (.lof (.var 0)) .noPart (.int 63)) [some (.ref 0), some (.int base), some (.int far), some (.ref sh), some (.ref pr), none, none, none, none, none, none, none] D = .ok (.tmp (cs.map Val.int)) D := by
    have := x_fro hD0.1
    simp [-getElem?_neg, -getElem?_pos, List.getElem?_cons_zero, List.getElem?_cons_succ, evalS.eq_1, evalS.eq_2, evalS.eq_3, evalS.eq_4, evalS.eq_5, evalS.eq_6, evalS.eq_7, evalS.eq_8, evalS.eq_9, evalS.eq_10, evalS.eq_11, evalS.eq_12, evalS.eq_13, evalS.eq_14, evalS.eq_15, evalS.eq_16, evalE.eq_1, evalE.eq_2, evalE.eq_3, evalE.eq_4, evalE.eq_5, evalE.eq_6, evalE.eq_7, evalE.eq_8, evalE.eq_9, evalE.eq_10, evalE.eq_11, evalE.eq_12, evalE.eq_13, evalE.eq_14, evalE.eq_15, evalE.eq_16, evalE.eq_17, evalE.eq_18, evalE.eq_19, evalE.eq_20, evalE.eq_21, evalE.eq_22, evalE.eq_23, evalE.eq_24, evalE.eq_25, evalE.eq_26, evalE.eq_27, evalE.eq_28, evalE.eq_29, evalE.eq_30, evalE.eq_31, evalE.eq_32, evalE.eq_33, evalE.eq_34, evalE.eq_35, evalE.eq_36, evalEs.eq_1, evalEs.eq_2, evalL.eq_1, evalL.eq_2, evalL.eq_3, evalL.eq_4, evalL.eq_5, evalL.eq_6, evalL.eq_7, evalL.eq_8, evalL.eq_9, evalI.eq_1, evalI.eq_2, evalI.eq_3, evalI.eq_4, evalI.eq_5, evalI.eq_6, evalI.eq_7, evalI.eq_8, evalI.eq_9, evalI.eq_10, evalT, evalAnd.eq_1, evalOr.eq_1, evalH.eq_1, evalH.eq_2, handle, E.isNil, E.isNo, Val.isNon, truth, optI, x_lim, x_lim2, Ev.puts.eq_1, Ev.puts.eq_2, lvOf.eq_1, lvOf.eq_2, x_ofO_ite, x_bind_ite, x_toF_ite, x_fb_ite, x_fin_ite, j_ok, j_rt, j_nx, j_int, j_str, j_bl, j_cons, j_some, j_isNon, j_bl2, j_bl3, j_and, j_or, x_mod, x_fdv, x_pw, x_shr, x_mul, x_mulL, x_mulM, x_mulN, this, hcells]
  obtain ⟨ρ1, S1, r1, rest⟩ := for_enum (u := l_law_0) (tg := [5, 6]) (one := false) el (fun i ρ S' => ∃ a b col a5 a6 a7 a8 a9 a10 a11, ρ = [some (.ref 0), some (.int base), some (.int far), some (.ref sh), some (.ref pr), a5, a6, a7, a8, a9, a10, a11] ∧ Two sh pr 0 a b col S' ∧ a.c = 1 ∧ b.c = 2 ∧ a.rs.length ≤ i ∧ a.ls.length ≤ i ∧ b.rs.length ≤ i ∧ b.ls.length ≤ i) (fun i ρ S' hi hh => by
    obtain ⟨a, b, col, a5, a6, a7, a8, a9, a10, a11, q1, tw, k1, k2, m1, m2, m3, m4⟩ := hh
    subst q1
    have hi : i < cs.length := by simpa using hi
    obtain ⟨x, e1, x0⟩ := mixed_ok cs[i] (i : Int) 48271 2147483647 (by omega) (by omega) (by decide) (by decide) 8 S'
    obtain ⟨y, e2, y0⟩ := mixed_ok cs[i] (i : Int) 69621 2147483629 (by omega) (by omega) (by decide) (by decide) 8 S'
    have put : Ev.tg [5, 6] false (.tup [.int (i : Int), (cs.map Val.int)[i]'(by simpa using hi)]) [some (.ref 0), some (.int base), some (.int far), some (.ref sh), some (.ref pr), a5, a6, a7, a8, a9, a10, a11] = some [some (.ref 0), some (.int base), some (.int far), some (.ref sh), some (.ref pr), some (.int (i : Int)), some (.int cs[i]), a7, a8, a9, a10, a11] := by simp [Ev.puts]
    have h01 : x % 2 = 0 ∨ x % 2 = 1 := by omega
    rcases h01 with z | z
    · obtain ⟨S2, col2, a', b7, b8, b9, b10, b11, k0, tw2, q1, q2, q3, q4⟩ := turn_ok tw (by decide) (by omega) (by omega) (by omega) (by omega) (by omega) i (by omega) m1 m2 base far cs[i] x y e1 e2 z a7 a8 a9 a10 a11
      exact ⟨_, _, S2, put, .of k0, a', b, col2, _, _, b7, b8, b9, b10, b11, rfl, tw2, by omega, k2, q2, q3, by omega, by omega⟩
    · obtain ⟨S2, col2, b', b7, b8, b9, b10, b11, k0, tw2, q1, q2, q3, q4⟩ := turn_ok (tw.other (w' := 1) (by decide) rfl) (by decide) (by omega) (by omega) (by omega) (by omega) (by omega) i (by omega) m3 m4 base far cs[i] x y e1 e2 z a7 a8 a9 a10 a11
      exact ⟨_, _, S2, put, .of k0, a, b', col2, _, _, b7, b8, b9, b10, b11, rfl, tw2.other (w' := 0) (by decide) rfl, k1, by omega, by omega, by omega, q2, q3⟩) ⟨_, _, colD, none, none, none, none, none, none, none, rfl, tw, rfl, rfl, Nat.le_refl _, Nat.le_refl _, Nat.le_refl _, Nat.le_refl _⟩
  refine ⟨S1, ?_⟩
  rw [u_law]
  unfold b_law
  refine s_fin (?_ : _ = MP.F.rt (.bl true) S1) rfl
  refine (s_trio hf).trans ((s_nx s3).trans ((s_nx s4).trans ((s_nx r1).trans (es_one (es_ret ?_)))))
  simp only [evalE]
end LW
end
open MP PySem PySem.W PySem.Calls PyProof.Rows
theorem PySem.Challenge.cw_aheadmill_k33_shelf_left_and_thrown_holds : PySem.Challenge.rw_aheadmill_k33_shelf_left_and_thrown.Holds := by
  w_on; o_law
  refine HandSHeadRun.head_any (r := OpenLaw.row PySem.Challenge.rw_aheadmill_k33_shelf_left_and_thrown) (q := view (OpenLaw.row PySem.Challenge.rw_aheadmill_k33_shelf_left_and_thrown).prog [35]) (H := LW.hk) (ob := LW.ob) (M := 4000) (loose := LW.loose)
    (d := HandSHeadRun.topDef (OpenLaw.row PySem.Challenge.rw_aheadmill_k33_shelf_left_and_thrown).prog 35) (kwd := []) LW.ob_eq
    (by kernel_rfl) (fun s => by kernel_rfl) LW.run (by kernel_rfl) (by kernel_rfl) (by kernel_rfl) (by rfl)
    (by first | assumption | decide +kernel) (by decide +kernel) ⟨rfl, rfl, rfl, rfl, rfl, by decide +kernel⟩ ?hw ?hc
  case hw => w_witness2
  case hc =>
    refine L2.walk_ofE (l := PySem.Challenge.rw_aheadmill_k33_shelf_left_and_thrown) (n := 63) (k := 2 * (LW.DEP + 1) + 2) (x := "_law_script") (CX := MP.CXE PySem.Challenge.rw_aheadmill_k33_shelf_left_and_thrown.prog) rfl (by decide) (by kernel_rfl) ⟨rfl, by decide, by decide⟩ ?F MP.cxe_no
    intro w mg fa h Y G hmg0
    obtain ⟨K, KX, c⟩ := Y
    have hmg1 : mg ("law" : PySem.Str) = some (.ref fa) := by
      have e : (HandSHeadRun.topDef (OpenLaw.row PySem.Challenge.rw_aheadmill_k33_shelf_left_and_thrown).prog 35).name = ("law" : PySem.Str) := by kernel_rfl
      rw [← e]
      exact hmg0
    obtain ⟨fd, sp, hb, hs, hF⟩ := LW.facts (P := (PySem.Challenge.rw_aheadmill_k33_shelf_left_and_thrown).prog) (w := w) KX G hmg1 c LW.law
    exact ⟨K, fd, sp, KX, hb, hs, hF⟩
