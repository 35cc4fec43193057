import PyProof.Rows.All
import Wide.All
import OpenK.AllK
import Wide.FinOn
import HandS.Set
import HandS.Strs
import HandS.Lambda
import HandS.SetKeys
import HandS.SetFor
import PyProof.Rows.SetFrom
import HandS.ForMost
import HandS.More
import HandS.Exc
import HandS.IsInst
import HandS.ExcIs
import HandS.Style
import HandS.TupAny
import HandS.TupMul
import HandS.Deep
import HandS.RaiseMore
import HandS.Text
import PyProof.Rows.RegReprOcc
import HandS.Flow
import HandS.Comp
import HandS.Iter
import HandS.Zip
import KE.GoesEnum
import HandS.TryOnly
import HandS.Small
import HandS.DictComp
import KE.SortData
import KE.KSortTup
import KE.LtSeq
import HandS.Conv
import HandS.Dict
import KE.SortKeyHeap
import HandS.SortKw
import HandS.Defaults
import HandS.HeadHook4
import HandS.HeadWalk
import PyProof.ExcBaseAll.ValueError
import HandS.EndBits
import PyProof.TableCode
import KE.KStateDown
import Lean
import HandS.Head0
import HandS.Head1
import HandS.Head2
import HandS.HeadEnd
import HandS.HeadHook1
import HandS.HeadHook2
import HandS.HeadHook3
import PySem.Challenge.RW_keptorbuilt_k86_whole_families_and_what
set_option linter.all false
/-! KbIr: a small language over values as trees, and what it does (a function). -/
namespace Kb

/-- atoms of dict keys -/
inductive Ka where
  | i (n : Int) | s (x : List Nat)
  deriving DecidableEq, Repr
/-- dict keys -/
inductive Ky where
  | a (k : Ka) | t (ks : List Ka)
  deriving DecidableEq, Repr

inductive D where
  | non | bl (b : Bool) | int (i : Int) | str (x : List Nat)
  | tup (xs : List D) | lst (xs : List D) | dic (ks : List Ky) (vs : List D) | set (ks : List Ka)
  | ref (k : Nat)
  /-- the script -/
  | scr (ns : List Int)
  /-- a written dict with text keys -/
  | kdic (ks : List (List Nat)) (vs : List D)
  deriving Repr

/-- what a name holds: a value, or a list, a dict that no other name knows -/
inductive Sl where
  | val (d : D) | own (xs : List D) | ownd (t : Bool) (ks : List Ky) (vs : List D)
  /-- the error that an except suite holds -/
  | exc
  deriving Repr
def Sl.d : Sl → D
  | .val d => d
  | .own xs => .lst xs
  | .ownd _ ks vs => .dic ks vs
  | .exc => .non
inductive Ob where
  | lst (xs : List D)
  deriving Repr
structure S where
  sl : List (Option Sl)
  hp : List Ob
inductive Rs (α : Type) where
  | ok (a : α) (s : S) | exn (c : Nat) (fs : List D) (s : S)
inductive Rf where
  | ret (v : Sl) (hp : List Ob) | exn (c : Nat) (fs : List D) (hp : List Ob)
abbrev Th := Option (List Ob → Option Rf)
abbrev M (α : Type) := S → Option (Rs α)
def pur {α : Type} (a : α) : M α := fun s => some (.ok a s)
def bnd {α β : Type} (x : M α) (f : α → M β) : M β := fun s => match x s with
  | some (.ok a s') => f a s'
  | some (.exn c fs s') => some (.exn c fs s')
  | none => none
def lft {α : Type} (o : Option α) : M α := fun s => match o with
  | some a => some (.ok a s)
  | none => none
def stk {α : Type} : M α := fun _ => none

/-! ### the language -/
inductive Bo where
  | add | sub | mul | fdiv | mod | pow
  /-- of whole numbers alone -/
  | iadd
  deriving DecidableEq, Repr
inductive Co where
  | eq | ne | lt | le | gt | ge | isin | notin | is_ | isnot
  deriving DecidableEq, Repr
/-- built-ins by their name -/
inductive Bl where
  | len | abs | int | str | repr | all | any | list | tuple | set | dict | sorted | max | min | sum
  /-- repr of tuples: where nothing is under way -/
  | reprT
  deriving DecidableEq, Repr
/-- methods -/
inductive Mt where
  | append | extend | count | countS | index | indexT | join | pop | get | items | values | update | setdefault | split | replace
  deriving DecidableEq, Repr
inductive Ty where
  | int | bool | str | tuple | list | dict
  deriving DecidableEq, Repr
inductive Tg where
  | name (i : Nat) | tup (is : List Nat)
  deriving DecidableEq, Repr

mutual
inductive Ex where
  | const (d : D) | var (i : Nat)
  /-- a constant of the module -/
  | glob (i : Nat)
  | tup (es : Exs) | lst (es : Exs) | lstH (es : Exs) | dic (t : Bool) (ks vs : Exs)
  | bin (op : Bo) (a b : Ex) | neg (a : Ex) | not (a : Ex) | and (a b : Ex) | or (a b : Ex)
  | cmp (op : Co) (a b : Ex) | chain (o1 o2 : Co) (a b c : Ex) | ite (c a b : Ex)
  | idx (a i : Ex) | sl (a : Ex) (lo hi : Exo) | rev (a : Ex)
  | call (f : Nat) (es : Exs) | blt (b : Bl) (es : Exs) | mth (m : Mt) (o : Ex) (es : Exs)
  | isi (a : Ex) (t : Ty) | isx (i k : Nat) | comp (elt : Ex) (tg : Tg) (it : It) (cond : Exo) (own : List Nat)
  | wcall (f : Nat) (th : Ex) | act (i : Nat)
  /-- list(range(..)), tuple(range(..)) -/
  | lrange (t : Bool) (es : Exs)
  /-- sorted(e, key=f) -/
  | sortk (f : Nat) (e : Ex)
inductive Exs where
  | nil | cons (e : Ex) (es : Exs)
inductive Exo where
  | none | some (e : Ex)
inductive It where
  | ex (e : Ex) | range (es : Exs) | enum (e : Ex) | zip (es : Exs) | zips (e : Ex) | items (e : Ex)
end
mutual
inductive Stm where
  /-- x = {a: b for ..} -/
  | setDc (i : Nat) (a b : Ex) (tg : Tg) (it : It) (cond : Exo) (own : List Nat)
  | set (i : Nat) (e : Ex) | unp (is : List Nat) (e : Ex) | par (is : List Nat) (es : Exs) | setIx (v : Nat) (i e : Ex) | expr (e : Ex) | mut (m : Mt) (v : Nat) (es : Exs) (t : Option Tg)
  | ret (e : Exo) | ifs (c : Ex) (a b : Stms) | for_ (tg : Tg) (it : It) (body : Stms) | while_ (c : Ex) (body : Stms)
  | raise (c : Nat) (es : Exs) | try_ (body : Stms) (c : Nat) (i : Option Nat) (suite : Stms) | pass | brk | cnt
inductive Stms where
  | nil | cons (s : Stm) (ss : Stms)
end

/-! ### what the operations do -/
abbrev line : Nat := 16777216
mutual
def eqD : D → D → Bool
  | .non, .non => true
  | .bl a, .bl b => a == b
  | .int a, .int b => decide (a = b)
  | .bl a, .int b => decide ((if a then (1 : Int) else 0) = b)
  | .int a, .bl b => decide (a = if b then (1 : Int) else 0)
  | .str a, .str b => decide (a = b)
  | .tup a, .tup b => eqL a b
  | .lst a, .lst b => eqL a b
  | _, _ => false
def eqL : List D → List D → Bool
  | [], [] => true
  | a :: as, b :: bs => eqD a b && eqL as bs
  | _, _ => false
end
/-- made of None, flags, numbers, texts, tuples, lists, no deeper than so -/
def pl : Nat → D → Bool
  | _, .non => true
  | _, .bl _ => true
  | _, .int _ => true
  | _, .str _ => true
  | n + 1, .tup a => a.all (pl n)
  | n + 1, .lst a => a.all (pl n)
  | _, _ => false
abbrev plain (d : D) : Bool := pl 60 d
abbrev plainL (ds : List D) : Bool := ds.all (pl 60)
def nth {α : Type} (xs : List α) (i : Int) : Option α :=
  if 0 ≤ i then xs[i.toNat]? else if -(xs.length : Int) ≤ i then xs[(i + xs.length).toNat]? else none
def ixOf (n : Nat) (i : Int) : Option Nat := if 0 ≤ i then (if i < n then some i.toNat else none) else if -(n : Int) ≤ i then some (i + n).toNat else none
def clip (n d : Nat) : Option Int → Nat
  | none => d
  | some v => if v < 0 then (v + (n : Int)).toNat else min v.toNat n
def cut {α : Type} (xs : List α) (lo hi : Option Int) : List α :=
  (xs.drop (clip xs.length 0 lo)).take (clip xs.length xs.length hi - clip xs.length 0 lo)
def keyA : D → Option Ka
  | .int i => some (.i i)
  | .str x => some (.s x)
  | _ => none
def keyAs : List D → Option (List Ka)
  | [] => some []
  | d :: ds => match keyA d, keyAs ds with
    | some k, some ks => some (k :: ks)
    | _, _ => none
def keyD : D → Option Ky
  | .int i => some (.a (.i i))
  | .str x => some (.a (.s x))
  | _ => none
def Ka.d : Ka → D
  | .i n => .int n
  | .s x => .str x
def Ky.d : Ky → D
  | .a k => k.d
  | .t ks => .tup (ks.map Ka.d)
def look (k : Ky) : List Ky → List D → Option D
  | q :: ks, v :: vs => if k = q then some v else look k ks vs
  | _, _ => none
def lookT (k : List Nat) : List (List Nat) → List D → Option D
  | q :: ks, v :: vs => if k = q then some v else lookT k ks vs
  | _, _ => none
def hasT (k : List Nat) (ks : List (List Nat)) : Bool := ks.any fun q => decide (k = q)
def has (k : Ky) (ks : List Ky) : Bool := ks.any fun q => decide (k = q)
def setV {α : Type} (k : Ky) (v : α) : List Ky → List α → List α
  | q :: ks, u :: vs => (if k = q then v else u) :: setV k v ks vs
  | _, _ => []
def putV {α : Type} (k : Ky) (v : α) (ks : List Ky) (vs : List α) : List α := if has k ks then setV k v ks vs else vs ++ [v]
def putK (k : Ky) (ks : List Ky) : List Ky := if has k ks then ks else ks ++ [k]
def tru : D → Option Bool
  | .bl b => some b
  | .non => some false
  | .int i => some (decide (i ≠ 0))
  | .str x => if x.length ≤ line then some (!x.isEmpty) else none
  | .tup xs => some (!xs.isEmpty)
  | .lst xs => some (!xs.isEmpty)
  | _ => none
/-! order -/
def ltS : List Nat → List Nat → Bool
  | [], [] => false
  | [], _ :: _ => true
  | _ :: _, [] => false
  | a :: as, b :: bs => if a < b then true else if b < a then false else ltS as bs
mutual
def toks : D → List (Int ⊕ List Nat)
  | .non => []
  | .bl b => [.inl (if b = true then 1 else 0)]
  | .int n => [.inl n]
  | .str x => [.inr x]
  | .tup xs => toksL xs
  | .lst xs => toksL xs
  | _ => []
def toksL : List D → List (Int ⊕ List Nat)
  | [] => [.inl 0]
  | x :: xs => .inl 1 :: (toks x ++ toksL xs)
end
def atomLt : Int ⊕ List Nat → Int ⊕ List Nat → Bool
  | .inl a, .inl b => decide (a < b)
  | .inl _, .inr _ => true
  | .inr _, .inl _ => false
  | .inr a, .inr b => ltS a b
def lexT : List (Int ⊕ List Nat) → List (Int ⊕ List Nat) → Bool
  | [], [] => false
  | [], _ :: _ => true
  | _ :: _, [] => false
  | x :: r, y :: t => atomLt x y || (!atomLt y x && lexT r t)
mutual
def alD : D → D → Bool
  | .non, .non => true
  | .bl _, .bl _ => true
  | .int _, .int _ => true
  | .str _, .str _ => true
  | .tup xs, .tup ys => alL xs ys
  | _, _ => false
def alL : List D → List D → Bool
  | [], _ => true
  | _ :: _, [] => true
  | x :: xs, y :: ys => alD x y && alL xs ys
end
def ltD (a b : D) : Bool := lexT (toks a) (toks b)
def leD (a b : D) : Bool := !ltD b a
def anTup : D → Bool
  | .tup _ => true
  | _ => false
def noTup : D → Bool
  | .tup _ => false
  | .non => false
  | _ => true
def sortOk (xs : List D) : Bool := (xs.all anTup || xs.all noTup) && xs.all (fun a => xs.all fun b => alD a b) && xs.all (pl 40) && decide (xs.length ≤ line)
/-! sorting, by rules that the kernel runs -/
def mgI {α : Type} (le : α → α → Bool) (x : α) (xs : List α) (f : List α → List α) : List α → List α
  | [] => x :: xs
  | y :: ys => match le x y with
    | true => x :: f (y :: ys)
    | false => y :: mgI le x xs f ys
def mgF {α : Type} (le : α → α → Bool) : List α → List α → List α
  | [] => fun ys => ys
  | x :: xs => fun ys => mgI le x xs (mgF le xs) ys
theorem mgF_eq {α : Type} (le : α → α → Bool) : ∀ (xs ys : List α), mgF le xs ys = xs.merge ys le
  | [], ys => by simp [mgF]
  | x :: xs, ys => by
    show mgI le x xs (mgF le xs) ys = _
    induction ys with
    | nil => simp [mgI]
    | cons y ys ih =>
      unfold mgI
      rw [List.cons_merge_cons]
      cases h : le x y with
      | true => simp only [if_true]; rw [mgF_eq le xs]
      | false => simp only [Bool.false_eq_true, if_false]; rw [ih]
def msF {α : Type} (le : α → α → Bool) : Nat → List α → List α
  | 0, xs => xs
  | n + 1, xs => match xs with
    | [] => []
    | [a] => [a]
    | a :: b :: r => mgF le (msF le n ((a :: b :: r).take ((r.length + 3) / 2))) (msF le n ((a :: b :: r).drop ((r.length + 3) / 2)))
theorem msF_eq {α : Type} (le : α → α → Bool) : ∀ (n : Nat) (xs : List α), xs.length ≤ n → msF le n xs = xs.mergeSort le
  | 0, [], _ => by simp [msF]
  | n + 1, [], _ => by simp [msF]
  | n + 1, [a], _ => by simp [msF]
  | n + 1, a :: b :: r, h => by
    unfold msF
    dsimp only
    rw [List.mergeSort.eq_3, mgF_eq]
    simp only [List.length_cons] at h
    rw [msF_eq le n _ (by simp; omega), msF_eq le n _ (by simp; omega)]
    simp [List.MergeSort.Internal.splitInTwo, List.splitAt_eq]
def sortD (xs : List D) : Option (List D) := if sortOk xs then some (msF leD xs.length xs) else none
/-- sorted by keys -/
def sortK (ds ks : List D) : Option (List D) := if sortOk ks && decide (ks.length = ds.length) then some ((msF (fun a b : D × D => leD a.2 b.2) (ds.zip ks).length (ds.zip ks)).map (·.1)) else none
theorem sortK_ms (ds ks : List D) : sortK ds ks = if sortOk ks && decide (ks.length = ds.length) then some (((ds.zip ks).mergeSort fun a b : D × D => leD a.2 b.2).map (·.1)) else none := by
  unfold sortK
  rw [msF_eq _ _ _ (Nat.le_refl _)]
/-- the keys of items -/
def keysF (call : List D → List Ob → Option Rf) : List D → List Ob → Option (List D × List Ob)
  | [], hp => some ([], hp)
  | d :: ds, hp => match call [d] hp with
    | some (.ret (.val k) hp1) => (match keysF call ds hp1 with
      | some (ks, hp2) => some (k :: ks, hp2)
      | none => none)
    | _ => none
def sortF (call : List D → List Ob → Option Rf) (ds : List D) (hp : List Ob) : Option Rf := match keysF call ds hp with
  | some (ks, hp2) => (match sortK ds ks with
    | some zs => some (.ret (.own zs) hp2)
    | none => none)
  | none => none
theorem sortD_ms (xs : List D) : sortD xs = if sortOk xs then some (xs.mergeSort leD) else none := by
  unfold sortD
  rw [msF_eq leD _ _ (Nat.le_refl _)]
/-- dict([(key, value), ..]) -/
def dicP : List D → List Ky → List D → Option Sl
  | [], ks, vs => some (.ownd false ks vs)
  | .tup [k, v] :: r, ks, vs => match keyD k with
    | some q => dicP r (putK q ks) (putV q v ks vs)
    | none => none
  | _, _, _ => none
def isInt64 (i : Int) : Bool := decide (-18446744073709551616 < i) && decide (i < 18446744073709551616)
def binD : Bo → D → D → Option Sl
  | .add, .int i, .int j => some (.val (.int (i + j)))
  | .sub, .int i, .int j => some (.val (.int (i - j)))
  | .mul, .int i, .int j => if isInt64 i || isInt64 j then some (.val (.int (i * j))) else none
  | .fdiv, .int i, .int j => if decide (j ≠ 0) && decide (j.natAbs < 1073741824) then some (.val (.int (i.fdiv j))) else none
  | .mod, .int i, .int j => if j ≠ 0 then some (.val (.int (i.fmod j))) else none
  | .pow, .int i, .int j => if decide (0 ≤ j) && decide (j ≤ 1000000) && decide (i.natAbs < 18446744073709551616) then some (.val (.int (i ^ j.toNat))) else none
  | .add, .str x, .str y => if x.length + y.length ≤ line then some (.val (.str (x ++ y))) else none
  | .add, .tup x, .tup y => if x.length + y.length ≤ line then some (.val (.tup (x ++ y))) else none
  | .add, .lst x, .lst y => if x.length + y.length ≤ line then some (.own (x ++ y)) else none
  | .mul, .str x, .int k => if decide (-9223372036854775808 ≤ k) && decide (k ≤ 16777216) && decide (x.length * k.toNat ≤ line) then some (.val (.str ((List.replicate k.toNat x).flatten))) else none
  | .mul, .tup x, .int k => if decide (2 ≤ k) && decide (k ≤ 1000) && decide (x.length ≤ 1000) && !x.isEmpty then some (.val (.tup ((List.replicate k.toNat x).flatten))) else none
  | .mul, .lst x, .int k => if decide (k ≤ 16777216) && decide (-9223372036854775808 ≤ k) && decide (x.length * k.toNat ≤ line) then some (.own ((List.replicate k.toNat x).flatten)) else none
  | .iadd, .int i, .int j => some (.val (.int (i + j)))
  | _, _, _ => none
def inL (x : D) (xs : List D) : Bool := xs.any fun y => eqD y x
/-- keys of a set -/
def kaD : D → Option Ka
  | .int i => some (.i i)
  | .str x => some (.s x)
  | _ => none
def kasD : List D → Option (List Ka)
  | [] => some []
  | d :: ds => match kaD d, kasD ds with
    | some k, some ks => some (k :: ks)
    | _, _ => none
def addKa (ks : List Ka) (k : Ka) : List Ka := if k ∈ ks then ks else ks ++ [k]
def addKas (acc : List Ka) : List Ka → List Ka
  | [] => acc
  | k :: ks => addKas (addKa acc k) ks
def setD (xs : List D) : Option Sl := match kasD xs with
  | some ks => if ks.length < 4000 then some (.val (.set (addKas [] ks))) else none
  | none => none
/-- numbers alone -/
def intsD : List D → Option (List Int)
  | [] => some []
  | .int i :: ds => match intsD ds with
    | some is => some (i :: is)
    | none => none
  | _ => none
def maxL : Int → List Int → Int
  | m, [] => m
  | m, x :: xs => maxL (if m < x then x else m) xs
def minL : Int → List Int → Int
  | m, [] => m
  | m, x :: xs => minL (if x < m then x else m) xs
/-- flat: no tuple, no list -/
def flat : D → Bool
  | .non => true | .bl _ => true | .int _ => true | .str _ => true
  | _ => false
def isin (x y : D) : Option Bool := match y with
  | .lst ys => if plain x && plainL ys then some (inL x ys) else none
  | .tup ys => if plain x && plainL ys then some (inL x ys) else none
  | .str ys => match x with
    | .str [c] => some (decide (c ∈ ys))
    | _ => none
  | .dic ks _ => match keyD x with
    | some k => some (has k ks)
    | none => none
  | .kdic ks _ => match x with
    | .str k => some (hasT k ks)
    | _ => none
  | .set ks => match kaD x with
    | some k => some (decide (k ∈ ks))
    | none => none
  | _ => none
def cmpD : Co → D → D → Option Bool
  | .eq, a, b => if plain a && plain b then some (eqD a b) else none
  | .ne, a, b => if plain a && plain b then some (!eqD a b) else none
  | .lt, .int i, .int j => some (decide (i < j))
  | .le, .int i, .int j => some (decide (i ≤ j))
  | .gt, .int i, .int j => some (decide (j < i))
  | .ge, .int i, .int j => some (decide (j ≤ i))
  | .lt, .str i, .str j => some (ltS i j)
  | .gt, .str i, .str j => some (ltS j i)
  | .le, .str i, .str j => some (!ltS j i)
  | .ge, .str i, .str j => some (!ltS i j)
  | .isin, x, y => isin x y
  | .notin, x, y => (isin x y).map (!·)
  | .is_, .non, .non => some true
  | .is_, _, .non => some false
  | .isnot, .non, .non => some false
  | .isnot, _, .non => some true
  | .is_, .bl a, .bl b => some (a == b)
  | .isnot, .bl a, .bl b => some (!(a == b))
  | _, _, _ => none
def idxD (o i : D) : Option D := match o with
  | .lst xs => match i with
    | .int k => nth xs k
    | _ => none
  | .tup xs => match i with
    | .int k => nth xs k
    | _ => none
  | .str xs => match i with
    | .int k => if xs.length ≤ line then (nth xs k).map fun c => .str [c] else none
    | _ => none
  | .dic ks vs => match keyD i with
    | some k => look k ks vs
    | none => none
  | .kdic ks vs => match i with
    | .str k => lookT k ks vs
    | _ => none
  | _ => none
def slD (o : D) (l h : Option Int) : Option Sl := match o with
  | .lst xs => some (.own (cut xs l h))
  | .tup xs => some (.val (.tup (cut xs l h)))
  | .scr ns => some (.own ((cut ns l h).map .int))
  | .str xs => if xs.length ≤ line then some (.val (.str (cut xs l h))) else none
  | _ => none
def revD : D → Option Sl
  | .str xs => if xs.length ≤ line then some (.val (.str xs.reverse)) else none
  | .lst xs => some (.own xs.reverse)
  | _ => none
def idx1 (x : D) : List D → Nat → Option Nat
  | [], _ => none
  | y :: ys, n => if eqD y x then some n else idx1 x ys (n + 1)
def txts : List D → Option (List (List Nat))
  | [] => some []
  | .str x :: r => match txts r with
    | some xs => some (x :: xs)
    | none => none
  | _ :: _ => none
def joinS (sep : List Nat) : List (List Nat) → List Nat
  | [] => []
  | [x] => x
  | x :: y :: r => x ++ (sep ++ joinS sep (y :: r))
def sumLen : List (List Nat) → Nat
  | [] => 0
  | x :: r => x.length + sumLen r
def bools : List D → Option (List Bool)
  | [] => some []
  | .bl x :: r => match bools r with
    | some xs => some (x :: xs)
    | none => none
  | _ :: _ => none
def digits (n : Nat) : List Nat := (Nat.toDigits 10 n).map Char.toNat
def intS (i : Int) : List Nat := if i < 0 then 45 :: digits i.natAbs else digits i.natAbs
/-- codes whose repr is themselves -/
def plainC (c : Nat) : Bool := decide (32 ≤ c) && decide (c < 127) && decide (c ≠ 39) && decide (c ≠ 92)
/-- repr of flat values -/
def reprF : D → Option (List Nat)
  | .non => some [78, 111, 110, 101]
  | .bl true => some [84, 114, 117, 101]
  | .bl false => some [70, 97, 108, 115, 101]
  | .int i => if i.natAbs < 2 ^ 1000 then some (intS i) else none
  | .str x => if x.all plainC && decide (x.length ≤ 1000000) then some (39 :: (x ++ [39])) else none
  | _ => none
/-- a tuple's written form -/
def tupS (xs : List (List Nat)) : List Nat := [40] ++ joinS [44, 32] xs ++ (if xs.length = 1 then [44, 41] else [41])
mutual
def reprD : D → Option (List Nat)
  | .tup ds => match reprDs ds with
    | some xs => some (tupS xs)
    | none => none
  | d => reprF d
def reprDs : List D → Option (List (List Nat))
  | [] => some []
  | d :: ds => match reprD d, reprDs ds with
    | some x, some xs => some (x :: xs)
    | _, _ => none
end
/-- the values of what is walked -/
def itemsD : D → Option (List D)
  | .lst xs => some xs
  | .tup xs => some xs
  | .str xs => some (xs.map fun c => .str [c])
  | _ => none
/-- .. a dict too, by its keys -/
def itemsX : D → Option (List D)
  | .dic ks _ => some (ks.map Ky.d)
  | d => itemsD d
def rangeD (n : Nat) (a : Int) : List D := match n with
  | 0 => []
  | n + 1 => .int a :: rangeD n (a + 1)
def rgOk (a b : Int) : Bool := decide (-4611686018427387904 ≤ a) && decide (a < 4611686018427387904) && decide (-4611686018427387904 ≤ b) && decide (b < 4611686018427387904) && decide ((b - a).toNat ≤ 2 ^ 24)
def rangeL (t : Bool) : List D → Option Sl
  | [.int n] => if rgOk 0 n then some (if t then .val (.tup (rangeD n.toNat 0)) else .own (rangeD n.toNat 0)) else none
  | [.int a, .int b] => if rgOk a b then some (if t then .val (.tup (rangeD (b - a).toNat a)) else .own (rangeD (b - a).toNat a)) else none
  | _ => none
def zipD : List D → List D → List D
  | x :: xs, y :: ys => .tup [x, y] :: zipD xs ys
  | _, _ => []
def zipI : List D → Option (List D)
  | [a, b] => (match itemsD a, itemsD b with
    | some xs, some ys => some (zipD xs ys)
    | _, _ => none)
  | _ => none
def enumD : List D → Nat → List D
  | [], _ => []
  | x :: xs, n => .tup [.int n, x] :: enumD xs (n + 1)
def hasTy : Ty → D → Option Bool
  | .int, .int _ => some true
  | .int, .bl _ => some true
  | .bool, .bl _ => some true
  | .str, .str _ => some true
  | .tuple, .tup _ => some true
  | .list, .lst _ => some true
  | .dict, .dic _ _ => some true
  | _, .ref _ => none
  | _, .set _ => none
  | _, .scr _ => none
  | _, .kdic _ _ => none
  | _, _ => some false
def bltD : Bl → List D → Option Sl
  | .len, [.str x] => if x.length ≤ line then some (.val (.int x.length)) else none
  | .len, [.lst x] => some (.val (.int x.length))
  | .len, [.tup x] => some (.val (.int x.length))
  | .len, [.dic ks _] => some (.val (.int ks.length))
  | .len, [.set ks] => some (.val (.int ks.length))
  | .abs, [.int i] => some (.val (.int (if i < 0 then -i else i)))
  | .int, [.int i] => some (.val (.int i))
  | .int, [.bl b] => some (.val (.int (if b then 1 else 0)))
  | .repr, [d] => (reprF d).map fun x => .val (.str x)
  | .reprT, [d] => match reprD d with
    | some x => if pl 40 d && decide (x.length ≤ 1000000) then some (.val (.str x)) else none
    | none => none
  | .all, [.lst xs] => (bools xs).map fun bs => .val (.bl (bs.all id))
  | .any, [.lst xs] => (bools xs).map fun bs => .val (.bl (bs.any id))
  | .sorted, [.lst xs] => (sortD xs).map .own
  | .sorted, [.tup xs] => (sortD xs).map .own
  | .sorted, [.set ks] => (sortD (ks.map Ka.d)).map .own
  | .sorted, [.dic ks _] => (sortD (ks.map Ky.d)).map .own
  | .set, [.lst xs] => setD xs
  | .set, [.tup xs] => setD xs
  | .max, [.lst xs] => (match intsD xs with
    | some (m :: is) => some (.val (.int (maxL m is)))
    | _ => none)
  | .min, [.lst xs] => (match intsD xs with
    | some (m :: is) => some (.val (.int (minL m is)))
    | _ => none)
  | .sum, [.lst xs] => (match intsD xs with
    | some is => some (.val (.int is.sum))
    | _ => none)
  | .max, [.int i, .int j] => some (.val (.int (if j > i then j else i)))
  | .min, [.int i, .int j] => some (.val (.int (if j < i then j else i)))
  | .dict, [.lst xs] => dicP xs [] []
  | .list, [.lst xs] => some (.own xs)
  | .list, [.tup xs] => some (.own xs)
  | .list, [.str xs] => if xs.length ≤ line then some (.own (xs.map fun c => .str [c])) else none
  | .tuple, [.lst xs] => some (.val (.tup xs))
  | .tuple, [.tup xs] => some (.val (.tup xs))
  | _, _ => none
def cntL (xs : List D) (x : D) : Option Sl := if flat x && xs.all flat then some (.val (.int ((xs.filter fun y => eqD y x).length : Nat))) else none
def ixL (xs : List D) (x : D) : Option Sl := if plain x && plainL xs then (idx1 x xs 0).map fun n => .val (.int n) else none
def joinD (s : List Nat) (xs : List D) : Option Sl := match txts xs with
  | some ys => if sumLen ys + ys.length * s.length ≤ line then some (.val (.str (joinS s ys))) else none
  | none => none
/-- whose method it is -/
def recv (m : Mt) (o : D) : Bool := match m, o with
  | .count, .lst _ => true
  | .countS, .str _ => true
  | .index, .lst _ => true
  | .indexT, .tup _ => true
  | .join, .str _ => true
  | _, _ => false
def mthD (m : Mt) (o : D) (ds : List D) : Option Sl := match m with
  | .count => (match o, ds with
    | .lst xs, [x] => cntL xs x
    | _, _ => none)
  | .countS => (match o, ds with
    | .str xs, [.str [c]] => some (.val (.int (xs.count c : Nat)))
    | _, _ => none)
  | .index => (match o, ds with
    | .lst xs, [x] => ixL xs x
    | _, _ => none)
  | .indexT => (match o, ds with
    | .tup xs, [x] => ixL xs x
    | _, _ => none)
  | .join => (match o, ds with
    | .str s, [.lst xs] => joinD s xs
    | .str s, [.tup xs] => joinD s xs
    | _, _ => none)
  | _ => none

/-! ### expressions -/
structure Cfg where
  call : Nat → List D → Th → List Ob → Option Rf
  sub : Nat → Nat → Bool
  th : Th
  ks : List D := []
  /-- the exception that an except suite holds -/
  exc : Option (Nat × List D) := none
def frzS (i : Nat) : M D := fun s => match s.sl[i]? with
  | some (some (.val d)) => some (.ok d s)
  | some (some .exc) => none
  | some (some v) => some (.ok v.d { s with sl := s.sl.set i (some (.val v.d)) })
  | _ => none
/-- as a value: a name's own list is its own no more -/
def vOf (e : Ex) (m : M Sl) : M D := match e with
  | .var i => frzS i
  | _ => bnd m fun v => pur v.d
/-- for a store -/
def oOf (e : Ex) (m : M Sl) : M Sl := match e with
  | .var i => bnd (frzS i) fun d => pur (.val d)
  | _ => m
def getS (i : Nat) : M Sl := fun s => match s.sl[i]? with
  | some (some .exc) => none
  | some (some v) => some (.ok v s)
  | _ => none
def putS (i : Nat) (v : Sl) : M Unit := fun s => some (.ok () { s with sl := s.sl.set i (some v) })
def clr : List Nat → List (Option Sl) → List (Option Sl)
  | [], l => l
  | i :: is, l => clr is (l.set i none)
/-- back to what stood there: values alone -/
def bck (old : List (Option Sl)) : List Nat → List (Option Sl) → List (Option Sl)
  | [], l => l
  | i :: is, l => bck old is (l.set i (match old[i]? with
    | some (some (.val d)) => some (.val d)
    | _ => none))
def putTs : List Nat → List D → M Unit
  | [], [] => pur ()
  | i :: is, d :: ds => bnd (putS i (.val d)) fun _ => putTs is ds
  | _, _ => stk
def tgD (tg : Tg) (d : D) : M Unit := match tg with
  | .name i => putS i (.val d)
  | .tup is => match d with
    | .tup ds => putTs is ds
    | _ => stk
def testM (m : M Sl) : M Bool := bnd m fun v => lft (tru v.d)
def compL (f : D → M (Option D)) : List D → M (List D)
  | [] => pur []
  | x :: xs => bnd (f x) fun o => bnd (compL f xs) fun ys => pur (match o with
    | some y => y :: ys
    | none => ys)
/-- nothing is raised -/
def noX {α : Type} (m : M α) : M α := fun s => match m s with
  | some (.ok a s') => some (.ok a s')
  | _ => none
def clrM (own : List Nat) : M Unit := fun s => some (.ok () { s with sl := clr own s.sl })
def blk (own : List Nat) (items : List D) (f : D → M (Option D)) : M Sl := fun s =>
  if items.length ≤ line then
    match compL (fun d => bnd (clrM own) fun _ => f d) items s with
    | some (.ok ys s') => some (.ok (.own ys) { s' with sl := bck s.sl own s'.sl })
    | _ => none
  else none
/-- a dict made of pairs -/
def blkD (own : List Nat) (items : List D) (f : D → M (Option D)) : M Sl := fun s => match blk own items f s with
  | some (.ok (.own ps) s') => (match dicP ps [] [] with
    | some w => some (.ok w s')
    | none => none)
  | _ => none
def callM (f : List Ob → Option Rf) : M Sl := fun s => match f s.hp with
  | some (.ret v hp) => some (.ok v { s with hp := hp })
  | some (.exn c fs hp) => some (.exn c fs { s with hp := hp })
  | none => none
/-- a lambda that came as the parameter; where it fails nothing of the names is known -/
def actM (th : Th) : M Sl := fun s => match s.sl[(0 : Nat)]? with
  | some (some .exc) => (match th with
    | some f => (match f s.hp with
      | some (.ret v hp) => some (.ok v { s with hp := hp })
      | some (.exn c fs hp) => some (.exn c fs ⟨List.replicate s.sl.length none, hp⟩)
      | none => none)
    | none => none)
  | _ => none
/-- what a lambda sees of the names: values -/
def hidO (l : List (Option Sl)) : List (Option Sl) := l.map fun o => match o with
  | some (.val d) => some (.val d)
  | _ => none
def thk (th : M D) (l : List (Option Sl)) : List Ob → Option Rf := fun hp => match th ⟨l, hp⟩ with
  | some (.ok d s') => some (.ret (.val d) s'.hp)
  | some (.exn c fs s') => some (.exn c fs s'.hp)
  | none => none
def wcallM (call : Th → List Ob → Option Rf) (th : M D) : M Sl := fun s =>
  match call (some (thk th (hidO s.sl))) s.hp with
  | some (.ret v hp) => some (.ok v { s with hp := hp })
  | _ => none
def newH (xs : List D) : M Sl := fun s => some (.ok (.val (.ref s.hp.length)) { s with hp := s.hp ++ [.lst xs] })
/-- o[i] where o may stand in the heap -/
def idxM (o : Sl) (i : D) : M Sl := match o with
  | .val (.ref k) => fun s => match s.hp[k]?, i with
    | some (.lst xs), .int j => (match nth xs j with
      | some d => some (.ok (.val d) s)
      | none => none)
    | _, _ => none
  | o => lft ((idxD o.d i).map .val)
def bltM (b : Bl) (ds : List Sl) : M Sl := lft (bltD b (ds.map Sl.d))
def mutS (m : Mt) (i : Nat) (ds : List D) : M Sl := fun s => match s.sl[i]? with
  | some (some (.own xs)) => (match m, ds with
    | .append, [d] => if xs.length < line then some (.ok (.val .non) { s with sl := s.sl.set i (some (.own (xs ++ [d]))) }) else none
    | .extend, [.lst ys] => if xs.length + ys.length ≤ line then some (.ok (.val .non) { s with sl := s.sl.set i (some (.own (xs ++ ys))) }) else none
    | .pop, [] => (match xs.getLast? with
      | some d => some (.ok (.val d) { s with sl := s.sl.set i (some (.own xs.dropLast)) })
      | none => none)
    | _, _ => none)
  | _ => none
def Ky.isT : Ky → Bool
  | .a _ => false
  | .t _ => true
def dicL (b : Bool) : List D → List D → List Ky → List D → Option Sl
  | [], [], ks, vs => some (.ownd b ks vs)
  | k :: r, v :: t, ks, vs => match keyD k with
    | some q => if q.isT = b then dicL b r t (putK q ks) (putV q v ks vs) else none
    | none => none
  | _, _, _, _ => none

mutual
def ev (c : Cfg) : Ex → M Sl
  | .const d => pur (.val d)
  | .var i => getS i
  | .glob i => lft (c.ks[i]?.map .val)
  | .tup es => bnd (evs c es) fun ds => pur (.val (.tup ds))
  | .lst es => bnd (evs c es) fun ds => pur (.own ds)
  | .lstH es => bnd (evs c es) fun ds => newH ds
  | .dic t ks vs => bnd (evs c ks) fun a => bnd (evs c vs) fun b => lft (dicL t a b [] [])
  | .bin op a b => bnd (ev c a) fun x => bnd (ev c b) fun y => lft (binD op x.d y.d)
  | .neg a => bnd (ev c a) fun x => (match x with
    | .val (.int i) => pur (.val (.int (-i)))
    | _ => stk)
  | .not a => bnd (testM (ev c a)) fun b => pur (.val (.bl (!b)))
  | .and a b => bnd (ev c a) fun x => (match x with
    | .val (.bl true) => bnd (ev c b) fun y => (match y with
      | .val (.bl k) => pur (.val (.bl k))
      | _ => stk)
    | .val (.bl false) => pur (.val (.bl false))
    | _ => stk)
  | .or a b => bnd (ev c a) fun x => (match x with
    | .val (.bl false) => bnd (ev c b) fun y => (match y with
      | .val (.bl k) => pur (.val (.bl k))
      | _ => stk)
    | .val (.bl true) => pur (.val (.bl true))
    | _ => stk)
  | .cmp op a b => bnd (ev c a) fun x => bnd (ev c b) fun y => lft ((cmpD op x.d y.d).map fun k => .val (.bl k))
  | .chain o1 o2 a b e => bnd (ev c a) fun x => bnd (ev c b) fun y => bnd (lft (cmpD o1 x.d y.d)) fun k =>
      if k then bnd (ev c e) fun z => lft ((cmpD o2 y.d z.d).map fun k => .val (.bl k)) else pur (.val (.bl false))
  | .ite t a b => bnd (testM (ev c t)) fun k => if k then oOf a (ev c a) else oOf b (ev c b)
  | .idx a i => bnd (ev c a) fun x => bnd (vOf i (ev c i)) fun y => idxM x y
  | .sl a lo hi => bnd (ev c a) fun x => bnd (evo c lo) fun l => bnd (evo c hi) fun h => lft (slD x.d l h)
  | .rev a => bnd (ev c a) fun x => lft (revD x.d)
  | .call f es => bnd (evs c es) fun ds => callM (c.call f ds none)
  | .blt b es => bnd (evb c es) fun xs => bltM b xs
  | .mth m o es => bnd (ev c o) fun x => if recv m x.d then bnd (evb c es) fun ys => lft (mthD m x.d (ys.map Sl.d)) else stk
  | .isi a t => bnd (ev c a) fun x => lft ((hasTy t x.d).map fun k => .val (.bl k))
  | .isx i k => fun s => match s.sl[i]? with
    | some (some .exc) => (match c.exc with
      | some (q, _) => some (.ok (.val (.bl (c.sub q k))) s)
      | none => none)
    | _ => none
  | .comp elt tg it cond own => bnd (evi c it) fun items => blk own items fun d =>
      bnd (tgD tg d) fun _ => bnd (evc c cond) fun k => if k then bnd (vOf elt (ev c elt)) fun y => pur (some y) else pur none
  | .wcall f th => wcallM (fun t hp => c.call f [] t hp) (vOf th (ev c th))
  | .act i => if i = 0 then actM c.th else stk
  | .lrange t es => bnd (evs c es) fun ds => lft (rangeL t ds)
  | .sortk f e => bnd (ev c e) fun x => match x.d with
    | .lst ds => callM (sortF (fun a hp => c.call f a none hp) ds)
    | _ => stk
def evs (c : Cfg) : Exs → M (List D)
  | .nil => pur []
  | .cons e es => bnd (vOf e (ev c e)) fun d => bnd (evs c es) fun ds => pur (d :: ds)
def evb (c : Cfg) : Exs → M (List Sl)
  | .nil => pur []
  | .cons e es => bnd (ev c e) fun d => bnd (evb c es) fun ds => pur (d :: ds)
def evo (c : Cfg) : Exo → M (Option Int)
  | .none => pur none
  | .some e => bnd (ev c e) fun d => (match d with
    | .val (.int i) => pur (some i)
    | _ => stk)
/-- a comprehension's test -/
def evc (c : Cfg) : Exo → M Bool
  | .none => pur true
  | .some e => testM (ev c e)
def evi (c : Cfg) : It → M (List D)
  | .ex e => bnd (vOf e (ev c e)) fun d => lft (itemsX d)
  | .range es => bnd (evs c es) fun ds => (match ds with
    | [.int n] => if decide (-4611686018427387904 ≤ n) && decide (n < 4611686018427387904) then pur (rangeD n.toNat 0) else stk
    | [.int a, .int b] => if decide (-4611686018427387904 ≤ a) && decide (a < 4611686018427387904) && decide (-4611686018427387904 ≤ b) && decide (b < 4611686018427387904) then pur (rangeD (b - a).toNat a) else stk
    | _ => stk)
  | .enum e => bnd (vOf e (ev c e)) fun d => lft ((itemsD d).map fun xs => enumD xs 0)
  | .zip es => bnd (evs c es) fun ds => lft (zipI ds)
  | .zips e => stk
  | .items e => stk
end

/-! ### statements -/
inductive Fl where
  | nx | rt (v : Sl) | bk | ct
def forL (f : D → M Fl) : List D → M Fl
  | [] => pur .nx
  | x :: xs => bnd (f x) fun r => match r with
    | .nx => forL f xs
    | .ct => forL f xs
    | .bk => pur .nx
    | .rt v => pur (.rt v)
def whileL (t : M Bool) (b : M Fl) : Nat → M Fl
  | 0 => stk
  | n + 1 => bnd t fun k => if k then bnd b fun r => (match r with
    | .nx => whileL t b n
    | .ct => whileL t b n
    | .bk => pur .nx
    | .rt v => pur (.rt v)) else pur .nx
def putOs : List Nat → List Sl → M Unit
  | [], [] => pur ()
  | i :: is, d :: ds => bnd (putS i d) fun _ => putOs is ds
  | _, _ => stk
/-- v[i] = d -/
def setIxM (v : Nat) (i d : D) : M Unit := fun s => match s.sl[v]? with
  | some (some (.val (.ref k))) => (match s.hp[k]? with
    | some (.lst xs) => (match i with
      | .int j => (match ixOf xs.length j with
        | some n => some (.ok () { s with hp := s.hp.set k (.lst (xs.set n d)) })
        | none => none)
      | _ => none)
    | _ => none)
  | some (some (.own xs)) => (match i with
    | .int j => (match ixOf xs.length j with
      | some n => some (.ok () { s with sl := s.sl.set v (some (.own (xs.set n d))) })
      | none => none)
    | _ => none)
  | some (some (.ownd t ks vs)) => (match keyD i with
    | some k => if k.isT = t then (if ks.length < line then some (.ok () { s with sl := s.sl.set v (some (.ownd t (putK k ks) (putV k d ks vs))) }) else none) else none
    | none => none)
  | _ => none
/-- a name's own list -/
def ownL (i : Nat) : M Unit := fun s => match s.sl[i]? with
  | some (some (.own _)) => some (.ok () s)
  | _ => none
/-- the clause's name, where it has one, holds nothing that is known -/
def drop1 (i : Option Nat) (s : S) : S := match i with
  | some i => { s with sl := s.sl.set i none }
  | none => s
/-- the clause's name holds the error -/
def enter1 (i : Option Nat) (s : S) : S := match i with
  | some i => { s with sl := s.sl.set i (some .exc) }
  | none => s
def tryM (sub : Nat → Nat → Bool) (b : M Fl) (c : Nat) (i : Option Nat) (suite : Nat → List D → M Fl) : M Fl := fun s => match b s with
  | some (.exn q fs s1) => if sub q c then (if fs.isEmpty then (match suite q fs (enter1 i s1) with
      | some (.ok r s2) => some (.ok r (drop1 i s2))
      | _ => none) else none)
    else some (.exn q fs s1)
  | r => r
/-- more turns than any while takes -/
def many : Nat := 1000000

/-- the items of a display that is stored part by part -/
def evos (c : Cfg) : Exs → M (List Sl)
  | .nil => pur []
  | .cons e es => bnd (oOf e (ev c e)) fun d => bnd (evos c es) fun ds => pur (d :: ds)
mutual
def exec (c : Cfg) : Stm → M Fl
  | .set i e => bnd (oOf e (ev c e)) fun v => bnd (putS i v) fun _ => pur .nx
  | .setDc i a b tg it cond own => bnd (bnd (evi c it) fun items => blkD own items fun d =>
      bnd (tgD tg d) fun _ => bnd (evc c cond) fun k => if k then bnd (bnd (vOf a (ev c a)) fun x => bnd (vOf b (ev c b)) fun y => pur (D.tup [x, y])) fun y => pur (some y) else pur none) fun v => bnd (putS i v) fun _ => pur .nx
  | .unp is e => bnd (vOf e (ev c e)) fun d => bnd (tgD (.tup is) d) fun _ => pur .nx
  | .par is es => bnd (evos c es) fun vs => bnd (putOs is vs) fun _ => pur .nx
  | .setIx v i e => bnd (vOf e (ev c e)) fun d => bnd (getS v) fun _ => bnd (vOf i (ev c i)) fun y => bnd (setIxM v y d) fun _ => pur .nx
  | .expr e => bnd (ev c e) fun _ => pur .nx
  | .mut m v es t => bnd (ownL v) fun _ => bnd (evs c es) fun ds => bnd (mutS m v ds) fun r => (match t with
    | none => pur .nx
    | some t => bnd (tgD t r.d) fun _ => pur .nx)
  | .ret .none => pur (.rt (.val .non))
  | .ret (.some e) => bnd (ev c e) fun v => pur (.rt v)
  | .ifs t a b => bnd (testM (ev c t)) fun k => if k then execs c a else execs c b
  | .for_ tg it body => bnd (evi c it) fun items => forL (fun d => bnd (tgD tg d) fun _ => execs c body) items
  | .while_ t body => whileL (testM (ev c t)) (execs c body) many
  | .raise q es => bnd (evs c es) fun ds => fun s => some (.exn q ds s)
  | .try_ body q i suite => tryM c.sub (execs c body) q i fun x fs => execs { c with exc := some (x, fs) } suite
  | .pass => pur .nx
  | .brk => pur .bk
  | .cnt => pur .ct
def execs (c : Cfg) : Stms → M Fl
  | .nil => pur .nx
  | .cons st ss => bnd (exec c st) fun r => match r with
    | .nx => execs c ss
    | r => pur r
end

/-! ### defs -/
structure Fd where
  np : Nat
  ns : Nat
  body : Stms
def begin_ (fd : Fd) (ds : List D) : List (Option Sl) := ds.map (fun d => some (.val d)) ++ List.replicate (fd.ns - ds.length) none
/-- entered with a lambda -/
def beginT (fd : Fd) : List (Option Sl) := some .exc :: List.replicate (fd.ns - 1) none
def done : Option (Rs Fl) → Option Rf
  | some (.ok (.rt v) s) => some (.ret v s.hp)
  | some (.ok .nx s) => some (.ret (.val .non) s.hp)
  | some (.exn c fs s) => some (.exn c fs s.hp)
  | _ => none
def run (sub : Nat → Nat → Bool) (ks : List D) (P : List Fd) : Nat → Nat → List D → Th → List Ob → Option Rf
  | 0, _, _, _, _ => none
  | g + 1, f, ds, th, hp => match P[f]? with
    | none => none
    | some fd => match th with
      | none => if ds.length = fd.np then done (execs ⟨run sub ks P g, sub, none, ks, none⟩ fd.body ⟨begin_ fd ds, hp⟩) else none
      | some _ => if fd.np = 1 then done (execs ⟨run sub ks P g, sub, th, ks, none⟩ fd.body ⟨beginT fd, hp⟩) else none
end Kb

set_option Elab.async false
set_option linter.all false
set_option maxRecDepth 100000
set_option maxHeartbeats 4000000
/-! KbSet: sets of numbers and texts: made of a list, gathered into a list. -/
namespace Kb
open PySem PySem.Spec PyProof.Rows L2
instance memK (k : Key) (ks : List Key) : Decidable (k ∈ ks) := @List.instDecidableMemOfLawfulBEq Key instBEqOfDecidableEq inferInstance k ks
def keyAt : Value → Key
  | .int k _ => .inl k
  | .str x _ => .inr x
  | _ => .inl 0
theorem keyAt_of {k : Key} {v : Value} (h : keyIs k v = true) : keyAt v = k := by
  rcases keyIs_shape h with ⟨i, t, rfl, rfl⟩ | ⟨x, t, rfl, rfl⟩ <;> rfl
theorem keyScan {k : Key} {v : Value} (h : keyIs k v = true) : v.scannable = true := by
  rcases keyIs_shape h with ⟨i, t, rfl, rfl⟩ | ⟨x, t, rfl, rfl⟩ <;> rfl
def GoodK (w : World) (e : Int × Value) : Prop := ∃ k, keyIs k e.2 = true ∧ e.1 = keyH w k
abbrev keyE (e : Int × Value) : Key := keyAt e.2
/-- the set at a has just these keys, each once -/
def SetG (w : World) (h : Heap) (a : Addr) (ks : List Key) : Prop :=
  ∃ o es ep t, h.get? a = some o ∧ o.ExactSet ∧ o.data = .set es ep t ∧ (∀ e ∈ es.toList, GoodK w e) ∧ (es.toList.map keyE).Perm ks ∧ ks.Nodup ∧
    es.size < scanBound ∧ t.fits es.size = true ∧ Ris t.place.toList ∧ (w.params.followText "set-order" = true ∨ t.led = true)
def addK (ks : List Key) (k : Key) : List Key := if k ∈ ks then ks else ks ++ [k]
section
variable {P : Program} {w : World} {h h' : Heap} {a : Addr} {ks : List Key}
theorem SetG.at (R : SetG w h a ks) (k : ∀ o, h.get? a = some o → h'.get? a = some o) : SetG w h' a ks := by
  obtain ⟨o, es, ep, t, ho, r⟩ := R
  exact ⟨o, es, ep, t, k o ho, r⟩
theorem goodK_elems {l : List (Int × Value)} (g : ∀ e ∈ l, GoodK w e) : ElemsOf (mixKind P w) l := fun e he => by
  obtain ⟨k, h1, h2⟩ := g e he
  exact ⟨⟨k, h1, h2⟩, keyScan h1⟩
theorem goodK_mem {l : List (Int × Value)} (g : ∀ e ∈ l, GoodK w e) (k : Key) : k ∈ l.map keyE ↔ ∃ e ∈ l, (mixKind P w).is k e.2 = true := by
  rw [List.mem_map]
  constructor
  · rintro ⟨e, he, q⟩
    obtain ⟨k', h1, _⟩ := g e he
    have : k' = k := by rw [← q]; exact (keyAt_of h1).symm
    subst this
    exact ⟨e, he, h1⟩
  · rintro ⟨e, he, q⟩
    exact ⟨e, he, keyAt_of q⟩
theorem SetG.setOf (R : SetG w h a ks) : h.SetOf (mixKind P w) a (fun k => decide (k ∈ ks)) ks.length := by
  obtain ⟨o, es, ep, t, ho, hx, hd, g, pm, nd, hb, hf, _⟩ := R
  refine ⟨o, es, ep, t, ho, hx, hd, goodK_elems g, fun k => ?_, hb, hf, by rw [← pm.length_eq, List.length_map, Array.length_toList]⟩
  rw [decide_eq_true_eq, ← pm.mem_iff]
  exact goodK_mem g k
end
section
variable {P : Program} {w : World} {A : Around} {E : Value → Shared → Prop} {s : Shared} {a : Addr} {ks : List Key}
/-- what is laid, and laid anew where it is too full -/
theorem setG_tail {g : Bool → Sem Unit} (hg : ∀ (b : Bool) (s₁ : Shared) (Q' : Unit → Shared → Prop), Q' () s₁ → wpAny (model P w) A (g b) Q' E s₁)
    {o : Obj} {es : Array (Int × Value)} {ep : Nat} {t : SetTable} (ho : s.heap.get? a = some o) (hex : o.ExactSet) (hd : o.data = .set es ep t)
    {es1 : Array (Int × Value)} {t2 : SetTable} {ks' : List Key} (g1 : ∀ e ∈ es1.toList, GoodK w e) (pk : (es1.toList.map keyE).Perm ks') (nd1 : ks'.Nodup)
    (hb1 : es1.size < scanBound) (hf2 : t2.fits es1.size = true) (hr : Ris t2.place.toList) (hl : w.params.followText "set-order" = true ∨ t2.led = true) {wasDummy : Bool} {R : Option Bool → Shared → Prop}
    (hR : ∀ h', Heap.SameBut a s.heap h' → SetG w h' a ks' → R (some true) { s with heap := h' }) :
    wpAny (model P w) A (do
        storeSet a es1 t2
        if (!wasDummy && t2.tooFull) = true then do
            g (relayAll t2 es1 (SetTable.grown es1.size)).2.2
            storeSet a (relayAll t2 es1 (SetTable.grown es1.size)).1 (relayAll t2 es1 (SetTable.grown es1.size)).2.1
            pure (some true)
          else pure (some true)) R E s := by
  refine wpAny_bind (wpAny_storeSet_of ho hd ?_ (fits_of_scanBound hb1))
  have ho1 := store_at (es' := es1) (t' := t2) ho hd
  have sb1 := Heap.SameBut.update s.heap a (Obj.putSet es1 t2)
  split
  · have pm := relayAll_perm t2 es1 (SetTable.grown es1.size)
    have hf3 := relayAll_fits t2 es1 (SetTable.grown es1.size)
    have hr3 := relayAll_ris t2 es1 (SetTable.grown es1.size)
    have hl3 := relayAll_led t2 es1 (SetTable.grown es1.size)
    generalize relayAll t2 es1 (SetTable.grown es1.size) = Z at pm hf3 hr3 hl3 ⊢
    obtain ⟨es2, t3, gave⟩ := Z
    dsimp only at pm hf3 hr3 hl3 ⊢
    have hsz : es2.size = es1.size := by rw [← Array.length_toList, pm.length_eq, Array.length_toList]
    have hb2 : es2.size < scanBound := by rw [hsz]; exact hb1
    refine wpAny_bind (hg _ _ _ ?_)
    refine wpAny_bind (wpAny_storeSet_of ho1 rfl ?_ (fits_of_scanBound hb2))
    have ho2 := store_at (es' := es2) (t' := t3) ho1 rfl
    exact wpAny_pure (hR _ (sb1.trans (Heap.SameBut.update _ a _)) ⟨_, es2, _, t3, ho2, hex, rfl, fun e he => g1 e (pm.mem_iff.mp he), (pm.map keyE).trans pk, nd1, hb2, hf3, hr3, hl.imp id fun z => by rw [hl3]; exact z⟩)
  · exact wpAny_pure (hR _ sb1 ⟨_, es1, _, t2, ho1, hex, rfl, g1, pk, nd1, hb1, hf2, hr, hl⟩)
theorem setG_add {k : Key} {v : Value} {Q : Bool → Shared → Prop} (R : SetG w s.heap a ks) (hv : keyIs k v = true) (room : ks.length + 1 < scanBound)
    (hQ : ∀ b h', Heap.SameBut a s.heap h' → SetG w h' a (addK ks k) → Q b { s with heap := h' }) :
    wpAny (model P w) A (setAddHashed a v (keyH w k)) Q E s := by
  obtain ⟨o, es, ep, t, ho, hex, hd, g, pm0, nd, hb, hf, hr, hl⟩ := R
  have hkey : (mixKind P w).is k v = true := hv
  have hsc : v.scannable = true := keyScan hv
  have hel : ElemsOf (mixKind P w) es.toList := goodK_elems g
  unfold setAddHashed setAddHashedIn
  refine wpAny_holding (wpAny_bind (wpAny_setState_of ho hd hf ?_))
  dsimp only
  rw [byScan_of hsc hb hel]
  simp only [↓reduceIte]
  unfold setAddByScan
  refine wpAny_bind ?_
  refine wpAny_bind (wpAny_rule ?_)
  refine wpAny_bind (wpAny_setScan_of (knd := mixKind P w) hkey ho hd hf hel ?_)
  cases hfi : List.findIdx? (fun e => (mixKind P w).is k e.2) es.toList with
  | some j =>
    dsimp only
    obtain ⟨hj, pj, _⟩ := List.findIdx?_eq_some_iff_getElem.mp hfi
    have hin : k ∈ ks := pm0.mem_iff.mp ((goodK_mem (P := P) (w := w) g k).2 ⟨es.toList[j], List.getElem_mem hj, pj⟩)
    refine wpAny_pure (wpAny_pure (hQ _ s.heap (Heap.SameBut.refl a s.heap) ?_))
    unfold addK
    rw [if_pos hin]
    exact ⟨o, es, ep, t, ho, hex, hd, g, pm0, nd, hb, hf, hr, hl⟩
  | none =>
    dsimp only
    have hnk : k ∉ ks := fun z => by
      obtain ⟨e, he, q⟩ := (goodK_mem (P := P) (w := w) g k).1 (pm0.mem_iff.mpr z)
      have c := List.findIdx?_eq_none_iff.mp hfi e he
      rw [q] at c
      cases c
    have hgw : ∀ (b : Bool) {s₁ : Shared} {Q' : Unit → Shared → Prop}, Q' () s₁ → wpAny (model P w) A (match b with | true => rule "set.scan.the-table-gave-way" | false => pure ()) Q' E s₁ :=
      fun b s₁ Q' q => by cases b <;> first | exact wpAny_pure q | exact wpAny_rule q
    have eH : (mixKind P w).hash k = keyH w k := rfl
    have pm := layNew_perm t es (keyH w k) v
    have hf1 := layNew_fits t es (keyH w k) v
    have hr1 := layNew_ris t es (keyH w k) v hr
    have hl1 := layNew_led t es (keyH w k) v
    generalize layNew t es (keyH w k) v = Z at pm hf1 hr1 hl1 ⊢
    obtain ⟨es1, t1, wasDummy, gave⟩ := Z
    dsimp only at pm hf1 hr1 hl1 ⊢
    rw [Array.toList_push] at pm
    have pc : es1.toList.Perm ((keyH w k, v) :: es.toList) := pm.trans (List.perm_append_singleton _ _)
    have pk : (es1.toList.map keyE).Perm (ks ++ [k]) := by
      refine (pc.map keyE).trans ?_
      rw [List.map_cons, show keyE (keyH w k, v) = k from keyAt_of hv]
      exact (List.Perm.cons k pm0).trans (List.perm_append_singleton _ _).symm
    have g1 : ∀ e ∈ es1.toList, GoodK w e := fun e he => by
      rcases List.mem_cons.mp (pc.mem_iff.mp he) with z | z
      · rw [z]; exact ⟨k, hv, rfl⟩
      · exact g e z
    have nd1 : (ks ++ [k]).Nodup := by
      rw [List.nodup_append]
      exact ⟨nd, by simp, fun x hx y hy e => hnk (by rw [← List.mem_singleton.mp hy, ← e]; exact hx)⟩
    have hb1 : es1.size < scanBound := by
      rw [← Array.length_toList, pc.length_eq, List.length_cons]
      have := pm0.length_eq
      rw [List.length_map] at this
      omega
    have hled : w.params.followText "set-order" = true ∨ t1.led = true := hl.imp id fun z => by rw [hl1]; exact z
    have fin : ∀ h', Heap.SameBut a s.heap h' → SetG w h' a (ks ++ [k]) → Q true { s with heap := h' } := fun h' sb r => by
      have q := hQ true h' sb
      unfold addK at q
      rw [if_neg hnk] at q
      exact q r
    refine wpAny_bind (hgw _ ?_)
    split
    · refine wpAny_bind ?_
      rw [hashByValue_scannable 8 hsc]
      refine wpAny_pure ?_
      refine setG_tail ?_ ho hex hd g1 pk nd1 hb1 ?_ ?_ ?_ ?_
      · intro b s₁ Q' q; cases b <;> first | exact wpAny_pure q | exact wpAny_rule q
      · first | (split <;> first | exact hf1 | exact SetTable.fits_plain_off hf1) | exact hf1
      · first | (split <;> exact hr1) | exact hr1
      · first | (split <;> exact hled) | exact hled
      · intro h' sb r; dsimp only; exact wpAny_pure (fin h' sb r)
    · refine wpAny_bind (wpAny_pure ?_)
      simp only [↓reduceIte]
      refine setG_tail ?_ ho hex hd g1 pk nd1 hb1 hf1 hr1 hled ?_
      · intro b s₁ Q' q; cases b <;> first | exact wpAny_pure q | exact wpAny_rule q
      · intro h' sb r; dsimp only; exact wpAny_pure (fin h' sb r)
end
/-! ### set(list) -/
def addAll (acc : List Key) : List Key → List Key
  | [] => acc
  | k :: ks => addAll (addK acc k) ks
theorem addAll_snoc : ∀ (l acc : List Key) (k : Key), addAll acc (l ++ [k]) = addK (addAll acc l) k
  | [], _, _ => rfl
  | x :: l, acc, k => addAll_snoc l (addK acc x) k
theorem addK_len (ks : List Key) (k : Key) : (addK ks k).length ≤ ks.length + 1 := by
  unfold addK
  split
  · omega
  · simp
theorem addAll_len : ∀ (l acc : List Key), (addAll acc l).length ≤ acc.length + l.length
  | [], acc => by simp [addAll]
  | x :: l, acc => by
    have a := addAll_len l (addK acc x)
    have b := addK_len acc x
    simp only [addAll, List.length_cons]
    omega
theorem addAll_take (l : List Key) (i : Nat) (k : Key) (h : l[i]? = some k) : addAll [] (l.take (i + 1)) = addK (addAll [] (l.take i)) k := by
  rw [List.take_add_one, h]
  exact addAll_snoc _ _ _
section
variable {prog : Program} {w : World} {A : Around} {R : Result → Shared → Prop} {I : Addr} {fp wr : List Addr} {G : Array GenState → Array GenState → Prop} {n : Nat} {P : Nat → Value → Prop} {St : Nat → Shared → Prop}
theorem loopG (W : WalksS prog w A.in1 I fp wr G n P St) (S : Addr) (hSf : S ∉ fp) (ks : List Key) (hsz : ks.length = n) (hn1 : n + 1 < scanBound)
    (hval : ∀ i v, P i v → ∃ k, ks[i]? = some k ∧ keyIs k v = true) :
    ∀ (k i : Nat) (s : Shared), n - i = k → i ≤ n → St i s → SetG w s.heap S (addAll [] (ks.take i)) →
      (∀ s', Moved (S :: wr) G s s' → SetG w s'.heap S (addAll [] ks) → R (.ok (.ret .none)) s') →
      codeAny (model prog w) A (.builtin "set.update.loop" ⟨[.ref S, .ref I], []⟩) R s := by
  have hSw : S ∉ wr := fun h => hSf (W.sub _ h)
  have hsub : ∀ b ∈ wr, b ∈ S :: wr := fun b hb => List.mem_cons_of_mem _ hb
  intro k
  induction k with
  | zero =>
    intro i s hk hi hst hS hR
    have hin : i = n := by omega
    subst hin
    refine codeAny_builtin PyProof.Rows.F.entry_set_update_loop ?_
    rw [Around.under_plainId PyProof.Rows.F.plain_set_update_loop _]
    show wpAny _ A.in1 (pyNext (.ref I) >>= _) _ _ s
    refine wpAny_bind (W.done s _ _ hst fun s' hm => ?_)
    show wpAny _ A.in1 (ret Value.none) _ _ s'
    refine wpAny_pure (hR s' (hm.mono hsub) ?_)
    rw [← hsz, List.take_length] at hS
    exact hS.at fun o e => hm.heap S _ hSw e
  | succ k ih =>
    intro i s hk hi hst hS hR
    have hlt : i < n := by omega
    refine codeAny_builtin PyProof.Rows.F.entry_set_update_loop ?_
    rw [Around.under_plainId PyProof.Rows.F.plain_set_update_loop _]
    show wpAny _ A.in1 (pyNext (.ref I) >>= _) _ _ s
    refine wpAny_bind (W.item i s _ _ hlt hst fun v s' hP hst' hm => ?_)
    obtain ⟨key, ek, hv⟩ := hval i v hP
    have hS' : SetG w s'.heap S (addAll [] (ks.take i)) := hS.at fun o e => hm.heap S _ hSw e
    show wpAny _ A.in1 (holding [v] (setAdd S v) >>= _) _ _ s'
    refine wpAny_bind (wpAny_holding ?_)
    unfold setAdd
    refine wpAny_holding ?_
    refine wpAny_bind ((mixKind prog w).pyHash (k := key) hv ?_)
    have room : (addAll [] (ks.take i)).length + 1 < scanBound := by
      have := addAll_len (ks.take i) []
      rw [List.length_take] at this
      simp at this
      omega
    refine setG_add (P := prog) (s := { s' with toks := s'.toks + 1 }) hS' hv room fun b h' hsb hS2 => ?_
    rw [← addAll_take ks i key ek] at hS2
    refine wpAny_pure ⟨plainId_quiet PyProof.Rows.F.plain_set_update_loop _, ih (i + 1) _ (by omega) hlt (W.frame _ s' _ _ hst' (Nat.le_succ _) fun b hb o e => ?_) hS2 fun s'' hm'' hS'' => ?_⟩
    · rw [hsb.2 b (fun h : b = S => hSf (by rw [← h]; exact hb))]; exact e
    · refine hR s'' (Moved.trans W.gtrans ((hm.mono hsub).then_heap (Nat.le_succ _) fun b o hb e => ?_) hm'') hS''
      rw [hsb.2 b (fun h : b = S => hb (by rw [h]; exact List.mem_cons_self))]; exact e
end
section
variable {P : Program} {w : World} {A : Around} {E : Value → Shared → Prop} {s : Shared}
theorem setG_new {h : Heap} {a : Addr} (e : h.get? a = some { cls := .type "set", dict := none, data := .set #[] 0 (.fresh 0 0 (!w.params.followText "set-order")) }) : SetG w h a [] :=
  ⟨_, #[], 0, _, e, ⟨rfl, rfl, rfl⟩, rfl, (fun e he => by simp at he), (by simp), List.nodup_nil, (by decide), (by rfl), List.Pairwise.nil, by
    show _ ∨ (!w.params.followText "set-order") = true
    cases w.params.followText "set-order"
    · exact .inr rfl
    · exact .inl rfl⟩
set_option maxHeartbeats 6400000 in
theorem call_setG_list {l : Addr} {items : Array Value} (ks : List Key) {Q : Value → Shared → Prop} (hh : A.handled = none) (hl : s.heap.IsList l items) (hsz : ks.length = items.size) (hval : ∀ (i : Nat) (v : Value), items[i]? = some v → ∃ k, ks[i]? = some k ∧ keyIs k v = true) (hb : ks.length + 1 < scanBound)
    (h : ∀ (h' : Heap) (tk : Nat), SetG w h' s.heap.objs.size (addAll [] ks) → (∀ b o, s.heap.get? b = some o → h'.get? b = some o) → Q (.ref s.heap.objs.size) { s with heap := h', toks := tk }) :
    wpAny (model P w) A (call (.type "set") [.ref l]) Q E s := by
  obtain ⟨c, tl, hmro⟩ := PySem.F.called_set.mro
  have hmade := PySem.F.called_set.made
  have hsub := PySem.F.called_set.sub
  refine wpAny_call (codeAny_of_tree ?_)
  show wpAny _ _ (callAny (.type "set") _) _ _ _
  refine wpAny_pure ⟨Code.quiet_builtin _ (by decide +kernel), codeAny_builtin PySem.F.entry_type_call ?_⟩
  rw [Around.under_plain (weight_type_call_type "set" [.ref l] []) rfl]
  have h1 := PySem.F.called_set.notType
  have h2 := PySem.F.called_set.canCreate
  have hct := PySem.F.typeCall_set_1 (.ref l)
  repeat (any_goals (first | assumption | wp_step))
  refine codeAny_mono (code_set_led1 (.ref l) (E := E) (Q₁ := fun obj s₁ => obj = .ref s.heap.objs.size ∧ s₁ = { s with heap := s.heap.push { cls := .type "set", dict := none, data := .set #[] 0 (.fresh 0 0 (!w.params.followText "set-order")) } }) ⟨rfl, rfl⟩) fun r s₁ hr => ?_
  cases r with
  | error e => exact hr
  | ok fl =>
    cases fl with
    | ret obj =>
      obtain ⟨rfl, rfl⟩ := hr
      have hS : (s.heap.push { cls := .type "set", dict := none, data := .set #[] 0 (.fresh 0 0 (!w.params.followText "set-order")) }).get? s.heap.objs.size = some { cls := .type "set", dict := none, data := .set #[] 0 (.fresh 0 0 (!w.params.followText "set-order")) } := Heap.get?_push_size _ rfl
      have hT : Shared.TypeIs { s with heap := s.heap.push { cls := .type "set", dict := none, data := .set #[] 0 (.fresh 0 0 (!w.params.followText "set-order")) } } (.ref s.heap.objs.size) "set" := ⟨_, hS, rfl⟩
      have hli := PySem.F.called_set.init.lookup
      have hbi := PySem.F.called_set.init.bind (.ref s.heap.objs.size)
      repeat (any_goals (first | assumption | wp_step))
      refine codeAny_mono (codeAny_call_builtin (R := wants (fun r s₂ => r = .none ∧ ∃ h' tk, s₂ = { s with heap := h', toks := tk } ∧ SetG w h' s.heap.objs.size (addAll [] ks) ∧
          (∀ b o, s.heap.get? b = some o → h'.get? b = some o)) E) PySem.F.called_set.init.plain PySem.F.entry_set_init (check_set_init_1 hT ?_)) fun r₂ s₂ hr₂ => ?_
      · obtain ⟨ol, hol, hcl, nl, hdl⟩ := hl
        obtain ⟨ocls, odict, odata, oslots⟩ := ol
        simp only at hcl hdl
        subst hcl; subst hdl
        have hol' : (s.heap.push { cls := .type "set", dict := none, data := .set #[] 0 (.fresh 0 0 (!w.params.followText "set-order")) }).get? l = some { cls := .type "list", dict := odict, data := .seq items nl, slots := oslots } := Heap.get?_push_of_some _ hol
        have hsls := PySem.F.sub_list_set
        have hslf := PySem.F.sub_list_frozenset
        have hne : (Value.type "list" == Value.type "dict") = false := by decide
        have hl1 : (s.heap.push { cls := .type "set", dict := none, data := .set #[] 0 (.fresh 0 0 (!w.params.followText "set-order")) }).IsList l items := ⟨_, hol', rfl, nl, rfl⟩
        unfold Builtin.«set.__init__» noKeywords Builtin.Frozenset.updateFrom
        generalize hPI : pyIter = PI
        wp_walk
        subst hPI
        refine wpAny_pyIter_list hl1 ?_
        refine wpAny_bind (wpAny_runValue ?_)
        have hlS : l < s.heap.objs.size := Heap.lt_size hol
        have hh3 : A.in1.in1.in1.handled = none := by simp [hh]
        have hneI : l ≠ (s.heap.push { cls := .type "set", dict := none, data := .set #[] 0 (.fresh 0 0 (!w.params.followText "set-order")) }).objs.size := by
          rw [Heap.size_push]; exact Nat.ne_of_lt (Nat.lt_succ_of_lt hlS)
        have hSf : s.heap.objs.size ∉ [(s.heap.push { cls := .type "set", dict := none, data := .set #[] 0 (.fresh 0 0 (!w.params.followText "set-order")) }).objs.size, l] := by
          rw [Heap.size_push]; simp only [List.mem_cons, List.mem_singleton, List.not_mem_nil, or_false, not_or]
          exact ⟨Nat.ne_of_lt (Nat.lt_succ_self _), Nat.ne_of_gt hlS⟩
        refine loopG ((Walks.list hh3 _ l hneI items).toS) s.heap.objs.size
          hSf ks hsz (by rw [← hsz]; exact hb) hval (items.size - 0) 0 _ (by omega) (Nat.zero_le _)
          ⟨⟨_, Heap.get?_push_size _ rfl, rfl, rfl⟩, (hl1.push _)⟩ ?hS0 ?hR
        case hS0 =>
          have hget : ((s.heap.push { cls := .type "set", dict := none, data := .set #[] 0 (.fresh 0 0 (!w.params.followText "set-order")) }).push { cls := .type "list_iterator", data := .fields #[.ref l, .int 0 0] }).get? s.heap.objs.size
              = some { cls := .type "set", dict := none, data := .set #[] 0 (.fresh 0 0 (!w.params.followText "set-order")) } := Heap.get?_push_of_some _ hS
          exact setG_new hget
        case hR =>
          intro s' hm hS'
          obtain ⟨h', g2, d', tk', os'⟩ := s'
          have eg : g2 = s.gens := hm.gens
          have ed : d' = s.drawn := hm.drawn
          have eo : os' = s.os := hm.os
          subst eg; subst ed; subst eo
          show wpAny _ _ _ _ _ _
          refine wpAny_pure ?_
          show wpAny _ _ (ret Value.none) _ _ _
          refine wpAny_pure ⟨rfl, h', tk', rfl, hS', fun b o e => ?_⟩
          have hb0 : b < s.heap.objs.size := Heap.lt_size e
          have hb1 : b ≠ s.heap.objs.size := Nat.ne_of_lt hb0
          have hb2 : b ≠ (s.heap.push { cls := .type "set", dict := none, data := .set #[] 0 (.fresh 0 0 (!w.params.followText "set-order")) }).objs.size := by
            rw [Heap.size_push]; exact Nat.ne_of_lt (Nat.lt_succ_of_lt hb0)
          exact hm.heap b o (by simp only [List.mem_cons, List.mem_singleton, List.not_mem_nil, or_false, not_or]; exact ⟨hb1, hb2⟩) (Heap.get?_push_of_some _ (Heap.get?_push_of_some _ e))
      · cases r₂ with
        | error e => exact hr₂
        | ok fl₂ =>
          cases fl₂ with
          | ret r =>
            obtain ⟨rfl, h', tk, rfl, hS', hk'⟩ := hr₂
            repeat (any_goals (first | assumption | wp_step))
            exact h _ _ hS' hk'
          | _ => exact hr₂.elim
    | _ => exact hr.elim
set_option maxHeartbeats 6400000 in
theorem call_setG_tup {l : Addr} {items : Array Value} (ks : List Key) {Q : Value → Shared → Prop} (hh : A.handled = none) (hl : s.heap.IsTuple l items) (hsz : ks.length = items.size) (hval : ∀ (i : Nat) (v : Value), items[i]? = some v → ∃ k, ks[i]? = some k ∧ keyIs k v = true) (hb : ks.length + 1 < scanBound)
    (h : ∀ (h' : Heap) (tk : Nat), SetG w h' s.heap.objs.size (addAll [] ks) → (∀ b o, s.heap.get? b = some o → h'.get? b = some o) → Q (.ref s.heap.objs.size) { s with heap := h', toks := tk }) :
    wpAny (model P w) A (call (.type "set") [.ref l]) Q E s := by
  obtain ⟨c, tl, hmro⟩ := PySem.F.called_set.mro
  have hmade := PySem.F.called_set.made
  have hsub := PySem.F.called_set.sub
  refine wpAny_call (codeAny_of_tree ?_)
  show wpAny _ _ (callAny (.type "set") _) _ _ _
  refine wpAny_pure ⟨Code.quiet_builtin _ (by decide +kernel), codeAny_builtin PySem.F.entry_type_call ?_⟩
  rw [Around.under_plain (weight_type_call_type "set" [.ref l] []) rfl]
  have h1 := PySem.F.called_set.notType
  have h2 := PySem.F.called_set.canCreate
  have hct := PySem.F.typeCall_set_1 (.ref l)
  repeat (any_goals (first | assumption | wp_step))
  refine codeAny_mono (code_set_led1 (.ref l) (E := E) (Q₁ := fun obj s₁ => obj = .ref s.heap.objs.size ∧ s₁ = { s with heap := s.heap.push { cls := .type "set", dict := none, data := .set #[] 0 (.fresh 0 0 (!w.params.followText "set-order")) } }) ⟨rfl, rfl⟩) fun r s₁ hr => ?_
  cases r with
  | error e => exact hr
  | ok fl =>
    cases fl with
    | ret obj =>
      obtain ⟨rfl, rfl⟩ := hr
      have hS : (s.heap.push { cls := .type "set", dict := none, data := .set #[] 0 (.fresh 0 0 (!w.params.followText "set-order")) }).get? s.heap.objs.size = some { cls := .type "set", dict := none, data := .set #[] 0 (.fresh 0 0 (!w.params.followText "set-order")) } := Heap.get?_push_size _ rfl
      have hT : Shared.TypeIs { s with heap := s.heap.push { cls := .type "set", dict := none, data := .set #[] 0 (.fresh 0 0 (!w.params.followText "set-order")) } } (.ref s.heap.objs.size) "set" := ⟨_, hS, rfl⟩
      have hli := PySem.F.called_set.init.lookup
      have hbi := PySem.F.called_set.init.bind (.ref s.heap.objs.size)
      repeat (any_goals (first | assumption | wp_step))
      refine codeAny_mono (codeAny_call_builtin (R := wants (fun r s₂ => r = .none ∧ ∃ h' tk, s₂ = { s with heap := h', toks := tk } ∧ SetG w h' s.heap.objs.size (addAll [] ks) ∧
          (∀ b o, s.heap.get? b = some o → h'.get? b = some o)) E) PySem.F.called_set.init.plain PySem.F.entry_set_init (check_set_init_1 hT ?_)) fun r₂ s₂ hr₂ => ?_
      · obtain ⟨ol, hol, hcl, nl, hdl⟩ := hl
        obtain ⟨ocls, odict, odata, oslots⟩ := ol
        simp only at hcl hdl
        subst hcl; subst hdl
        have hol' : (s.heap.push { cls := .type "set", dict := none, data := .set #[] 0 (.fresh 0 0 (!w.params.followText "set-order")) }).get? l = some { cls := .type "tuple", dict := odict, data := .seq items nl, slots := oslots } := Heap.get?_push_of_some _ hol
        have hsls := F.sub_tuple_set
        have hslf := F.sub_tuple_frozenset
        have hne : (Value.type "tuple" == Value.type "dict") = false := by decide
        have hl1 : (s.heap.push { cls := .type "set", dict := none, data := .set #[] 0 (.fresh 0 0 (!w.params.followText "set-order")) }).IsTuple l items := ⟨_, hol', rfl, nl, rfl⟩
        unfold Builtin.«set.__init__» noKeywords Builtin.Frozenset.updateFrom
        generalize hPI : pyIter = PI
        wp_walk
        subst hPI
        refine wpAny_pyIter_tuple hl1 ?_
        refine wpAny_bind (wpAny_runValue ?_)
        have hlS : l < s.heap.objs.size := Heap.lt_size hol
        have hh3 : A.in1.in1.in1.handled = none := by simp [hh]
        have hneI : l ≠ (s.heap.push { cls := .type "set", dict := none, data := .set #[] 0 (.fresh 0 0 (!w.params.followText "set-order")) }).objs.size := by
          rw [Heap.size_push]; exact Nat.ne_of_lt (Nat.lt_succ_of_lt hlS)
        have hSf : s.heap.objs.size ∉ [(s.heap.push { cls := .type "set", dict := none, data := .set #[] 0 (.fresh 0 0 (!w.params.followText "set-order")) }).objs.size, l] := by
          rw [Heap.size_push]; simp only [List.mem_cons, List.mem_singleton, List.not_mem_nil, or_false, not_or]
          exact ⟨Nat.ne_of_lt (Nat.lt_succ_self _), Nat.ne_of_gt hlS⟩
        refine loopG ((Walks.tuple hh3 _ l hneI items).toS) s.heap.objs.size
          hSf ks hsz (by rw [← hsz]; exact hb) hval (items.size - 0) 0 _ (by omega) (Nat.zero_le _)
          ⟨⟨_, Heap.get?_push_size _ rfl, rfl, rfl⟩, (hl1.push _)⟩ ?hS0 ?hR
        case hS0 =>
          have hget : ((s.heap.push { cls := .type "set", dict := none, data := .set #[] 0 (.fresh 0 0 (!w.params.followText "set-order")) }).push { cls := .type "tuple_iterator", data := .fields #[.ref l, .int 0 0] }).get? s.heap.objs.size
              = some { cls := .type "set", dict := none, data := .set #[] 0 (.fresh 0 0 (!w.params.followText "set-order")) } := Heap.get?_push_of_some _ hS
          exact setG_new hget
        case hR =>
          intro s' hm hS'
          obtain ⟨h', g2, d', tk', os'⟩ := s'
          have eg : g2 = s.gens := hm.gens
          have ed : d' = s.drawn := hm.drawn
          have eo : os' = s.os := hm.os
          subst eg; subst ed; subst eo
          show wpAny _ _ _ _ _ _
          refine wpAny_pure ?_
          show wpAny _ _ (ret Value.none) _ _ _
          refine wpAny_pure ⟨rfl, h', tk', rfl, hS', fun b o e => ?_⟩
          have hb0 : b < s.heap.objs.size := Heap.lt_size e
          have hb1 : b ≠ s.heap.objs.size := Nat.ne_of_lt hb0
          have hb2 : b ≠ (s.heap.push { cls := .type "set", dict := none, data := .set #[] 0 (.fresh 0 0 (!w.params.followText "set-order")) }).objs.size := by
            rw [Heap.size_push]; exact Nat.ne_of_lt (Nat.lt_succ_of_lt hb0)
          exact hm.heap b o (by simp only [List.mem_cons, List.mem_singleton, List.not_mem_nil, or_false, not_or]; exact ⟨hb1, hb2⟩) (Heap.get?_push_of_some _ (Heap.get?_push_of_some _ e))
      · cases r₂ with
        | error e => exact hr₂
        | ok fl₂ =>
          cases fl₂ with
          | ret r =>
            obtain ⟨rfl, h', tk, rfl, hS', hk'⟩ := hr₂
            repeat (any_goals (first | assumption | wp_step))
            exact h _ _ hS' hk'
          | _ => exact hr₂.elim
    | _ => exact hr.elim
end
def SetV (w : World) (a : Addr) (ks : List Key) : HO := .ext fun h => SetG w h a ks
theorem setV_ok {P : Program} {w : World} {H : Hp} {h : Heap} {a : Addr} {ks : List Key} (R : SetG w h a ks) : ObjOk P w H h a (SetV w a ks) := by
  have ⟨o, _, _, _, ho, _⟩ := R
  exact ⟨R, ⟨o, ho⟩, fun h1 h2 p k => SetG.at p k⟩
theorem setV_get {X : Cx} {pins : List (Addr × Obj)} {σ : L2.St} {H : Hp} {s : Shared} {a : Addr} {ks : List Key} (I : Inv X pins σ H s) (e : H a = some (SetV X.w a ks)) : SetG X.w s.heap a ks := (I.hok a _ e).1
theorem setV_nc {w : World} {a : Addr} {ks : List Key} : ∀ c q, SetV w a ks ≠ LamX.CodeO c q := fun c q e => by
  have e : (fun h : Heap => SetG w h a ks) = (fun h => ∃ (oc : Obj) (vs : Array Value) (t : Tok), h.get? c = some oc ∧ oc.data = .fields vs ∧ vs[1]? = some (.str q t)) := by
    injection e
  let o : Obj := { cls := .type "x", data := .fields #[.none, .str q 0] }
  let h0 : Heap := ⟨Array.replicate (c + 1) o, {}⟩
  have g : ∀ b, b < c + 1 → h0.get? b = some o := fun b hb => by
    unfold Heap.get?
    simp [h0, o, hb]
  have g2 : ∀ b u, h0.get? b = some u → u = o := fun b u hu => by
    by_cases hb : b < c + 1
    · rw [g b hb] at hu
      exact (Option.some.inj hu).symm
    · unfold Heap.get? at hu
      simp [h0, hb] at hu
  have p : (fun h => ∃ (oc : Obj) (vs : Array Value) (t : Tok), h.get? c = some oc ∧ oc.data = .fields vs ∧ vs[1]? = some (.str q t)) h0 := ⟨o, _, 0, g c (Nat.lt_succ_self c), rfl, rfl⟩
  rw [← e] at p
  obtain ⟨o', es, ep, t, ho, _, hd, _⟩ := p
  rw [g2 _ _ ho] at hd
  cases hd
end Kb

set_option Elab.async false
set_option linter.all false
set_option maxRecDepth 100000
set_option maxHeartbeats 4000000
/-! KbRel: how the small language's values lie in the layer's abstract heap. -/
namespace Kb
open PySem PySem.Spec PyProof.Rows L2

abbrev Fg := PySem.W.Frag
/-- a text -/
def St (l : List Nat) : Str := ⟨l.toArray⟩
theorem St_len (l : List Nat) : (St l).length = l.length := by simp [St, Str.length]
theorem St_list (l : List Nat) : (St l).cps.toList = l := by simp [St]
theorem St_inj {a b : List Nat} (h : St a = St b) : a = b := by
  have := congrArg (fun s : Str => s.cps.toList) h
  simpa [St] using this
theorem line_eq : sizeLine = line := by rw [sizeLine_eq]

/-- the ghost: where the heap's things lie, what is frozen -/
structure Gh where
  m : List Addr
  F : Addr → Prop
/-- what never changes while a law runs: the written part, the world, the classes, the tables of code objects -/
structure Cn where
  K : Fg
  w : World
  cls : Nat → Addr
  T : List (Addr × Str)
  /-- the caught error -/
  exa : Nat → Option Addr := fun _ => none
  /-- a heap that was: what was frozen there still is -/
  kg : Gh := ⟨[], fun _ => False⟩
  kh : Hp := fun _ => none
def KLst (K : Fg) (a : Addr) (xs : List V) : Prop :=
  ∃ (o : Obj) (its : Array Value) (n : Nat), K.lookup a = some o ∧ o.cls = .type "list" ∧ o.dict = none ∧ o.data = .seq its n ∧ its.size ≤ sizeLine ∧ Vals xs its.toList
def KTup (K : Fg) (a : Addr) (xs : List V) : Prop :=
  ∃ (o : Obj) (its : Array Value) (n : Nat), K.lookup a = some o ∧ o.cls = .type "tuple" ∧ o.data = .seq its n ∧ its.size ≤ sizeLine ∧ Vals xs its.toList
def keyK : Ka → Key
  | .i n => .inl n
  | .s x => .inr (St x)
def idxT (k : List Nat) : List (List Nat) → Option Nat
  | [] => none
  | q :: ks => if k = q then some 0 else (idxT k ks).map (· + 1)
/-- a written dict with text keys -/
def KDic (N : Cn) (a : Addr) (ks : List (List Nat)) (vs : List V) : Prop :=
  (∃ es n, KDict N.K N.w a es n) ∧ ks.length = vs.length ∧ (∀ x, idxT x ks = none → PySem.W.nsIn N.K a (St x) = some none) ∧
  ∀ x j, idxT x ks = some j → ∃ u v, PySem.W.nsIn N.K a (St x) = some (some u) ∧ vs[j]? = some v ∧ RelV v u
def TupAt (N : Cn) (γ : Gh) (H : Hp) (a : Addr) (vs : List V) : Prop := (γ.F a ∧ H a = some (.tup vs)) ∨ KTup N.K a vs
def LstAt (N : Cn) (γ : Gh) (H : Hp) (a : Addr) (vs : List V) : Prop := γ.F a ∧ H a = some (.lst vs)
def ScrAt (N : Cn) (γ : Gh) (H : Hp) (a : Addr) (vs : List V) : Prop := (γ.F a ∧ (H a = some (.lst vs) ∨ ∃ o, H a = some (.frz o (.lst vs)))) ∨ KLst N.K a vs
/-- a text's codes are codes -/
def Txt (x : List Nat) : Prop := ∀ c ∈ x, c < 0x110000
/-- a dict's entries -/
def zipK (ks : List Ky) (vs : List V) : Option (List (Key × V)) := match ks, vs with
  | [], [] => some []
  | .a k :: ks, v :: vs => match zipK ks vs with
    | some r => some ((keyK k, v) :: r)
    | none => none
  | _, _ => none
def txtKy : Ky → Bool
  | .a (.s x) => x.all fun c => decide (c < 0x110000)
  | _ => true
/-- what stands at a dict's address -/
def dicO (t : Bool) (ks : List Ky) (vs : List V) : Option HO := match t with
  | false => if ks.all txtKy then (zipK ks vs).map .dK else none
  | true => none
theorem dicO_inv {t : Bool} {ks : List Ky} {vs : List V} {o : HO} (h : dicO t ks vs = some o) : t = false ∧ ks.all txtKy = true ∧ ∃ kvs, zipK ks vs = some kvs ∧ o = .dK kvs := by
  unfold dicO at h
  cases t with
  | true => cases h
  | false =>
    dsimp only at h
    split at h
    · rename_i c
      cases hz : zipK ks vs with
      | none => rw [hz] at h; cases h
      | some kvs => rw [hz] at h; cases h; exact ⟨rfl, c, kvs, rfl, rfl⟩
    · cases h
theorem dicO_of {ks : List Ky} {vs : List V} {kvs : List (Key × V)} (h : zipK ks vs = some kvs) (c : ks.all txtKy = true) : dicO false ks vs = some (.dK kvs) := by
  unfold dicO
  dsimp only
  rw [if_pos c, h]
  rfl
def DicAt (N : Cn) (γ : Gh) (H : Hp) (a : Addr) (ks : List Ky) (vs : List V) : Prop := γ.F a ∧ ∃ t o, dicO t ks vs = some o ∧ Rd H a o

def SetAtF (N : Cn) (γ : Gh) (H : Hp) (a : Addr) (ks : List Ka) : Prop := γ.F a ∧ H a = some (SetV N.w a (ks.map keyK)) ∧ ∀ x, Ka.s x ∈ ks → Txt x
mutual
def Rel (N : Cn) (γ : Gh) (H : Hp) : D → V → Prop
  | .non, v => v = .non
  | .bl b, v => v = .bl b
  | .int i, v => v = .int i
  | .str x, v => v = .str (St x) ∧ Txt x
  | .tup ds, v => ∃ a vs, v = .ref a ∧ TupAt N γ H a vs ∧ RelL N γ H ds vs
  | .lst ds, v => ∃ a vs, v = .ref a ∧ LstAt N γ H a vs ∧ RelL N γ H ds vs
  | .dic ks ds, v => ∃ a vs, v = .ref a ∧ DicAt N γ H a ks vs ∧ RelL N γ H ds vs
  | .set ks, v => ∃ a, v = .ref a ∧ SetAtF N γ H a ks
  | .ref k, v => ∃ a, v = .ref a ∧ γ.m[k]? = some a
  | .scr ns, v => ∃ a, v = .ref a ∧ ScrAt N γ H a (ns.map V.int)
  | .kdic ks ds, v => ∃ a vs, v = .ref a ∧ KDic N a ks vs ∧ RelL N γ H ds vs
def RelL (N : Cn) (γ : Gh) (H : Hp) : List D → List V → Prop
  | [], vs => vs = []
  | d :: ds, vs => ∃ v r, vs = v :: r ∧ Rel N γ H d v ∧ RelL N γ H ds r
end

/-- a thing stands; a dict may have been locked -/
def Stl (f : Prop) (H' : Hp) (a : Addr) (o : HO) : Prop := H' a = some o ∨ (f ∧ ∃ kvs od, o = .dK kvs ∧ H' a = some (.frz od (.dK kvs)))
theorem Stl.eq {f : Prop} {H' : Hp} {a : Addr} {o : HO} (h : Stl f H' a o) (n : ∀ kvs, o ≠ .dK kvs) : H' a = some o := by
  rcases h with h | ⟨_, kvs, _, e, _⟩
  · exact h
  · exact absurd e (n kvs)
theorem Stl.own {f : Prop} {H' : Hp} {a : Addr} {o : HO} (h : Stl f H' a o) (n : ¬f) : H' a = some o := by
  rcases h with h | ⟨z, _⟩
  · exact h
  · exact absurd z n
theorem Stl.mono {f g : Prop} {H' : Hp} {a : Addr} {o : HO} (h : Stl f H' a o) (k : f → g) : Stl g H' a o := h.imp id fun ⟨z, r⟩ => ⟨k z, r⟩
theorem Stl.rd {f : Prop} {H' : Hp} {a : Addr} {o : HO} (h : Stl f H' a o) : Rd H' a o := by
  rcases h with h | ⟨_, kvs, od, e, h⟩
  · exact .inl h
  · subst e; exact .inr ⟨od, h⟩
theorem Stl.trans {f g : Prop} {H1 H2 : Hp} {a : Addr} {o : HO} (h : Stl f H1 a o) (k : ∀ u, H1 a = some u → u = o ∨ (∃ od, u = .frz od o) → Stl g H2 a u) (fg : f → g) : Stl g H2 a o := by
  rcases h with h | ⟨z, kvs, od, e, h⟩
  · exact k o h (.inl rfl)
  · subst e
    exact .inr ⟨fg z, kvs, od, rfl, (k _ h (.inr ⟨od, rfl⟩)).eq fun _ z => nomatch z⟩
/-- what was known stays known -/
structure Keep (γ : Gh) (H : Hp) (γ' : Gh) (H' : Hp) : Prop where
  pre : ∀ (k : Nat) a, γ.m[k]? = some a → γ'.m[k]? = some a
  fm : ∀ a, γ.F a → γ'.F a
  fr' : ∀ a o, γ.F a → H a = some o → (∀ ps, o ≠ .tbl ps) → Stl True H' a o
theorem Keep.fr {γ : Gh} {H : Hp} {γ' : Gh} {H' : Hp} (k : Keep γ H γ' H') (a : Addr) (o : HO) (f : γ.F a) (h : H a = some o) (t : ∀ ps, o ≠ .tbl ps) (n : ∀ kvs, o ≠ .dK kvs := by exact fun _ z => nomatch z) : H' a = some o := (k.fr' a o f h t).eq n
theorem Keep.trans {γ γ1 γ2 : Gh} {H H1 H2 : Hp} (a : Keep γ H γ1 H1) (b : Keep γ1 H1 γ2 H2) : Keep γ H γ2 H2 :=
  ⟨fun k x h => b.pre k x (a.pre k x h), fun x h => b.fm x (a.fm x h), fun x o f h t => (a.fr' x o f h t).trans (g := True) (fun u hu e => b.fr' x u (a.fm x f) hu (by rcases e with rfl | ⟨od, rfl⟩; exact t; exact fun _ z => nomatch z)) fun z => z⟩
theorem Keep.refl (γ : Gh) (H : Hp) : Keep γ H γ H := ⟨fun _ _ h => h, fun _ h => h, fun _ _ _ h _ => .inl h⟩

section
variable {N : Cn} {γ γ' : Gh} {H H' : Hp}
theorem TupAt.keep (k : Keep γ H γ' H') {a vs} (h : TupAt N γ H a vs) : TupAt N γ' H' a vs := by
  rcases h with ⟨f, e⟩ | h
  · exact .inl ⟨k.fm _ f, k.fr _ _ f e (fun _ z => nomatch z)⟩
  · exact .inr h
theorem LstAt.keep (k : Keep γ H γ' H') {a vs} (h : LstAt N γ H a vs) : LstAt N γ' H' a vs :=
  ⟨k.fm _ h.1, k.fr _ _ h.1 h.2 (fun _ z => nomatch z)⟩
theorem ScrAt.keep (k : Keep γ H γ' H') {a vs} (h : ScrAt N γ H a vs) : ScrAt N γ' H' a vs := by
  rcases h with ⟨f, e | ⟨o, e⟩⟩ | h
  · exact .inl ⟨k.fm _ f, .inl (k.fr _ _ f e (fun _ z => nomatch z))⟩
  · exact .inl ⟨k.fm _ f, .inr ⟨o, k.fr _ _ f e (fun _ z => nomatch z)⟩⟩
  · exact .inr h
theorem SetAtF.keep (k : Keep γ H γ' H') {a ks} (h : SetAtF N γ H a ks) : SetAtF N γ' H' a ks :=
  ⟨k.fm _ h.1, k.fr _ _ h.1 h.2.1 (fun _ z => nomatch z), h.2.2⟩
theorem dicO_ne {t ks vs o} (h : dicO t ks vs = some o) : ∀ ps, o ≠ .tbl ps := by
  intro ps e
  subst e
  obtain ⟨_, _, kvs, _, e⟩ := dicO_inv h
  cases e
theorem DicAt.keep (k : Keep γ H γ' H') {a ks vs} (h : DicAt N γ H a ks vs) : DicAt N γ' H' a ks vs := by
  obtain ⟨f, t, o, eo, e⟩ := h
  refine ⟨k.fm _ f, t, o, eo, ?_⟩
  rcases e with e | ⟨od, e⟩
  · exact (k.fr' _ _ f e (dicO_ne eo)).rd
  · exact .inr ⟨od, k.fr _ _ f e (fun _ z => nomatch z)⟩
mutual
theorem Rel.keep (k : Keep γ H γ' H') : ∀ {d : D} {v : V}, Rel N γ H d v → Rel N γ' H' d v
  | .non, _, h => h
  | .bl _, _, h => h
  | .int _, _, h => h
  | .str _, _, h => h
  | .tup ds, _, ⟨a, vs, e, h, r⟩ => ⟨a, vs, e, h.keep k, RelL.keep k r⟩
  | .lst ds, _, ⟨a, vs, e, h, r⟩ => ⟨a, vs, e, h.keep k, RelL.keep k r⟩
  | .dic ks ds, _, ⟨a, vs, e, h, r⟩ => ⟨a, vs, e, h.keep k, RelL.keep k r⟩
  | .set ks, _, ⟨a, e, h⟩ => ⟨a, e, h.keep k⟩
  | .ref q, _, ⟨a, e, h⟩ => ⟨a, e, k.pre _ _ h⟩
  | .scr ns, _, ⟨a, e, h⟩ => ⟨a, e, h.keep k⟩
  | .kdic ks ds, _, ⟨a, vs, e, h, r⟩ => ⟨a, vs, e, h, RelL.keep k r⟩
theorem RelL.keep (k : Keep γ H γ' H') : ∀ {ds : List D} {vs : List V}, RelL N γ H ds vs → RelL N γ' H' ds vs
  | [], _, h => h
  | d :: ds, _, ⟨v, r, e, h, t⟩ => ⟨v, r, e, Rel.keep k h, RelL.keep k t⟩
end
theorem RelL.length : ∀ {ds : List D} {vs : List V}, RelL N γ H ds vs → ds.length = vs.length
  | [], _, h => by cases h; rfl
  | d :: ds, _, ⟨v, r, e, h, t⟩ => by subst e; simp [RelL.length t]
theorem RelL.nil_iff {vs : List V} : RelL N γ H [] vs ↔ vs = [] := Iff.rfl
theorem RelL.cons_iff {d : D} {ds : List D} {v : V} {vs : List V} : RelL N γ H (d :: ds) (v :: vs) ↔ Rel N γ H d v ∧ RelL N γ H ds vs := by
  constructor
  · rintro ⟨v', r, e, h, t⟩
    cases e
    exact ⟨h, t⟩
  · rintro ⟨h, t⟩
    exact ⟨v, vs, rfl, h, t⟩
theorem RelL.cons {d : D} {ds : List D} {v : V} {vs : List V} (h : Rel N γ H d v) (t : RelL N γ H ds vs) : RelL N γ H (d :: ds) (v :: vs) := ⟨v, vs, rfl, h, t⟩
theorem RelL.append : ∀ {as bs : List D} {us vs : List V}, RelL N γ H as us → RelL N γ H bs vs → RelL N γ H (as ++ bs) (us ++ vs)
  | [], _, _, _, h, t => by cases h; exact t
  | a :: as, _, _, _, ⟨v, r, e, h, t⟩, q => by subst e; exact .cons h (RelL.append t q)
theorem RelL.get : ∀ {ds : List D} {vs : List V} {i : Nat} {d : D}, RelL N γ H ds vs → ds[i]? = some d → ∃ v, vs[i]? = some v ∧ Rel N γ H d v
  | [], _, _, _, _, e => by simp at e
  | a :: as, _, 0, d, ⟨v, r, e, h, t⟩, q => by subst e; simp at q; subst q; exact ⟨v, rfl, h⟩
  | a :: as, _, i + 1, d, ⟨v, r, e, h, t⟩, q => by subst e; exact RelL.get (i := i) t (by simpa using q)
theorem RelL.take : ∀ (n : Nat) {ds : List D} {vs : List V}, RelL N γ H ds vs → RelL N γ H (ds.take n) (vs.take n)
  | 0, _, _, _ => rfl
  | n + 1, [], _, h => by cases h; rfl
  | n + 1, d :: ds, _, ⟨v, r, e, h, t⟩ => by subst e; exact .cons h (RelL.take n t)
theorem RelL.drop : ∀ (n : Nat) {ds : List D} {vs : List V}, RelL N γ H ds vs → RelL N γ H (ds.drop n) (vs.drop n)
  | 0, _, _, h => h
  | n + 1, [], _, h => by cases h; rfl
  | n + 1, d :: ds, _, ⟨v, r, e, h, t⟩ => by subst e; exact RelL.drop n t
theorem RelL.set : ∀ (n : Nat) {ds : List D} {vs : List V} {d : D} {v : V}, RelL N γ H ds vs → Rel N γ H d v → RelL N γ H (ds.set n d) (vs.set n v)
  | _, [], _, _, _, h, _ => by cases h; rfl
  | 0, a :: ds, _, d, v, ⟨u, r, e, h, t⟩, q => by subst e; exact .cons q t
  | n + 1, a :: ds, _, d, v, ⟨u, r, e, h, t⟩, q => by subst e; exact .cons h (RelL.set n t q)
theorem RelL.dropLast : ∀ {ds : List D} {vs : List V}, RelL N γ H ds vs → RelL N γ H ds.dropLast vs.dropLast := fun {ds vs} h => by
  rw [List.dropLast_eq_take, List.dropLast_eq_take, ← h.length]
  exact h.take _
theorem RelL.reverse : ∀ {ds : List D} {vs : List V}, RelL N γ H ds vs → RelL N γ H ds.reverse vs.reverse
  | [], _, h => by cases h; rfl
  | d :: ds, _, ⟨v, r, e, h, t⟩ => by
    subst e
    rw [List.reverse_cons, List.reverse_cons]
    exact (RelL.reverse t).append (.cons h rfl)
theorem RelL.flatten_replicate {ds : List D} {vs : List V} (h : RelL N γ H ds vs) : ∀ n, RelL N γ H (List.replicate n ds).flatten (List.replicate n vs).flatten
  | 0 => rfl
  | n + 1 => by
    rw [List.replicate_succ, List.replicate_succ, List.flatten_cons, List.flatten_cons]
    exact h.append (RelL.flatten_replicate h n)
theorem RelL.getLast? {ds : List D} {vs : List V} {d : D} (h : RelL N γ H ds vs) (e : ds.getLast? = some d) : ∃ v, vs[vs.length - 1]? = some v ∧ Rel N γ H d v := by
  rw [List.getLast?_eq_getElem?] at e
  rw [← h.length]
  exact h.get e
theorem RelL.ints : ∀ {ns : List Int}, RelL N γ H (ns.map D.int) (ns.map V.int)
  | [] => rfl
  | n :: ns => .cons rfl RelL.ints
theorem RelL.of_ints : ∀ {ns : List Int} {vs : List V}, RelL N γ H (ns.map D.int) vs → vs = ns.map V.int
  | [], _, h => h
  | n :: ns, _, ⟨v, r, e, h, t⟩ => by subst e; cases h; rw [RelL.of_ints t]; rfl
theorem RelL.of_strs : ∀ {ds : List D} {ss : List (List Nat)} {vs : List V}, txts ds = some ss → RelL N γ H ds vs → vs = (ss.map St).map V.str
  | [], ss, vs, e, h => by cases e; exact h
  | .str x :: ds, ss, vs, e, ⟨v, r, e1, h, t⟩ => by
    unfold txts at e
    cases q : txts ds with
    | none => rw [q] at e; cases e
    | some xs =>
      rw [q] at e
      cases e
      subst e1
      obtain ⟨rfl, _⟩ := h
      rw [RelL.of_strs q t]
      rfl
  | .non :: _, _, _, e, _ => by cases e
  | .bl _ :: _, _, _, e, _ => by cases e
  | .int _ :: _, _, _, e, _ => by cases e
  | .tup _ :: _, _, _, e, _ => by cases e
  | .lst _ :: _, _, _, e, _ => by cases e
  | .dic _ _ :: _, _, _, e, _ => by cases e
  | .set _ :: _, _, _, e, _ => by cases e
  | .ref _ :: _, _, _, e, _ => by cases e
  | .scr _ :: _, _, _, e, _ => by cases e
  | .kdic _ _ :: _, _, _, e, _ => by cases e
theorem RelL.of_bools : ∀ {ds : List D} {bs : List Bool} {vs : List V}, bools ds = some bs → RelL N γ H ds vs → vs = bs.map V.bl
  | [], ss, vs, e, h => by cases e; exact h
  | .bl x :: ds, ss, vs, e, ⟨v, r, e1, h, t⟩ => by
    unfold bools at e
    cases q : bools ds with
    | none => rw [q] at e; cases e
    | some xs =>
      rw [q] at e
      cases e
      subst e1
      cases h
      rw [RelL.of_bools q t]
      rfl
  | .non :: _, _, _, e, _ => by cases e
  | .str _ :: _, _, _, e, _ => by cases e
  | .int _ :: _, _, _, e, _ => by cases e
  | .tup _ :: _, _, _, e, _ => by cases e
  | .lst _ :: _, _, _, e, _ => by cases e
  | .dic _ _ :: _, _, _, e, _ => by cases e
  | .set _ :: _, _, _, e, _ => by cases e
  | .ref _ :: _, _, _, e, _ => by cases e
  | .scr _ :: _, _, _, e, _ => by cases e
  | .kdic _ _ :: _, _, _, e, _ => by cases e
end

/-! ### states -/
/-- the list, the dict that slot i alone holds -/
def isOwn (s : List (Option Sl)) (i : Nat) : Prop := (∃ xs, s[i]? = some (some (.own xs))) ∨ ∃ t ks vs, s[i]? = some (some (.ownd t ks vs))
/-- what may be written -/
def Wr (γ : Gh) (σ : L2.St) (s : List (Option Sl)) (a : Addr) : Prop := a ∈ γ.m ∨ ∃ i, isOwn s i ∧ σ[i]? = some (some (.ref a))

/-- nothing is known to stand there but a table -/
def Nn (H : Hp) (a : Addr) : Prop := ∀ o, H a = some o → ∃ ps, o = .tbl ps
theorem Nn.of {H : Hp} {a : Addr} (h : H a = none) : Nn H a := fun o e => by rw [h] at e; cases e
theorem Nn.no {H : Hp} {a : Addr} {o : HO} (n : Nn H a) (h : H a = some o) (t : ∀ ps, o ≠ .tbl ps) : False := let ⟨ps, e⟩ := n o h; t ps e
theorem Nn.lst {H : Hp} {a : Addr} {vs : List V} (n : Nn H a) (h : H a = some (.lst vs)) : False := n.no h (fun _ z => nomatch z)
theorem nn_upd {H : Hp} {a p : Addr} {o : HO} (h : Nn (upd H p o) a) (t : ∀ ps, o ≠ .tbl ps) : a ≠ p ∧ Nn H a := by
  have ne : a ≠ p := by
    rintro rfl
    exact h.no upd_same t
  exact ⟨ne, fun u e => h u (by rw [upd_ne ne]; exact e)⟩
theorem dicO_nc {t : Bool} {ks : List Ky} {vs : List V} {o : HO} (h : dicO t ks vs = some o) : ∀ c q, o ≠ LamX.CodeO c q := by
  intro c q e
  subst e
  obtain ⟨_, _, kvs, _, e⟩ := dicO_inv h
  cases e
theorem cf_upd {H : Hp} {F : Addr → Prop} {p : Addr} {o : HO} (h : ∀ a q, H a = some (LamX.CodeO a q) → F a) (nc : ∀ c q, o ≠ LamX.CodeO c q) : ∀ a q, upd H p o a = some (LamX.CodeO a q) → F a := fun a q e => by
  by_cases z : a = p
  · subst z
    rw [upd_same] at e
    exact absurd (Option.some.inj e) (nc _ _)
  · rw [upd_ne z] at e
    exact h a q e
/-- the heap's things -/
structure HR (N : Cn) (γ : Gh) (H : Hp) (hp : List Ob) : Prop where
  nd : γ.m.Nodup
  len : γ.m.length = hp.length
  at_ : ∀ (k : Nat) xs, hp[k]? = some (.lst xs) → ∃ a vs, γ.m[k]? = some a ∧ H a = some (.lst vs) ∧ RelL N γ H xs vs
  nf : ∀ a ∈ γ.m, ¬γ.F a
  fz : ∀ a, γ.F a → ¬Nn H a
  tabs : LamX.Tabs N.T H
  kb : Keep N.kg N.kh γ H
  cf : ∀ a q, H a = some (LamX.CodeO a q) → γ.F a

structure SR (N : Cn) (γ : Gh) (σ : L2.St) (H : Hp) (s : S) : Prop where
  hr : HR N γ H s.hp
  len : s.sl.length = σ.length
  val : ∀ (i : Nat) d, s.sl[i]? = some (some (.val d)) → ∃ v, σ[i]? = some (some v) ∧ Rel N γ H d v
  own : ∀ (i : Nat) xs, s.sl[i]? = some (some (.own xs)) → ∃ a vs, σ[i]? = some (some (.ref a)) ∧ H a = some (.lst vs) ∧ RelL N γ H xs vs
  ownd : ∀ (i : Nat) t ks ds, s.sl[i]? = some (some (.ownd t ks ds)) → ∃ a vs o, σ[i]? = some (some (.ref a)) ∧ dicO t ks vs = some o ∧ H a = some o ∧ RelL N γ H ds vs
  sep : ∀ (i j : Nat) a, isOwn s.sl i → isOwn s.sl j → σ[i]? = some (some (.ref a)) → σ[j]? = some (some (.ref a)) → i = j
  nf : ∀ (i : Nat) a, isOwn s.sl i → σ[i]? = some (some (.ref a)) → ¬γ.F a ∧ a ∉ γ.m
  exc : ∀ (i : Nat), s.sl[i]? = some (some .exc) → ∃ a, N.exa i = some a ∧ σ[i]? = some (some (.ref a))

/-- from one state to a later one -/
structure Ext (Wa : Addr → Prop) (γ : Gh) (H : Hp) (Wb : Addr → Prop) (γ' : Gh) (H' : Hp) : Prop where
  pre : ∀ (k : Nat) a, γ.m[k]? = some a → γ'.m[k]? = some a
  fm : ∀ a, γ.F a → γ'.F a
  fr : ∀ a o, H a = some o → ¬Wa a → (∀ ps, o ≠ .tbl ps) → Stl (γ'.F a) H' a o
  wr : ∀ a, Wb a → Wa a ∨ Nn H a
  fn : ∀ a, γ'.F a → γ.F a ∨ Wa a ∨ Nn H a
  al : ∀ a, Nn H' a → Nn H a
theorem Ext.refl (W : Addr → Prop) (γ : Gh) (H : Hp) : Ext W γ H W γ H :=
  ⟨fun _ _ h => h, fun _ h => h, fun _ _ h _ _ => .inl h, fun _ h => .inl h, fun _ h => .inl h, fun _ h => h⟩
theorem Ext.trans {W1 W2 W3 : Addr → Prop} {γ1 γ2 γ3 : Gh} {H1 H2 H3 : Hp} (a : Ext W1 γ1 H1 W2 γ2 H2) (b : Ext W2 γ2 H2 W3 γ3 H3) : Ext W1 γ1 H1 W3 γ3 H3 where
  pre := fun k x h => b.pre k x (a.pre k x h)
  fm := fun x h => b.fm x (a.fm x h)
  fr := fun x o h n t => (a.fr x o h n t).trans (g := γ3.F x) (fun u hu e => b.fr x u hu (fun w => by
    rcases a.wr x w with z | z
    · exact n z
    · exact z.no h t) (by rcases e with rfl | ⟨od, rfl⟩; exact t; exact fun _ z => nomatch z)) (b.fm x)
  wr := fun x h => by
    rcases b.wr x h with z | z
    · exact a.wr x z
    · exact .inr (a.al x z)
  fn := fun x h => by
    rcases b.fn x h with z | z | z
    · exact a.fn x z
    · rcases a.wr x z with y | y
      · exact .inr (.inl y)
      · exact .inr (.inr y)
    · exact .inr (.inr (a.al x z))
  al := fun x h => a.al x (b.al x h)
/-- what a state knows stays known in a later one -/
theorem Ext.keep {Wa Wb : Addr → Prop} {γ γ' : Gh} {H H' : Hp} (e : Ext Wa γ H Wb γ' H') (nf : ∀ a, Wa a → ¬γ.F a) : Keep γ H γ' H' :=
  ⟨e.pre, e.fm, fun a o f h t => (e.fr a o h (fun w => nf a w f) t).mono fun _ => trivial⟩
theorem SR.nfw {N : Cn} {γ : Gh} {σ : L2.St} {H : Hp} {s : S} (r : SR N γ σ H s) : ∀ a, Wr γ σ s.sl a → ¬γ.F a := by
  rintro a (h | ⟨i, h, e⟩)
  · exact r.hr.nf a h
  · exact (r.nf i a h e).1
abbrev Xt (γ : Gh) (σ : L2.St) (H : Hp) (s : S) (γ' : Gh) (σ' : L2.St) (H' : Hp) (s' : S) : Prop := Ext (Wr γ σ s.sl) γ H (Wr γ' σ' s'.sl) γ' H'
theorem SR.keep {N : Cn} {γ γ' : Gh} {σ σ' : L2.St} {H H' : Hp} {s s' : S} (r : SR N γ σ H s) (e : Xt γ σ H s γ' σ' H' s') : Keep γ H γ' H' := e.keep r.nfw

/-- what an expression gave; fresh: no slot knows it -/
def RelE (N : Cn) (fresh : Prop) (γ : Gh) (σ : L2.St) (s : S) (H : Hp) : Sl → V → Prop
  | .val d, v => Rel N γ H d v
  | .exc, _ => False
  | .own xs, v => ∃ a vs, v = .ref a ∧ H a = some (.lst vs) ∧ RelL N γ H xs vs ∧ ¬γ.F a ∧ a ∉ γ.m ∧ (fresh → ∀ (i : Nat), isOwn s.sl i → σ[i]? ≠ some (some (.ref a)))
  | .ownd t ks ds, v => ∃ a vs o, v = .ref a ∧ dicO t ks vs = some o ∧ H a = some o ∧ RelL N γ H ds vs ∧ ¬γ.F a ∧ a ∉ γ.m ∧ (fresh → ∀ (i : Nat), isOwn s.sl i → σ[i]? ≠ some (some (.ref a)))
theorem RelE.weak {N : Cn} {f g : Prop} (i : g → f) {γ σ s H e v} (h : RelE N f γ σ s H e v) : RelE N g γ σ s H e v := by
  cases e with
  | val d => exact h
  | own xs => obtain ⟨a, vs, h1, h2, h3, h4, h5, h6⟩ := h; exact ⟨a, vs, h1, h2, h3, h4, h5, fun z => h6 (i z)⟩
  | ownd t ks ds => obtain ⟨a, vs, o, h1, h2, h3, h4, h5, h6, h7⟩ := h; exact ⟨a, vs, o, h1, h2, h3, h4, h5, h6, fun z => h7 (i z)⟩
  | exc => exact h.elim
/-- a written tuple -/
def KT (K : Fg) (d : D) (v : V) : Prop := ∀ xs, d = .tup xs → ∃ a o, v = .ref a ∧ K.lookup a = some o ∧ o.cls = .type "tuple" ∧ o.dict = none
end Kb

set_option Elab.async false
set_option linter.all false
set_option maxRecDepth 100000
set_option maxHeartbeats 4000000
/-! KbOps: operators and comparisons by the small language's values. -/
namespace Kb
open PySem PySem.Spec PyProof.Rows L2

def DicR (N : Cn) (H : Hp) (a : Addr) (ks : List Ky) (vs : List V) : Prop := ∃ t o, dicO t ks vs = some o ∧ Rd H a o
/-- what can be read -/
def RdR (N : Cn) (γ : Gh) (H : Hp) : D → V → Prop
  | .lst ds, v => ∃ a vs, v = .ref a ∧ H a = some (.lst vs) ∧ RelL N γ H ds vs
  | .dic ks ds, v => ∃ a vs, v = .ref a ∧ DicR N H a ks vs ∧ RelL N γ H ds vs
  | d, v => Rel N γ H d v
section
variable {N : Cn} {γ : Gh} {H : Hp}
theorem Rel.rd {d : D} {v : V} (h : Rel N γ H d v) : RdR N γ H d v := by
  cases d with
  | lst ds => obtain ⟨a, vs, e, ⟨_, h⟩, r⟩ := h; exact ⟨a, vs, e, h, r⟩
  | dic ks ds =>
    obtain ⟨a, vs, e, h, r⟩ := h
    exact ⟨a, vs, e, h.2, r⟩
  | _ => exact h
theorem RelE.rd {f : Prop} {σ : L2.St} {s : S} {e : Sl} {v : V} (h : RelE N f γ σ s H e v) : RdR N γ H e.d v := by
  cases e with
  | val d => exact Rel.rd h
  | own xs => obtain ⟨a, vs, h1, h2, h3, _⟩ := h; exact ⟨a, vs, h1, h2, h3⟩
  | ownd t ks ds => obtain ⟨a, vs, o, h1, h2, h3, h4, _⟩ := h; exact ⟨a, vs, h1, ⟨t, o, h2, .inl h3⟩, h4⟩
  | exc => exact h.elim
theorem RdR.keep {γ' : Gh} {H' : Hp} (k : Keep γ H γ' H') (hl : ∀ a o, H a = some o → (∀ ps, o ≠ .tbl ps) → H' a = some o) {d : D} {v : V} (h : RdR N γ H d v) : RdR N γ' H' d v := by
  cases d with
  | lst ds => obtain ⟨a, vs, e, h, r⟩ := h; exact ⟨a, vs, e, hl a _ h (fun _ z => nomatch z), r.keep k⟩
  | dic ks ds =>
    obtain ⟨a, vs, e, h, r⟩ := h
    obtain ⟨t, o, h1, h2⟩ := h
    refine ⟨a, vs, e, ⟨t, o, h1, ?_⟩, r.keep k⟩
    rcases h2 with h2 | ⟨od, h2⟩
    · exact .inl (hl a _ h2 (dicO_ne h1))
    · exact .inr ⟨od, hl a _ h2 (fun _ z => nomatch z)⟩
  | _ => exact Rel.keep k h
theorem TupAt.sq {a : Addr} {vs : List V} (h : TupAt N γ H a vs) : SqT N.K H a vs := by
  rcases h with ⟨_, h⟩ | h
  · exact .inl (.inl h)
  · exact .inr h
theorem ScrAt.sq {a : Addr} {vs : List V} (h : ScrAt N γ H a vs) : SqL N.K H a vs := by
  rcases h with ⟨_, h | ⟨o, h⟩⟩ | h
  · exact .inl (.inl h)
  · exact .inl (.inr ⟨o, h⟩)
  · exact .inr h
end

/-- what an operation gives -/
inductive Res (N : Cn) (γ : Gh) (H : Hp) : Sl → V → Hp → Prop where
  | same {d : D} {x : V} : Rel N γ H d x → Res N γ H (.val d) x H
  | tup {ds : List D} {vs : List V} {p : Addr} : H p = none → RelL N γ H ds vs → Res N γ H (.val (.tup ds)) (.ref p) (upd H p (.tup vs))
  | lst {ds : List D} {vs : List V} {p : Addr} : H p = none → RelL N γ H ds vs → Res N γ H (.own ds) (.ref p) (upd H p (.lst vs))
  | dic {t : Bool} {ks : List Ky} {ds : List D} {vs : List V} {p : Addr} {o : HO} : H p = none → dicO t ks vs = some o → RelL N γ H ds vs → Res N γ H (.ownd t ks ds) (.ref p) (upd H p o)
  | set {ks : List Ka} {p : Addr} : H p = none → (∀ x, Ka.s x ∈ ks → Txt x) → Res N γ H (.val (.set ks)) (.ref p) (upd H p (SetV N.w p (ks.map keyK)))
theorem SR.upd_new {N : Cn} {γ : Gh} {σ : L2.St} {H : Hp} {s : S} {p : Addr} {o : HO} (r : SR N γ σ H s) (np : H p = none) (hT : ∀ ps, o ≠ .tbl ps) (hC : ∀ c q, o ≠ LamX.CodeO c q) (F' : Addr → Prop) (hF : ∀ a, F' a ↔ γ.F a ∨ (F' p ∧ a = p)) :
    SR N ⟨γ.m, F'⟩ σ (upd H p o) s ∧ Xt γ σ H s ⟨γ.m, F'⟩ σ (upd H p o) s := by
  have ne : ∀ a u, H a = some u → a ≠ p := fun a u h z => by rw [z, np] at h; cases h
  have K : Keep γ H ⟨γ.m, F'⟩ (upd H p o) := ⟨fun _ _ h => h, fun a h => (hF a).mpr (.inl h), fun a u _ h _ => .inl (by rw [upd_ne (ne a u h)]; exact h)⟩
  refine ⟨⟨⟨r.hr.nd, r.hr.len, fun k xs h => ?_, fun a ha => ?_, fun a ha => ?_, (r.hr.tabs.ext fun b u h => by rw [upd_ne (ne b u h)]; exact h), r.hr.kb.trans K, cf_upd (fun a q h => (hF a).mpr (.inl (r.hr.cf a q h))) hC⟩, r.len, fun i d h => ?_, fun i xs h => ?_, fun i t ks ds h => ?_, r.sep, fun i a h e => ?_, r.exc⟩, ?_⟩
  · obtain ⟨a, vs, h1, h2, h3⟩ := r.hr.at_ k xs h
    exact ⟨a, vs, h1, by rw [upd_ne (ne a _ h2)]; exact h2, h3.keep K⟩
  · intro hf
    rcases (hF a).mp hf with z | ⟨_, z⟩
    · exact r.hr.nf a ha z
    · obtain ⟨k, hk⟩ := List.mem_iff_getElem?.mp ha
      have hl : k < s.hp.length := by
        rw [← r.hr.len]
        exact (List.getElem?_eq_some_iff.mp hk).1
      obtain ⟨xs⟩ : ∃ xs, s.hp[k]? = some (.lst xs) := by
        cases q : s.hp[k]? with
        | none => rw [List.getElem?_eq_none_iff] at q; omega
        | some ob => cases ob with | lst xs => exact ⟨xs, rfl⟩
      rename_i xs hx
      obtain ⟨a', vs, h1, h2, _⟩ := r.hr.at_ k _ hx
      rw [hk] at h1
      cases h1
      exact ne _ _ h2 z
  · rcases (hF a).mp ha with z | ⟨_, z⟩
    · exact fun n => r.hr.fz a z (nn_upd n hT).2
    · exact fun n => (nn_upd n hT).1 z
  · obtain ⟨v, h1, h2⟩ := r.val i d h
    exact ⟨v, h1, h2.keep K⟩
  · obtain ⟨a, vs, h1, h2, h3⟩ := r.own i xs h
    exact ⟨a, vs, h1, by rw [upd_ne (ne a _ h2)]; exact h2, h3.keep K⟩
  · obtain ⟨a, vs, u, h1, h2, h3, h4⟩ := r.ownd i t ks ds h
    exact ⟨a, vs, u, h1, h2, by rw [upd_ne (ne a _ h3)]; exact h3, h4.keep K⟩
  · obtain ⟨h1, h2⟩ := r.nf i a h e
    refine ⟨fun z => ?_, h2⟩
    rcases (hF a).mp z with z | ⟨_, z⟩
    · exact h1 z
    · have : H a ≠ none := by
        rcases h with ⟨xs, h⟩ | ⟨t, ks, ds, h⟩
        · obtain ⟨a', vs, q1, q2, _⟩ := r.own i xs h
          rw [e] at q1; cases q1; rw [q2]; simp
        · obtain ⟨a', vs, u, q1, _, q2, _⟩ := r.ownd i t ks ds h
          rw [e] at q1; cases q1; rw [q2]; simp
      exact this (by rw [z]; exact np)
  · refine ⟨fun _ _ h => h, fun a h => (hF a).mpr (.inl h), fun a u h _ _ => .inl (by rw [upd_ne (ne a u h)]; exact h), fun a h => .inl h, fun a h => ?_, fun a h => (nn_upd h hT).2⟩
    · rcases (hF a).mp h with z | ⟨_, z⟩
      · exact .inl z
      · exact .inr (.inr (by rw [z]; exact .of np))
/-- an operation's outcome is a later state, and a fresh value -/
theorem Res.step {N : Cn} {γ : Gh} {σ : L2.St} {H H' : Hp} {s : S} {e : Sl} {x : V} (r : SR N γ σ H s) (h : Res N γ H e x H') :
    ∃ γ', SR N γ' σ H' s ∧ Xt γ σ H s γ' σ H' s ∧ RelE N True γ' σ s H' e x := by
  cases h with
  | same h => exact ⟨γ, r, Ext.refl _ _ _, h⟩
  | @tup ds vs p np hr =>
    obtain ⟨r', x'⟩ := r.upd_new (o := .tup vs) np (fun _ z => nomatch z) (fun _ _ z => nomatch z) (fun a => γ.F a ∨ a = p) (fun a => ⟨fun h => h.elim .inl fun z => .inr ⟨.inr rfl, z⟩, fun h => h.elim .inl fun z => .inr z.2⟩)
    exact ⟨_, r', x', p, vs, rfl, .inl ⟨.inr rfl, upd_same⟩, hr.keep (r.keep x')⟩
  | @set ks p np ht =>
    obtain ⟨r', x'⟩ := r.upd_new (o := SetV N.w p (ks.map keyK)) np (fun _ z => nomatch z) setV_nc (fun a => γ.F a ∨ a = p) (fun a => ⟨fun h => h.elim .inl fun z => .inr ⟨.inr rfl, z⟩, fun h => h.elim .inl fun z => .inr z.2⟩)
    exact ⟨_, r', x', p, rfl, .inr rfl, upd_same, ht⟩
  | @lst ds vs p np hr =>
    obtain ⟨r', x'⟩ := r.upd_new (o := .lst vs) np (fun _ z => nomatch z) (fun _ _ z => nomatch z) γ.F (fun a => ⟨.inl, fun h => h.elim id fun z => z.2 ▸ z.1⟩)
    refine ⟨_, r', x', p, vs, rfl, upd_same, hr.keep (r.keep x'), fun z => ?_, fun z => ?_, fun _ i hi z => ?_⟩
    · exact r.hr.fz p z (.of np)
    · obtain ⟨k, hk⟩ := List.mem_iff_getElem?.mp z
      have hl : k < s.hp.length := by
        rw [← r.hr.len]
        exact (List.getElem?_eq_some_iff.mp hk).1
      cases q : s.hp[k]? with
      | none => rw [List.getElem?_eq_none_iff] at q; omega
      | some ob =>
        cases ob with
        | lst xs =>
          obtain ⟨a', vs, h1, h2, _⟩ := r.hr.at_ k _ q
          rw [hk] at h1
          cases h1
          rw [np] at h2
          cases h2
    · rcases hi with ⟨xs, h⟩ | ⟨t, ks, ds, h⟩
      · obtain ⟨a', vs, q1, q2, _⟩ := r.own i xs h
        rw [z] at q1; cases q1; rw [np] at q2; cases q2
      · obtain ⟨a', vs, u, q1, _, q2, _⟩ := r.ownd i t ks ds h
        rw [z] at q1; cases q1; rw [np] at q2; cases q2
  | @dic t ks ds vs p o np ho hr =>
    obtain ⟨r', x'⟩ := r.upd_new (o := o) np (dicO_ne ho) (dicO_nc ho) γ.F (fun a => ⟨.inl, fun h => h.elim id fun z => z.2 ▸ z.1⟩)
    refine ⟨_, r', x', p, vs, o, rfl, ho, upd_same, hr.keep (r.keep x'), fun z => ?_, fun z => ?_, fun _ i hi z => ?_⟩
    · exact r.hr.fz p z (.of np)
    · obtain ⟨k, hk⟩ := List.mem_iff_getElem?.mp z
      have hl : k < s.hp.length := by
        rw [← r.hr.len]
        exact (List.getElem?_eq_some_iff.mp hk).1
      cases q : s.hp[k]? with
      | none => rw [List.getElem?_eq_none_iff] at q; omega
      | some ob =>
        cases ob with
        | lst xs =>
          obtain ⟨a', vs, h1, h2, _⟩ := r.hr.at_ k _ q
          rw [hk] at h1
          cases h1
          rw [np] at h2
          cases h2
    · rcases hi with ⟨xs, h⟩ | ⟨t, ks, ds, h⟩
      · obtain ⟨a', vs, q1, q2, _⟩ := r.own i xs h
        rw [z] at q1; cases q1; rw [np] at q2; cases q2
      · obtain ⟨a', vs, u, q1, _, q2, _⟩ := r.ownd i t ks ds h
        rw [z] at q1; cases q1; rw [np] at q2; cases q2
end Kb

set_option Elab.async false
set_option linter.all false
set_option maxRecDepth 100000
set_option maxHeartbeats 4000000
/-! KbBin: binary operators. -/
namespace Kb
open PySem PySem.Spec PyProof.Rows L2

def bo : Bo → Operator
  | .add => .Add
  | .sub => .Sub
  | .mul => .Mult
  | .fdiv => .FloorDiv
  | .mod => .Mod
  | .pow => .Pow
  | .iadd => .Add
theorem St_append (a b : List Nat) : St (a ++ b) = St a ++ St b := by
  show (⟨(a ++ b).toArray⟩ : Str) = ⟨a.toArray ++ b.toArray⟩
  simp
theorem Txt.append {a b : List Nat} (h : Txt a) (k : Txt b) : Txt (a ++ b) := fun c hc => (List.mem_append.mp hc).elim (h c) (k c)
theorem Txt.rep {a : List Nat} (h : Txt a) (n : Nat) : Txt (List.replicate n a).flatten := fun c hc => by
  obtain ⟨l, h1, h2⟩ := List.mem_flatten.mp hc
  rw [(List.mem_replicate.mp h1).2] at h2
  exact h c h2
theorem Txt.nil : Txt [] := fun _ h => by cases h
theorem ands {a b : Bool} (h : (a && b) = true) : a = true ∧ b = true := Bool.and_eq_true_iff.mp h
section
variable {X : Cx} {N : Cn}
def rBin (N : Cn) (f : D → D → Option Sl) : R2 := fun x y H Q => ∃ (γ : Gh) (a b : D) (v : Sl), RdR N γ H a x ∧ RdR N γ H b y ∧ f a b = some v ∧ ∀ x' H', Res N γ H v x' H' → Q x' H'
theorem foldl_app (a : Array Nat) : ∀ n, (List.replicate n a).foldl (· ++ ·) #[] = ((List.replicate n a.toList).flatten).toArray := by
  have key : ∀ n (acc : Array Nat), (List.replicate n a).foldl (· ++ ·) acc = acc ++ ((List.replicate n a.toList).flatten).toArray := by
    intro n
    induction n with
    | zero => intro acc; simp
    | succ n ih =>
      intro acc
      rw [List.replicate_succ, List.foldl_cons, ih, List.replicate_succ, List.flatten_cons, Array.append_assoc]
      congr 1
      simp
  intro n
  rw [key]
  simp
theorem op_mulS {n : Int} {l : List Nat} (h1 : -9223372036854775808 ≤ n) (h2 : n ≤ 16777216) (h3 : l.length * n.toNat ≤ line) (pins : List (Addr × Obj)) (s : Shared) (σ : L2.St) (H : Hp) (v u : Value) (Q : VK) (I : Inv X pins σ H s)
    (rx : RelV (.str (St l)) v) (ry : RelV (.int n) u) (q : Q (.str (St (List.replicate n.toNat l).flatten)) H) : wpAny (model X.prog X.w) X.A (binaryOp .Mult v u) (EP X pins σ Q) X.xe s := by
  obtain ⟨t, rfl⟩ := rx
  obtain ⟨t', rfl⟩ := ry
  have hlen : (St l).length = l.length := St_len l
  refine P.mul_str (by rw [decide_eq_false (by omega), decide_eq_false (by omega)] <;> rfl) (fun hn _ hb => ?_) (fun hn _ => ?_) ?_
  · rw [hlen] at hb
    have e1 : (l.length : Int) * n ≤ 16777216 := by
      have : ((l.length * n.toNat : Nat) : Int) ≤ ((16777216 : Nat) : Int) := Int.ofNat_le.mpr h3
      rw [Int.natCast_mul, Int.toNat_of_nonneg (by omega)] at this
      exact this
    have e2 : (2 ^ 63 - 1) / n ≥ (l.length : Int) := by
      refine Int.le_ediv_of_mul_le (by omega) ?_
      omega
    omega
  · rw [hlen]
    exact decide_eq_false (by show ¬ l.length * n.toNat > _; rw [line_eq]; exact Nat.not_lt.mpr h3)
  · split
    · rename_i hn
      have e : n.toNat = 0 := by omega
      rw [e] at q
      exact ⟨by show (0 : Nat) ≤ _; omega, .str (St []), H, I.tok _, ⟨_, rfl⟩, q⟩
    · rename_i hn
      split
      · rename_i hc
        have e : (List.replicate n.toNat l).flatten = l := by
          rcases Bool.or_eq_true_iff.mp hc with z | z
          · have : n = 1 := by simpa using z
            rw [this]
            simp
          · have : l.length = 0 := by rw [← hlen]; simpa using z
            have : l = [] := List.eq_nil_of_length_eq_zero this
            rw [this]
            simp
        rw [e] at q
        exact ⟨.str (St l), H, I, ⟨_, rfl⟩, q⟩
      · have e : (⟨(List.replicate n.toNat (St l).cps).foldl (· ++ ·) #[]⟩ : Str) = St (List.replicate n.toNat l).flatten := by
          rw [foldl_app, St_list]
          rfl
        rw [e]
        refine ⟨?_, .str _, H, I.tok _, ⟨_, rfl⟩, q⟩
        rw [St_len, List.length_flatten, List.map_replicate, List.sum_replicate_nat, line_eq, Nat.mul_comm]
        exact h3
theorem op_bin (N : Cn) (hK : N.K = X.K) (op : Bo) : OpR X (binaryOp (bo op)) (rBin N (binD op)) := by
  intro pins s σ H x y v u Q I rx ry ⟨γ, a, b, w, ha, hb, e, k⟩
  unfold binD at e
  split at e
  · cases ha; cases hb; cases e
    exact op_add pins s σ H _ _ v u Q I rx ry ⟨_, _, rfl, rfl, k _ _ (.same rfl)⟩
  · cases ha; cases hb; cases e
    exact op_sub pins s σ H _ _ v u Q I rx ry ⟨_, _, rfl, rfl, k _ _ (.same rfl)⟩
  · cases ha; cases hb
    split at e
    · rename_i c
      cases e
      refine op_mul pins s σ H _ _ v u Q I rx ry ⟨_, _, rfl, rfl, ?_, k _ _ (.same rfl)⟩
      rcases Bool.or_eq_true_iff.mp c with z | z
      · obtain ⟨z1, z2⟩ := ands z
        exact .inl ⟨of_decide_eq_true z1, of_decide_eq_true z2⟩
      · obtain ⟨z1, z2⟩ := ands z
        exact .inr ⟨of_decide_eq_true z1, of_decide_eq_true z2⟩
    · cases e
  · cases ha; cases hb
    split at e
    · rename_i c
      cases e
      obtain ⟨z1, z2⟩ := ands c
      exact op_fdivN pins s σ H _ _ v u Q I rx ry ⟨_, _, rfl, rfl, ⟨of_decide_eq_true z1, of_decide_eq_true z2⟩, k _ _ (.same rfl)⟩
    · cases e
  · cases ha; cases hb
    split at e
    · rename_i c
      cases e
      exact op_modN pins s σ H _ _ v u Q I rx ry ⟨_, _, rfl, rfl, c, k _ _ (.same rfl)⟩
    · cases e
  · cases ha; cases hb
    split at e
    · rename_i c
      cases e
      obtain ⟨z1, z2⟩ := ands c
      obtain ⟨z0, z1⟩ := ands z1
      exact op_pow pins s σ H _ _ v u Q I rx ry ⟨_, _, rfl, rfl, ⟨of_decide_eq_true z0, of_decide_eq_true z1, of_decide_eq_true z2⟩, k _ _ (.same rfl)⟩
    · cases e
  · obtain ⟨rfl, t1⟩ := ha
    obtain ⟨rfl, t2⟩ := hb
    split at e
    · rename_i c
      cases e
      refine op_add_str pins s σ H _ _ v u Q I rx ry ⟨_, _, rfl, rfl, by rw [St_len, St_len, line_eq]; exact c, ?_⟩
      rw [← St_append]
      exact k _ _ (.same ⟨rfl, t1.append t2⟩)
    · cases e
  · obtain ⟨a1, v1, rfl, p1, r1⟩ := ha
    obtain ⟨a2, v2, rfl, p2, r2⟩ := hb
    split at e
    · rename_i xs ys c
      cases e
      refine op_catA pins s σ H _ _ v u Q I rx ry ⟨_, _, v1, v2, rfl, rfl, hK ▸ p1.sq, hK ▸ p2.sq, by rw [← r1.length, ← r2.length, line_eq]; exact c, fun z => ?_, fun _ z => ?_, fun _ _ p np => ?_⟩
      · subst z
        have : xs = [] := List.eq_nil_of_length_eq_zero (by rw [r1.length]; rfl)
        subst this
        exact k _ _ (.same ⟨a2, v2, rfl, p2, r2⟩)
      · subst z
        have : ys = [] := List.eq_nil_of_length_eq_zero (by rw [r2.length]; rfl)
        subst this
        refine k _ _ (.same ⟨a1, v1, rfl, p1, ?_⟩)
        rw [List.append_nil]
        exact r1
      · exact k _ _ (.tup np (r1.append r2))
    · cases e
  · obtain ⟨a1, v1, rfl, p1, r1⟩ := ha
    obtain ⟨a2, v2, rfl, p2, r2⟩ := hb
    split at e
    · rename_i xs ys c
      cases e
      exact op_cat pins s σ H _ _ v u Q I rx ry ⟨_, _, v1, v2, rfl, rfl, p1, p2, by rw [← r1.length, ← r2.length, line_eq]; exact c, fun p np => k _ _ (.lst np (r1.append r2))⟩
    · cases e
  · obtain ⟨rfl, t1⟩ := ha
    cases hb
    split at e
    · rename_i c
      cases e
      obtain ⟨z1, z2⟩ := ands c
      obtain ⟨z0, z1⟩ := ands z1
      exact op_mulS (of_decide_eq_true z0) (of_decide_eq_true z1) (of_decide_eq_true z2) pins s σ H v u Q I rx ry (k _ _ (.same ⟨rfl, t1.rep _⟩))
    · cases e
  · obtain ⟨a1, v1, rfl, p1, r1⟩ := ha
    cases hb
    split at e
    · rename_i xs kk c
      cases e
      obtain ⟨z1, z4⟩ := ands c
      obtain ⟨z1, z3⟩ := ands z1
      obtain ⟨z1, z2⟩ := ands z1
      refine op_repT pins s σ H _ _ v u Q I rx ry ⟨_, _, v1, rfl, rfl, hK ▸ p1.sq, fun z => ?_, of_decide_eq_true z1, of_decide_eq_true z2, by rw [← r1.length]; exact of_decide_eq_true z3, fun p np => k _ _ (.tup np (r1.flatten_replicate _))⟩
      subst z
      have : xs = [] := List.eq_nil_of_length_eq_zero (by rw [r1.length]; rfl)
      subst this
      cases z4
    · cases e
  · obtain ⟨a1, v1, rfl, p1, r1⟩ := ha
    cases hb
    split at e
    · rename_i xs kk c
      cases e
      obtain ⟨z1, z3⟩ := ands c
      obtain ⟨z1, z2⟩ := ands z1
      have z1 := of_decide_eq_true z1
      exact op_rep pins s σ H _ _ v u Q I rx ry ⟨_, _, v1, rfl, rfl, p1, of_decide_eq_true z2, by omega, by rw [← r1.length, line_eq]; exact of_decide_eq_true z3, fun p np => k _ _ (.lst np (r1.flatten_replicate _))⟩
    · cases e
  · cases ha; cases hb; cases e
    exact op_add pins s σ H _ _ v u Q I rx ry ⟨_, _, rfl, rfl, k _ _ (.same rfl)⟩
  · cases e
end
end Kb

set_option Elab.async false
set_option linter.all false
set_option maxRecDepth 100000
set_option maxHeartbeats 4000000
/-! KbCmp: comparisons. -/
namespace Kb
open PySem PySem.Spec PyProof.Rows L2

mutual
def toPy : D → PyData
  | .non => .none
  | .bl b => .bool b
  | .int i => .int i
  | .str x => .str (St x)
  | .tup xs => .tuple (toPyL xs)
  | .lst xs => .list (toPyL xs)
  | _ => .none
def toPyL : List D → List PyData
  | [] => []
  | d :: ds => toPy d :: toPyL ds
end
theorem pl_tup {n : Nat} {xs : List D} (h : pl n (.tup xs) = true) : ∃ m, n = m + 1 ∧ xs.all (pl m) = true := by
  cases n with
  | zero => cases h
  | succ m => exact ⟨m, rfl, h⟩
theorem pl_lst {n : Nat} {xs : List D} (h : pl n (.lst xs) = true) : ∃ m, n = m + 1 ∧ xs.all (pl m) = true := by
  cases n with
  | zero => cases h
  | succ m => exact ⟨m, rfl, h⟩
mutual
theorem eqv_toPy : ∀ {n m : Nat} (a b : D), pl n a = true → pl m b = true → PyData.eqv (toPy a) (toPy b) = eqD a b
  | n, m, .non, b, _, hb => by cases b <;> first | rfl | (cases m <;> (cases hb; done))
  | n, m, .bl x, b, _, hb => by
    cases b <;> first | rfl | (cases m <;> (cases hb; done)) | skip
    all_goals (simp only [toPy, PyData.eqv, eqD]; first | rfl | (rw [Bool.beq_eq_decide_eq]) | (cases x <;> simp [Int.beq_eq_decide_eq]) | skip)
  | n, m, .int x, b, _, hb => by
    cases b <;> first | rfl | (cases m <;> (cases hb; done)) | skip
    all_goals (simp only [toPy, PyData.eqv, eqD]; first | rfl | (rw [Int.beq_eq_decide_eq]) | skip)
  | n, m, .str x, b, _, hb => by
    cases b <;> first | rfl | (cases m <;> (cases hb; done)) | skip
    rename_i y
    simp only [toPy, PyData.eqv, eqD]
    by_cases e : x = y
    · subst e; simp
    · have : ¬ St x = St y := fun z => e (St_inj z)
      rw [decide_eq_false e]
      exact beq_eq_false_iff_ne.mpr this
  | n, m, .tup xs, b, ha, hb => by
    obtain ⟨n', rfl, ha⟩ := pl_tup ha
    cases b <;> first | rfl | (cases m <;> (cases hb; done)) | skip
    rename_i ys
    obtain ⟨m', rfl, hb⟩ := pl_tup hb
    exact eqv_toPyL xs ys ha hb
  | n, m, .lst xs, b, ha, hb => by
    obtain ⟨n', rfl, ha⟩ := pl_lst ha
    cases b <;> first | rfl | (cases m <;> (cases hb; done)) | skip
    rename_i ys
    obtain ⟨m', rfl, hb⟩ := pl_lst hb
    exact eqv_toPyL xs ys ha hb
  | n, m, .dic _ _, _, h, _ => by cases n <;> cases h
  | n, m, .set _, _, h, _ => by cases n <;> cases h
  | n, m, .ref _, _, h, _ => by cases n <;> cases h
  | n, m, .scr _, _, h, _ => by cases n <;> cases h
  | n, m, .kdic _ _, _, h, _ => by cases n <;> cases h
theorem eqv_toPyL : ∀ {n m : Nat} (as bs : List D), as.all (pl n) = true → bs.all (pl m) = true → PyData.eqvAll (toPyL as) (toPyL bs) = eqL as bs
  | n, m, [], [], _, _ => rfl
  | n, m, [], _ :: _, _, _ => rfl
  | n, m, _ :: _, [], _, _ => rfl
  | n, m, a :: as, b :: bs, ha, hb => by
    rw [List.all_cons, Bool.and_eq_true] at ha hb
    show (PyData.eqv (toPy a) (toPy b) && PyData.eqvAll (toPyL as) (toPyL bs)) = (eqD a b && eqL as bs)
    rw [eqv_toPy a b ha.1 hb.1, eqv_toPyL as bs ha.2 hb.2]
end
section
variable {N : Cn} {γ : Gh} {H : Hp}
mutual
theorem Rel.dp : ∀ {n : Nat} {d : D} {v : V}, pl n d = true → Rel N γ H d v → Dp N.K H v (toPy d) ∧ (toPy d).canLay0 = true ∧ (toPy d).depth ≤ n
  | n, .non, _, _, h => by cases h; exact ⟨.non, rfl, Nat.zero_le _⟩
  | n, .bl b, _, _, h => by cases h; exact ⟨.bl b, rfl, Nat.zero_le _⟩
  | n, .int i, _, _, h => by cases h; exact ⟨.int i, rfl, Nat.zero_le _⟩
  | n, .str x, _, _, h => by
    obtain ⟨rfl, t⟩ := h
    refine ⟨.str _, ?_, Nat.zero_le _⟩
    show ((St x).cps.all (· < 0x110000)) = true
    rw [show (St x).cps = x.toArray from rfl]
    simp only [List.all_toArray, List.all_eq_true, decide_eq_true_eq]
    exact t
  | n, .tup ds, _, h, ⟨a, vs, e, p, r⟩ => by
    obtain ⟨m, rfl, h⟩ := pl_tup h
    obtain ⟨h1, h2, h3⟩ := RelL.dp h r
    subst e
    exact ⟨.tup p.sq h1, h2, Nat.succ_le_succ h3⟩
  | n, .lst ds, _, h, ⟨a, vs, e, p, r⟩ => by
    obtain ⟨m, rfl, h⟩ := pl_lst h
    obtain ⟨h1, h2, h3⟩ := RelL.dp h r
    subst e
    exact ⟨.lst (.inl (.inl p.2)) h1, h2, Nat.succ_le_succ h3⟩
  | n, .dic _ _, _, h, _ => by cases n <;> cases h
  | n, .set _, _, h, _ => by cases n <;> cases h
  | n, .ref _, _, h, _ => by cases n <;> cases h
  | n, .scr _, _, h, _ => by cases n <;> cases h
  | n, .kdic _ _, _, h, _ => by cases n <;> cases h
theorem RelL.dp : ∀ {n : Nat} {ds : List D} {vs : List V}, ds.all (pl n) = true → RelL N γ H ds vs → DpAll N.K H vs (toPyL ds) ∧ PyData.canLayAll0 (toPyL ds) = true ∧ PyData.depthAll (toPyL ds) ≤ n
  | n, [], _, _, h => by cases h; exact ⟨.nil, rfl, Nat.zero_le _⟩
  | n, d :: ds, _, h, ⟨v, r, e, h1, h2⟩ => by
    rw [List.all_cons, Bool.and_eq_true] at h
    obtain ⟨a1, a2, a3⟩ := Rel.dp h.1 h1
    obtain ⟨b1, b2, b3⟩ := RelL.dp h.2 h2
    subst e
    refine ⟨.cons a1 b1, ?_, ?_⟩
    · show ((toPy d).canLay0 && PyData.canLayAll0 (toPyL ds)) = true
      rw [a2, b2]
      rfl
    · show max (toPy d).depth (PyData.depthAll (toPyL ds)) ≤ n
      omega
end
theorem RdR.dp {n : Nat} {d : D} {v : V} (p : pl n d = true) (h : RdR N γ H d v) : Dp N.K H v (toPy d) ∧ (toPy d).canLay0 = true ∧ (toPy d).depth ≤ n := by
  cases d with
  | lst ds =>
    obtain ⟨a, vs, e, q, r⟩ := h
    obtain ⟨m, rfl, p⟩ := pl_lst p
    obtain ⟨h1, h2, h3⟩ := RelL.dp p r
    subst e
    exact ⟨.lst (.inl (.inl q)) h1, h2, Nat.succ_le_succ h3⟩
  | dic ks ds => cases n <;> cases p
  | _ => exact Rel.dp (γ := γ) p h
theorem shaped_of {n : Nat} {d : PyData} (h1 : d.canLay0 = true) (h2 : d.depth ≤ n) (hn : n ≤ 64) : SeqAt.shaped d = true := by
  unfold SeqAt.shaped
  rw [h1, decide_eq_true (Nat.le_trans h2 hn)]
  rfl
theorem any_toPy {n m : Nat} {x : D} (hx : pl m x = true) : ∀ {ys : List D}, ys.all (pl n) = true → ((toPyL ys).any fun z => PyData.eqv z (toPy x)) = inL x ys
  | [], _ => rfl
  | y :: ys, h => by
    rw [List.all_cons, Bool.and_eq_true] at h
    show (PyData.eqv (toPy y) (toPy x) || (toPyL ys).any fun z => PyData.eqv z (toPy x)) = (eqD y x || inL x ys)
    rw [eqv_toPy y x h.1 hx, any_toPy hx h.2]
end
/-! ### order of texts -/
theorem ltS_eq : ∀ a b : List Nat, ltS a b = decide (a < b)
  | [], [] => by simp [ltS]
  | [], _ :: _ => by simp [ltS]
  | _ :: _, [] => by simp [ltS]
  | a :: as, b :: bs => by
    unfold ltS
    rw [ltS_eq as bs]
    by_cases h : a < b
    · simp [h, List.cons_lt_cons_iff]
    · by_cases h2 : b < a
      · have : a ≠ b := by omega
        simp [h, h2, this, List.cons_lt_cons_iff]
      · have : a = b := by omega
        subst this
        simp [List.cons_lt_cons_iff]
/-! ### dicts -/
theorem keyK_inj {a b : Ka} (h : keyK a = keyK b) : a = b := by
  cases a with
  | i n => cases b with
    | i m => cases h; rfl
    | s y => cases h
  | s x => cases b with
    | i m => cases h
    | s y => rw [St_inj (Sum.inr.inj h)]
def lookV (k : Ky) : List Ky → List V → Option V
  | q :: ks, v :: vs => if k = q then some v else lookV k ks vs
  | _, _ => none
theorem zipK_val : ∀ {ks : List Ky} {vs : List V} {kvs : List (Key × V)} (k : Ka), zipK ks vs = some kvs → valV kvs (keyK k) = lookV (.a k) ks vs
  | [], [], _, k, h => by cases h; rfl
  | [], _ :: _, _, k, h => by cases h
  | .a q :: ks, [], _, k, h => by cases h
  | .t q :: ks, [], _, k, h => by cases h
  | .t q :: ks, _ :: _, _, k, h => by cases h
  | .a q :: ks, v :: vs, kvs, k, h => by
    unfold zipK at h
    cases e : zipK ks vs with
    | none => rw [e] at h; cases h
    | some r =>
      rw [e] at h
      cases h
      unfold lookV
      by_cases c : k = q
      · subst c
        rw [if_pos rfl, valV_pos rfl]
      · rw [if_neg (fun z => c (by cases z; rfl)), valV_neg (fun z => c (keyK_inj z).symm)]
        exact zipK_val k e
theorem zipK_len : ∀ {ks : List Ky} {vs : List V} {kvs : List (Key × V)}, zipK ks vs = some kvs → ks.length = kvs.length ∧ vs.length = kvs.length
  | [], [], _, h => by cases h; exact ⟨rfl, rfl⟩
  | [], _ :: _, _, h => by cases h
  | .a q :: ks, [], _, h => by cases h
  | .t q :: ks, [], _, h => by cases h
  | .t q :: ks, _ :: _, _, h => by cases h
  | .a q :: ks, v :: vs, kvs, h => by
    unfold zipK at h
    cases e : zipK ks vs with
    | none => rw [e] at h; cases h
    | some r =>
      rw [e] at h
      cases h
      obtain ⟨h1, h2⟩ := zipK_len e
      exact ⟨by simp [h1], by simp [h2]⟩
theorem lookV_some : ∀ {ks : List Ky} {vs : List V} (k : Ky), ks.length = vs.length → (lookV k ks vs).isSome = has k ks
  | [], [], k, _ => rfl
  | [], _ :: _, k, h => by cases h
  | _ :: _, [], k, h => by cases h
  | q :: ks, v :: vs, k, h => by
    unfold lookV has
    rw [List.any_cons]
    by_cases c : k = q
    · rw [if_pos c, decide_eq_true c]
      rfl
    · rw [if_neg c, decide_eq_false c, Bool.false_or]
      exact lookV_some k (by simpa using h)
theorem lookV_rel {N : Cn} {γ : Gh} {H : Hp} : ∀ {ks : List Ky} {ds : List D} {vs : List V} {k : Ky} {d : D}, RelL N γ H ds vs → look k ks ds = some d → ∃ v, lookV k ks vs = some v ∧ Rel N γ H d v
  | [], ds, vs, k, d, _, h => by unfold look at h; cases h
  | q :: ks, [], vs, k, d, _, h => by unfold look at h; cases h
  | q :: ks, d' :: ds, _, k, d, ⟨v, r, e, h1, h2⟩, h => by
    subst e
    unfold look at h
    unfold lookV
    by_cases c : k = q
    · rw [if_pos c] at h ⊢
      cases h
      exact ⟨v, rfl, h1⟩
    · rw [if_neg c] at h ⊢
      exact lookV_rel h2 h
theorem hasT_idx : ∀ {ks : List (List Nat)} (k : List Nat), (idxT k ks).isSome = hasT k ks
  | [], _ => rfl
  | q :: ks, k => by
    unfold idxT hasT
    rw [List.any_cons]
    by_cases c : k = q
    · rw [if_pos c, decide_eq_true c]
      rfl
    · rw [if_neg c, decide_eq_false c, Bool.false_or, Option.isSome_map]
      exact hasT_idx k
theorem lookT_idx {N : Cn} {γ : Gh} {H : Hp} : ∀ {ks : List (List Nat)} {ds : List D} {vs : List V} {k : List Nat} {d : D}, RelL N γ H ds vs → lookT k ks ds = some d → ∃ j v, idxT k ks = some j ∧ vs[j]? = some v ∧ Rel N γ H d v
  | [], ds, vs, k, d, _, h => by unfold lookT at h; cases h
  | q :: ks, [], vs, k, d, _, h => by unfold lookT at h; cases h
  | q :: ks, d' :: ds, _, k, d, ⟨v, r, e, h1, h2⟩, h => by
    subst e
    unfold lookT at h
    unfold idxT
    by_cases c : k = q
    · rw [if_pos c] at h ⊢
      cases h
      exact ⟨0, v, rfl, rfl, h1⟩
    · rw [if_neg c] at h ⊢
      obtain ⟨j, v', h3, h4, h5⟩ := lookT_idx h2 h
      exact ⟨j + 1, v', by rw [h3]; rfl, by simpa using h4, h5⟩
end Kb

set_option Elab.async false
set_option linter.all false
set_option maxRecDepth 100000
set_option maxHeartbeats 4000000
/-! KbCo: the rule of comparisons. -/
namespace Kb
open PySem PySem.Spec PyProof.Rows L2
def co : Co → CmpOp
  | .eq => .Eq
  | .ne => .NotEq
  | .lt => .Lt
  | .le => .LtE
  | .gt => .Gt
  | .ge => .GtE
  | .isin => .In
  | .notin => .NotIn
  | .is_ => .Is
  | .isnot => .IsNot
section
variable {X : Cx} {N : Cn}
theorem keyD_v {γ : Gh} {H : Hp} {d : D} {k : Ky} {v : V} (h : keyD d = some k) (r : Rel N γ H d v) : ∃ q, k = .a q ∧ v = kV (keyK q) := by
  cases d with
  | int i => cases h; cases r; exact ⟨_, rfl, rfl⟩
  | str x => cases h; obtain ⟨rfl, _⟩ := r; exact ⟨_, rfl, rfl⟩
  | _ => cases h
theorem keyD_rd {γ : Gh} {H : Hp} {d : D} {k : Ky} {v : V} (h : keyD d = some k) (r : RdR N γ H d v) : ∃ q, k = .a q ∧ v = kV (keyK q) := by
  cases d with
  | int i => exact keyD_v (N := N) (γ := γ) (H := H) h r
  | str x => exact keyD_v (N := N) (γ := γ) (H := H) h r
  | _ => cases h
theorem kaD_rd {γ : Gh} {H : Hp} {d : D} {k : Ka} {v : V} (h : kaD d = some k) (r : RdR N γ H d v) : v = kV (keyK k) ∧ d = k.d := by
  cases d with
  | int i => cases h; cases r; exact ⟨rfl, rfl⟩
  | str x => cases h; obtain ⟨rfl, _⟩ := r; exact ⟨rfl, rfl⟩
  | _ => cases h
theorem St_one (c : Nat) : St [c] = ⟨#[c]⟩ := rfl
/-- what a dict's read gives -/
theorem dic_get {H : Hp} {a : Addr} {ks : List Ky} {vs : List V} (q : Ka) (h : DicR N H a ks vs) : ∃ kvs, Rd H a (.dK kvs) ∧ valV kvs (keyK q) = lookV (.a q) ks vs ∧ ks.length = vs.length := by
  obtain ⟨t, o, h1, h2⟩ := h
  obtain ⟨rfl, _, kvs, e, rfl⟩ := dicO_inv h1
  have := zipK_len e
  exact ⟨kvs, h2, zipK_val q e, by rw [this.1, this.2]⟩
theorem op_in (hK : N.K = X.K) (hw : N.w = X.w) (hu : X.A.units + 65 < cLine) (neg : Bool) : OpR X (compareOp (if neg then .NotIn else .In)) (fun x y H Q => ∃ (γ : Gh) (a b : D) (k : Bool), RdR N γ H a x ∧ RdR N γ H b y ∧ isin a b = some k ∧ Q (.bl (if neg then !k else k)) H) := by
  intro pins s σ H x y v u Q I rx ry ⟨γ, a, b, k, ha, hb, e, q⟩
  unfold isin at e
  cases b with
  | lst ys =>
    simp only at e
    split at e
    · rename_i c
      cases e
      obtain ⟨c1, c2⟩ := ands c
      obtain ⟨d1, l1, e1⟩ := ha.dp c1
      obtain ⟨d2, l2, e2⟩ := hb.dp (n := 61) (d := .lst ys) c2
      rw [hK] at d1 d2
      obtain ⟨as, r1⟩ := Dp.reads I _ x v d1 rx
      obtain ⟨bs, r2⟩ := Dp.reads I (.list (toPyL ys)) y u d2 ry
      have hd : X.A.units + 1 + min (PyData.depthAll (toPyL ys)) (toPy a).depth < cLine := by
        have := Nat.min_le_right (PyData.depthAll (toPyL ys)) (toPy a).depth
        omega
      cases neg with
      | false =>
        refine SeqAt.in_list_reads r2 r1 l2 l1 hd ⟨.bl _, H, I, rfl, ?_⟩
        rw [any_toPy c1 c2]
        exact q
      | true =>
        refine SeqAt.notIn_list_reads r2 r1 l2 l1 hd ⟨.bl _, H, I, rfl, ?_⟩
        rw [any_toPy c1 c2]
        exact q
    · cases e
  | tup ys =>
    simp only at e
    split at e
    · rename_i c
      cases e
      obtain ⟨c1, c2⟩ := ands c
      obtain ⟨d1, l1, e1⟩ := ha.dp c1
      obtain ⟨d2, l2, e2⟩ := hb.dp (n := 61) (d := .tup ys) c2
      rw [hK] at d1 d2
      obtain ⟨as, r1⟩ := Dp.reads I _ x v d1 rx
      obtain ⟨bs, r2⟩ := Dp.reads I (.tuple (toPyL ys)) y u d2 ry
      have hd : X.A.units + 1 + min (PyData.depthAll (toPyL ys)) (toPy a).depth < cLine := by
        have := Nat.min_le_right (PyData.depthAll (toPyL ys)) (toPy a).depth
        omega
      cases neg with
      | false =>
        refine SeqAt.in_tuple_reads r2 r1 l2 l1 hd ⟨.bl _, H, I, rfl, ?_⟩
        rw [any_toPy c1 c2]
        exact q
      | true =>
        refine SeqAt.notIn_tuple_reads r2 r1 l2 l1 hd ⟨.bl _, H, I, rfl, ?_⟩
        rw [any_toPy c1 c2]
        exact q
    · cases e
  | str ys =>
    simp only at e
    split at e
    · rename_i c
      cases e
      obtain ⟨rfl, _⟩ := ha
      obtain ⟨rfl, _⟩ := hb
      cases neg with
      | false =>
        refine op_in_sign pins s σ H _ _ v u Q I rx ry ⟨c, St ys, rfl, rfl, ?_⟩
        rw [St_list]
        exact q
      | true =>
        refine op_notIn_sign pins s σ H _ _ v u Q I rx ry ⟨c, St ys, rfl, rfl, ?_⟩
        rw [St_list]
        exact q
    · cases e
  | dic ks ds =>
    simp only at e
    cases hk : keyD a with
    | none => rw [hk] at e; cases e
    | some kk =>
      rw [hk] at e
      cases e
      obtain ⟨p, rfl, rfl⟩ := keyD_rd hk ha
      obtain ⟨ad, vs, rfl, hd, hr⟩ := hb
      cases ry
      obtain ⟨kvs, h1, h2, h3⟩ := dic_get p hd
      have g : DGet H ad (kV (keyK p)) (valV kvs (keyK p)) := .inl ⟨kvs, _, h1, rfl, rfl⟩
      rw [h2] at g
      cases neg with
      | false =>
        refine d_in (by omega) I g rx fun s' I' => ⟨.bl _, H, I', rfl, ?_⟩
        rw [lookV_some _ h3]
        exact q
      | true =>
        refine d_notIn (by omega) I g rx fun s' I' => ⟨.bl _, H, I', rfl, ?_⟩
        rw [lookV_some _ h3]
        exact q
  | kdic ks ds =>
    cases a with
    | str kk =>
      cases e
      obtain ⟨rfl, _⟩ := ha
      obtain ⟨ad, vs, rfl, ⟨⟨es, n, hkd⟩, hl, hno, hyes⟩, hr⟩ := hb
      rw [hK, hw] at hkd
      have hns : ∃ r, PySem.W.nsIn X.K ad (St kk) = some r ∧ r.isSome = hasT kk ks := by
        rw [← hK, ← hasT_idx]
        cases c : idxT kk ks with
        | none => exact ⟨none, hno kk c, rfl⟩
        | some j =>
          obtain ⟨u', v', e1, _, _⟩ := hyes kk j c
          exact ⟨some u', e1, rfl⟩
      obtain ⟨r, e1, e2⟩ := hns
      cases neg with
      | false =>
        refine op_in_kd hkd pins s σ H _ _ v u Q I rx ry ⟨St kk, r, rfl, rfl, e1, ?_⟩
        rw [e2]
        exact q
      | true =>
        refine op_notIn_kd hkd pins s σ H _ _ v u Q I rx ry ⟨St kk, r, rfl, rfl, e1, ?_⟩
        rw [e2]
        exact q
    | _ => cases e
  | set ks =>
    simp only at e
    cases hk : kaD a with
    | none => rw [hk] at e; cases e
    | some kk =>
      rw [hk] at e
      cases e
      obtain ⟨rfl, _⟩ := kaD_rd hk ha
      obtain ⟨ad, rfl, _, h1, _⟩ := hb
      cases ry
      rw [hw] at h1
      have R := (setV_get I h1).setOf (P := X.prog)
      have em : decide (keyK kk ∈ ks.map keyK) = decide (kk ∈ ks) := by
        refine decide_eq_decide.mpr ⟨fun z => ?_, fun z => List.mem_map.mpr ⟨_, z, rfl⟩⟩
        obtain ⟨k', z1, z2⟩ := List.mem_map.mp z
        rw [← keyK_inj z2]
        exact z1
      cases neg with
      | false =>
        refine wpAny_inSet_of (knd := mixKind X.prog X.w) (kV_is rx) (key_scan rx) R ⟨.bl _, H, I.tok _, rfl, ?_⟩
        rw [em]
        exact q
      | true =>
        refine wpAny_notInSet_of (knd := mixKind X.prog X.w) (kV_is rx) (key_scan rx) R ⟨.bl _, H, I.tok _, rfl, ?_⟩
        rw [em]
        exact q
  | _ => cases e
theorem txt_v {γ : Gh} {H : Hp} {x : List Nat} {v : V} (h : RdR N γ H (.str x) v) : v = .str (St x) := h.1
theorem non_iff {γ : Gh} {H : Hp} {d : D} {v : V} (h : RdR N γ H d v) : v = .non ↔ d = .non := by
  cases d with
  | non => cases h; exact ⟨fun _ => rfl, fun _ => rfl⟩
  | bl b => cases h; exact ⟨fun z => (nomatch z), fun z => (nomatch z)⟩
  | int b => cases h; exact ⟨fun z => (nomatch z), fun z => (nomatch z)⟩
  | str b => cases h.1; exact ⟨fun z => (nomatch z), fun z => (nomatch z)⟩
  | tup b => obtain ⟨_, _, e, _⟩ := h; cases e; exact ⟨fun z => (nomatch z), fun z => (nomatch z)⟩
  | lst b => obtain ⟨_, _, e, _⟩ := h; cases e; exact ⟨fun z => (nomatch z), fun z => (nomatch z)⟩
  | dic b c => obtain ⟨_, _, e, _⟩ := h; cases e; exact ⟨fun z => (nomatch z), fun z => (nomatch z)⟩
  | kdic b c => obtain ⟨_, _, e, _⟩ := h; cases e; exact ⟨fun z => (nomatch z), fun z => (nomatch z)⟩
  | set b => obtain ⟨_, e, _⟩ := h; cases e; exact ⟨fun z => (nomatch z), fun z => (nomatch z)⟩
  | ref b => obtain ⟨_, e, _⟩ := h; cases e; exact ⟨fun z => (nomatch z), fun z => (nomatch z)⟩
  | scr b => obtain ⟨_, e, _⟩ := h; cases e; exact ⟨fun z => (nomatch z), fun z => (nomatch z)⟩
def rCmp (N : Cn) (op : Co) : R2 := fun x y H Q => ∃ (γ : Gh) (a b : D) (k : Bool), RdR N γ H a x ∧ RdR N γ H b y ∧ cmpD op a b = some k ∧ Q (.bl k) H
theorem op_cmp (hK : N.K = X.K) (hw : N.w = X.w) (hu : X.A.units + 65 < cLine) (op : Co) : OpR X (compareOp (co op)) (rCmp N op) := by
  intro pins s σ H x y v u Q I rx ry ⟨γ, a, b, k, ha, hb, e, q⟩
  unfold cmpD at e
  split at e
  · split at e
    · rename_i c
      cases e
      obtain ⟨c1, c2⟩ := ands c
      obtain ⟨d1, l1, e1⟩ := ha.dp c1
      obtain ⟨d2, l2, e2⟩ := hb.dp c2
      rw [hK] at d1 d2
      refine op_eqD (by omega) pins s σ H x y v u Q I rx ry ⟨_, _, d1, d2, shaped_of l1 e1 (by decide), shaped_of l2 e2 (by decide), ?_⟩
      rw [eqv_toPy _ _ c1 c2]
      exact q
    · cases e
  · split at e
    · rename_i c
      cases e
      obtain ⟨c1, c2⟩ := ands c
      obtain ⟨d1, l1, e1⟩ := ha.dp c1
      obtain ⟨d2, l2, e2⟩ := hb.dp c2
      rw [hK] at d1 d2
      refine op_neD (by omega) pins s σ H x y v u Q I rx ry ⟨_, _, d1, d2, shaped_of l1 e1 (by decide), shaped_of l2 e2 (by decide), ?_⟩
      rw [eqv_toPy _ _ c1 c2]
      exact q
    · cases e
  · cases ha; cases hb; cases e; exact op_lt pins s σ H _ _ v u Q I rx ry ⟨_, _, rfl, rfl, q⟩
  · cases ha; cases hb; cases e; exact op_le pins s σ H _ _ v u Q I rx ry ⟨_, _, rfl, rfl, q⟩
  · cases ha; cases hb; cases e; exact op_gt pins s σ H _ _ v u Q I rx ry ⟨_, _, rfl, rfl, q⟩
  · cases ha; cases hb; cases e; exact op_ge pins s σ H _ _ v u Q I rx ry ⟨_, _, rfl, rfl, q⟩
  · cases txt_v ha; cases txt_v hb; cases e
    refine op_lt_str pins s σ H _ _ v u Q I rx ry ⟨_, _, rfl, rfl, ?_⟩
    rw [St_list, St_list, ← ltS_eq]
    exact q
  · cases txt_v ha; cases txt_v hb; cases e
    refine op_gt_str pins s σ H _ _ v u Q I rx ry ⟨_, _, rfl, rfl, ?_⟩
    rw [St_list, St_list, ← ltS_eq]
    exact q
  · cases txt_v ha; cases txt_v hb; cases e
    refine op_le_str pins s σ H _ _ v u Q I rx ry ⟨_, _, rfl, rfl, ?_⟩
    rw [St_list, St_list, ← ltS_eq]
    exact q
  · cases txt_v ha; cases txt_v hb; cases e
    refine op_ge_str pins s σ H _ _ v u Q I rx ry ⟨_, _, rfl, rfl, ?_⟩
    rw [St_list, St_list, ← ltS_eq]
    exact q
  · exact op_in hK hw hu false pins s σ H x y v u Q I rx ry ⟨γ, _, _, k, ha, hb, e, q⟩
  · cases c : isin a b with
    | none => rw [c] at e; cases e
    | some k' =>
      rw [c] at e
      cases e
      exact op_in hK hw hu true pins s σ H x y v u Q I rx ry ⟨γ, _, _, k', ha, hb, c, q⟩
  · cases ha; cases hb; cases e; exact op_isN pins s σ H _ _ v u Q I rx ry ⟨rfl, q⟩
  · cases hb
    cases e
    refine op_isN pins s σ H _ _ v u Q I rx ry ⟨rfl, ?_⟩
    rw [decide_eq_false]
    · exact q
    · intro z
      have := (non_iff ha).mp z
      subst this
      contradiction
  · cases ha; cases hb; cases e; exact op_notN pins s σ H _ _ v u Q I rx ry ⟨rfl, q⟩
  · cases hb
    cases e
    refine op_notN pins s σ H _ _ v u Q I rx ry ⟨rfl, ?_⟩
    rw [decide_eq_false]
    · exact q
    · intro z
      have := (non_iff ha).mp z
      subst this
      contradiction
  · cases ha; cases hb; cases e
    refine op_isBl pins s σ H _ _ v u Q I rx ry ⟨_, _, rfl, rfl, ?_⟩
    rw [Bool.beq_eq_decide_eq] at q
    exact q
  · cases ha; cases hb; cases e
    refine op_notBl pins s σ H _ _ v u Q I rx ry ⟨_, _, rfl, rfl, ?_⟩
    rw [Bool.beq_eq_decide_eq] at q
    exact q
  · cases e
end
end Kb

set_option Elab.async false
set_option linter.all false
set_option maxRecDepth 100000
set_option maxHeartbeats 4000000
/-! KbRepr: written forms of flat values. -/
namespace Kb
open PySem PySem.Builtin.Str PySem.Spec PyProof.Rows L2 TL
theorem ofS (x : String) (l : List Nat) (h : x.toList.map Char.toNat = l) : Str.ofString x = St l := by
  rw [Str.ofString_eq_toList, h]
  rfl
theorem nat_St (n : Nat) : Str.ofString (toString n) = St (digits n) := by
  apply ofS
  unfold digits
  show (Nat.repr n).toList.map Char.toNat = _
  unfold Nat.repr
  rw [String.toList_ofList]
theorem int_St (i : Int) : Str.ofString (toString i) = St (intS i) := by
  cases i with
  | ofNat n =>
    have e : intS (Int.ofNat n) = digits n := by
      unfold intS
      rw [if_neg (by simp)]
      rfl
    rw [e]
    exact nat_St n
  | negSucc n =>
    have e : intS (Int.negSucc n) = 45 :: digits (n + 1) := by
      unfold intS
      rw [if_pos (Int.negSucc_lt_zero n)]
      rfl
    rw [e]
    apply ofS
    show ("-" ++ Nat.repr (n + 1)).toList.map Char.toNat = _
    rw [String.toList_append]
    unfold digits Nat.repr
    simp only [List.map_append, String.toList_ofList]
    rfl
theorem print_all : ((List.range 127).all fun c => decide (c < 32) || Unicode.isPrintable c) = true := by decide +kernel
theorem reprChar_plain {c : Nat} (h : plainC c = true) : reprChar 39 c = [c] := by
  unfold plainC at h
  obtain ⟨h1, h4⟩ := ands h
  obtain ⟨h1, h3⟩ := ands h1
  obtain ⟨h1, h2⟩ := ands h1
  have h1 := of_decide_eq_true h1
  have h2 := of_decide_eq_true h2
  have h3 := of_decide_eq_true h3
  have h4 := of_decide_eq_true h4
  have p := List.all_eq_true.mp print_all c (List.mem_range.mpr h2)
  rw [decide_eq_false (by omega), Bool.false_or] at p
  unfold reprChar
  have e1 : (c == 39 || c == 92) = false := by simp [h3, h4]
  have e2 : (c == 10) = false := by simp; omega
  have e3 : (c == 13) = false := by simp; omega
  have e4 : (c == 9) = false := by simp; omega
  simp only [e1, e2, e3, e4, p, Bool.false_eq_true, if_false, if_true]
theorem foldl_plain : ∀ (l : List Nat) (acc : Array Nat), l.all plainC = true → l.foldl (fun out c => out ++ (reprChar 39 c).toArray) acc = acc ++ l.toArray
  | [], acc, _ => by simp
  | c :: l, acc, h => by
    rw [List.all_cons, Bool.and_eq_true] at h
    rw [List.foldl_cons, foldl_plain l _ h.2, reprChar_plain h.1, Array.append_assoc]
    congr 1
    simp
theorem text_St {l : List Nat} (h : l.all plainC = true) : reprText (St l) = St (39 :: (l ++ [39])) := by
  have no : (St l).cps.contains 39 = false := by
    rw [show (St l).cps = l.toArray from rfl, List.contains_toArray]
    refine Bool.eq_false_iff.mpr fun z => ?_
    have hm : 39 ∈ l := by simpa using z
    have := List.all_eq_true.mp h 39 hm
    revert this
    decide
  have q : reprQuote (St l) = 39 := by
    unfold reprQuote
    rw [no]
    rfl
  unfold reprText
  rw [q]
  show (⟨(l.toArray.foldl (fun out c => out ++ (reprChar 39 c).toArray) #[39]).push 39⟩ : Str) = _
  rw [List.foldl_toArray, foldl_plain l _ h]
  show _ = (⟨(39 :: (l ++ [39])).toArray⟩ : Str)
  congr 1
  simp
theorem digits_txt (n : Nat) : Txt (digits n) := by
  intro c hc
  unfold digits at hc
  obtain ⟨d, h1, h2⟩ := List.mem_map.mp hc
  rw [← h2]
  have v := d.valid
  simp only [UInt32.isValidChar, Nat.isValidChar] at v
  have e : d.toNat = d.val.toNat := rfl
  omega
theorem intS_txt (i : Int) : Txt (intS i) := by
  unfold intS
  split
  · intro c hc
    rcases List.mem_cons.mp hc with rfl | hc
    · decide
    · exact digits_txt _ c hc
  · exact digits_txt _
theorem plain_txt {l : List Nat} (h : l.all plainC = true) : Txt (39 :: (l ++ [39])) := by
  intro c hc
  rcases List.mem_cons.mp hc with rfl | hc
  · decide
  · rcases List.mem_append.mp hc with hc | hc
    · have p := List.all_eq_true.mp h c hc
      unfold plainC at p
      have := of_decide_eq_true (ands (ands (ands p).1).1).2
      omega
    · have : c = 39 := by simpa using hc
      omega
theorem log_small {i : Int} (h : i.natAbs < 2 ^ 1000) : i.natAbs.log2 < 1920 := by
  by_cases z : i.natAbs = 0
  · rw [z]; decide
  · have := (Nat.log2_lt z).mpr h
    omega
end Kb

set_option Elab.async false
set_option linter.all false
set_option maxRecDepth 100000
set_option maxHeartbeats 4000000
/-! KbBlt: built-ins and methods by the small language's values. -/
namespace Kb
open PySem PySem.Spec PyProof.Rows L2 TL
def RdL (N : Cn) (γ : Gh) (H : Hp) : List D → List V → Prop := Paired (RdR N γ H)
/-- what a built-in's name stands for -/
def blV : Bl → V
  | .len => .non
  | .abs => .non
  | .repr => .non
  | .reprT => .non
  | .all => .non
  | .any => .non
  | .sorted => .non
  | .max => .non
  | .min => .non
  | .sum => .non
  | .int => .ty "int"
  | .str => .ty "str"
  | .list => .ty "list"
  | .tuple => .ty "tuple"
  | .set => .ty "set"
  | .dict => .ty "dict"
def blName : Bl → String
  | .len => "len"
  | .abs => "abs"
  | .repr => "repr"
  | .reprT => "repr"
  | .all => "all"
  | .any => "any"
  | .sorted => "sorted"
  | .max => "max"
  | .min => "min"
  | .sum => "sum"
  | .int => "int"
  | .str => "str"
  | .list => "list"
  | .tuple => "tuple"
  | .set => "set"
  | .dict => "dict"
def isTy : Bl → Bool
  | .int => true
  | .str => true
  | .list => true
  | .tuple => true
  | .set => true
  | .dict => true
  | _ => false
def blVal (b : Bl) : Value := if isTy b then .type (blName b) else .builtin (blName b)
/-! ### flat values -/
section
variable {N : Cn} {γ : Gh} {H : Hp}
theorem flat_v {d : D} {v : V} (f : flat d = true) (r : Rel N γ H d v) : flatV v = true := by
  cases d with
  | non => cases r; rfl
  | bl b => cases r; rfl
  | int i => cases r; rfl
  | str x => cases r.1; rfl
  | _ => cases f
theorem flat_eq {d e : D} {v w : V} (f : flat d = true) (g : flat e = true) (r : Rel N γ H d v) (q : Rel N γ H e w) : eqV v w = eqD d e := by
  cases d with
  | non => cases r; cases e <;> first | (cases q; rfl) | (cases q.1; rfl) | cases g
  | bl b =>
    cases r
    cases e <;> first | cases g | skip
    · cases q; rfl
    · cases q; rfl
    · cases q
      rename_i i
      show ((if b = true then (1 : Int) else 0) == i) = decide ((if b = true then (1 : Int) else 0) = i)
      exact Bool.beq_eq_decide_eq ..
    · cases q.1; rfl
  | int i =>
    cases r
    cases e <;> first | cases g | skip
    · cases q; rfl
    · cases q
      rename_i b
      show (i == (if b = true then (1 : Int) else 0)) = decide (i = (if b = true then (1 : Int) else 0))
      exact Bool.beq_eq_decide_eq ..
    · cases q
      rename_i j
      show (i == j) = decide (i = j)
      exact Bool.beq_eq_decide_eq ..
    · cases q.1; rfl
  | str x =>
    cases r.1
    cases e <;> first | cases g | skip
    · cases q; rfl
    · cases q; rfl
    · cases q; rfl
    · cases q.1
      rename_i y
      show (St x == St y) = decide (x = y)
      by_cases h : x = y
      · subst h; simp
      · rw [decide_eq_false h]
        exact beq_eq_false_iff_ne.mpr fun z => h (St_inj z)
  | _ => cases f
theorem flat_all : ∀ {ds : List D} {vs : List V}, ds.all flat = true → RelL N γ H ds vs → vs.all flatV = true
  | [], _, _, h => by cases h; rfl
  | d :: ds, _, f, ⟨v, r, e, h1, h2⟩ => by
    subst e
    rw [List.all_cons, Bool.and_eq_true] at f
    rw [List.all_cons, flat_v f.1 h1, flat_all f.2 h2]
    rfl
theorem flat_count {d : D} {w : V} (g : flat d = true) (q : Rel N γ H d w) : ∀ {ds : List D} {vs : List V} {us : List Value}, ds.all flat = true → RelL N γ H ds vs → Vals vs us → us.countP (eqU w) = (ds.filter fun y => eqD y d).length
  | [], _, _, _, h, r => by cases h; cases r; rfl
  | d' :: ds, _, _, f, ⟨v, r, e, h1, h2⟩, hv => by
    subst e
    cases hv with
    | cons h3 h4 =>
      rw [List.all_cons, Bool.and_eq_true] at f
      rw [List.countP_cons, flat_count g q f.2 h2 h4, eqU_of h3 (flat_v f.1 h1), flat_eq f.1 g h1 q, List.filter_cons]
      cases eqD d' d <;> simp
end
theorem joinL_eq (s : List Nat) : ∀ ys : List (List Nat), TL.joinL s ys = joinS s ys
  | [] => rfl
  | [_] => rfl
  | x :: y :: r => by
    show x ++ (s ++ TL.joinL s (y :: r)) = x ++ (s ++ joinS s (y :: r))
    rw [joinL_eq s (y :: r)]
theorem join_St (s : List Nat) (ys : List (List Nat)) : Txt.join (St s) (ys.map St) = St (joinS s ys) := by
  have h : tl (Txt.join (St s) (ys.map St)) = joinS s ys := by
    rw [join_eq, tl_join, List.map_map]
    show joinL (St s).cps.toList (ys.map fun l => (St l).cps.toList) = _
    rw [St_list]
    have : (ys.map fun l => (St l).cps.toList) = ys := by
      rw [show (fun l => (St l).cps.toList) = id from funext fun l => St_list l]
      simp
    rw [this, joinL_eq]
  have e : St (tl (Txt.join (St s) (ys.map St))) = Txt.join (St s) (ys.map St) := by
    show (⟨(Txt.join (St s) (ys.map St)).cps.toList.toArray⟩ : Str) = _
    rw [Array.toArray_toList]
  rw [← e, h]
theorem sumLen_eq : ∀ ys : List (List Nat), ((ys.map St).map (·.length)).sum = sumLen ys
  | [] => rfl
  | y :: ys => by
    rw [List.map_cons, List.map_cons, List.sum_cons, sumLen_eq ys, St_len]
    rfl
theorem Txt.joinS {s : List Nat} (h : Txt s) : ∀ {ys : List (List Nat)}, (∀ y ∈ ys, Txt y) → Txt (joinS s ys)
  | [], _ => .nil
  | [y], k => k y (by simp)
  | x :: y :: r, k => (k x (by simp)).append (h.append (Txt.joinS h fun z hz => k z (by simp [hz])))
section
variable {N : Cn} {γ : Gh} {H : Hp}
theorem txts_ok : ∀ {ds : List D} {ss : List (List Nat)} {vs : List V}, txts ds = some ss → RelL N γ H ds vs → ∀ y ∈ ss, Txt y
  | [], _, _, e, _ => by cases e; intro y hy; cases hy
  | d :: ds, ss, vs, e, ⟨v, r, e1, h, t⟩ => by
    cases d with
    | str x =>
      unfold txts at e
      cases q : txts ds with
      | none => rw [q] at e; cases e
      | some xs =>
        rw [q] at e
        cases e
        intro y hy
        rcases List.mem_cons.mp hy with rfl | hy
        · exact h.2
        · exact txts_ok q t y hy
    | _ => cases e
theorem signs_rel : ∀ {x : List Nat}, Txt x → RelL N γ H (x.map fun c => D.str [c]) (x.map fun c => V.str ⟨#[c]⟩)
  | [], _ => rfl
  | c :: x, h => .cons ⟨rfl, fun z hz => h z (by have : z = c := by simpa using hz
                                                 rw [this]; simp)⟩ (signs_rel fun z hz => h z (List.mem_cons_of_mem _ hz))
end
section
variable {X : Cx} {N : Cn}
def rBlt (N : Cn) (f : List D → Option Sl) : List V → Hp → VK → Prop := fun xs H Q => ∃ (γ : Gh) (ds : List D) (v : Sl), RdL N γ H ds xs ∧ f ds = some v ∧ ∀ x' H', Res N γ H v x' H' → Q x' H'
theorem vals_of : ∀ {xs : List V} {us : List Value}, xs.length = us.length → (∀ (i : Nat) x u, xs[i]? = some x → us[i]? = some u → RelV x u) → Vals xs us
  | [], [], _, _ => .nil
  | [], _ :: _, h, _ => by cases h
  | _ :: _, [], h, _ => by cases h
  | x :: xs, u :: us, h, k => .cons (k 0 x u rfl rfl) (vals_of (by simpa using h) fun i y w e f => k (i + 1) y w (by simpa using e) (by simpa using f))
theorem vals_signs {items : Array Value} {x : Str} (h : ItemsOf (SignAt x) items x.cps.size) : Vals (x.cps.toList.map fun c => V.str ⟨#[c]⟩) items.toList := by
  refine vals_of (by rw [List.length_map, Array.length_toList, Array.length_toList, h.1]) fun i v u e f => ?_
  obtain ⟨c, t, h1, h2⟩ := h.2 i u (by simpa using f)
  rw [List.getElem?_map, Array.getElem?_toList, h1] at e
  cases e
  exact ⟨t, h2⟩
theorem call_list_s (hc : X.calm = true) {l : List Nat} (hl : l.length ≤ line) : ∀ (pins : List (Addr × Obj)) (s : Shared) (σ : L2.St) (H : Hp) (us : List Value) (Q : VK), Inv X pins σ H s → Vals [.str (St l)] us →
    (∀ p, H p = none → Q (.ref p) (upd H p (.lst (l.map fun c => V.str ⟨#[c]⟩)))) → wpAny (model X.prog X.w) X.A (call (.type "list") us) (EP X pins σ Q) X.xe s := by
  intro pins s σ H us Q I r q
  obtain ⟨u, rfl, t, rfl⟩ := vals1 r
  refine call_list_str (I.ok.hd hc) (St l) t (fun h' tk acc' c' hk hS hacc => ?_) (by show (St l).length ≤ _; rw [St_len, line_eq]; exact hl)
  have hv := vals_signs hacc
  rw [show (St l).cps.toList = l from St_list l] at hv
  refine ⟨.ref _, upd H s.heap.objs.size (.lst (l.map fun c => V.str ⟨#[c]⟩)), I.laid hk (Nat.le_refl _) ⟨by rw [List.length_map, line_eq]; exact hl, _, c', hv, ?_⟩, rfl, q _ I.fresh⟩
  simpa using hS
theorem RdL.inv1 {γ : Gh} {H : Hp} {d : D} {xs : List V} (h : RdL N γ H [d] xs) : ∃ x, xs = [x] ∧ RdR N γ H d x := by
  cases h with
  | cons r t => cases t; exact ⟨_, rfl, r⟩
theorem call_len_d {γ : Gh} {d : D} {n : Nat} (hK : N.K = X.K) (hw : N.w = X.w) (pins : List (Addr × Obj)) (s : Shared) (σ : L2.St) (H : Hp) (x : V) (us : List Value) (Q : VK) (I : Inv X pins σ H s) (r : Vals [x] us)
    (h : RdR N γ H d x) (e : bltD .len [d] = some (.val (.int n))) (q : Q (.int n) H) : wpAny (model X.prog X.w) X.A (call (.builtin "len") us) (EP X pins σ Q) X.xe s := by
  cases d with
  | str l =>
    obtain ⟨rfl, _⟩ := h
    have e : (if l.length ≤ line then some (Sl.val (.int l.length)) else none) = some (.val (.int n)) := e
    split at e
    · rename_i c
      cases e
      exact call_len pins s σ H [_] us Q I r ⟨_, _, rfl, ⟨by rw [St_len, line_eq]; exact c, rfl⟩, by rw [St_len]; exact q⟩
    · cases e
  | lst l =>
    obtain ⟨a, vs, rfl, h1, h2⟩ := h
    cases e
    exact call_len pins s σ H [_] us Q I r ⟨_, _, rfl, .inl ⟨vs, .inl (.inl h1), rfl⟩, by rw [← h2.length]; exact q⟩
  | tup l =>
    obtain ⟨a, vs, rfl, h1, h2⟩ := h
    cases e
    exact call_len pins s σ H [_] us Q I r ⟨_, _, rfl, .inr ⟨vs, hK ▸ h1.sq, rfl⟩, by rw [← h2.length]; exact q⟩
  | dic ks ds =>
    obtain ⟨a, vs, rfl, ⟨t, o, h1, h2⟩, h3⟩ := h
    cases e
    obtain ⟨u, rfl, hu⟩ := vals1 r
    cases hu
    obtain ⟨rfl, _, kvs, e, rfl⟩ := dicO_inv h1
    refine d_len I h2 fun t s' I' => ⟨.int kvs.length, H, I', ⟨t, rfl⟩, ?_⟩
    rw [← (zipK_len e).1]
    exact q
  | set ks =>
    obtain ⟨a, rfl, _, h1, _⟩ := h
    cases e
    obtain ⟨u, rfl, hu⟩ := vals1 r
    cases hu
    rw [hw] at h1
    obtain ⟨o, es, ep, t, ho, hex, hd, g, pm, nd, hb, hf, _⟩ := setV_get I h1
    have en : es.size = ks.length := by
      have := pm.length_eq
      rw [List.length_map, List.length_map, Array.length_toList] at this
      exact this
    refine call_len_set ho hex hd hf (by unfold scanBound at hb; omega) ⟨.int ks.length, H, I.tok _, ⟨_, by rw [en]⟩, q⟩
  | _ => cases e
def bOld : Bl → Bool
  | .reprT => false
  | .sorted => false
  | .dict => false
  | .set => false
  | .max => false
  | .min => false
  | .sum => false
  | _ => true
theorem call_blt (hK : N.K = X.K) (hw : N.w = X.w) (hc : X.calm = true) (b : Bl) (hb : bOld b = true) : CallR X (blVal b) (rBlt N (bltD b)) := by
  intro pins s σ H xs us Q I r ⟨γ, ds, v, hd, e, k⟩
  have e0 := e
  unfold bltD at e
  split at e
  · obtain ⟨x, rfl, h⟩ := hd.inv1
    split at e
    · cases e
      exact call_len_d hK hw pins s σ H x us Q I r h e0 (k _ _ (.same rfl))
    · cases e
  · obtain ⟨x, rfl, h⟩ := hd.inv1
    cases e
    exact call_len_d hK hw pins s σ H x us Q I r h e0 (k _ _ (.same rfl))
  · obtain ⟨x, rfl, h⟩ := hd.inv1
    cases e
    exact call_len_d hK hw pins s σ H x us Q I r h e0 (k _ _ (.same rfl))
  · obtain ⟨x, rfl, h⟩ := hd.inv1
    cases e
    exact call_len_d hK hw pins s σ H x us Q I r h e0 (k _ _ (.same rfl))
  · obtain ⟨x, rfl, h⟩ := hd.inv1
    cases e
    exact call_len_d hK hw pins s σ H x us Q I r h e0 (k _ _ (.same rfl))
  · obtain ⟨x, rfl, h⟩ := hd.inv1
    cases e
    cases h
    exact call_abs pins s σ H _ us Q I r ⟨_, rfl, k _ _ (.same rfl)⟩
  · obtain ⟨x, rfl, h⟩ := hd.inv1
    cases e
    cases h
    exact call_int1 pins s σ H _ us Q I r (.inl ⟨_, rfl, k _ _ (.same rfl)⟩)
  · obtain ⟨x, rfl, h⟩ := hd.inv1
    cases e
    cases h
    exact call_int1 pins s σ H _ us Q I r (.inr ⟨_, rfl, k _ _ (.same rfl)⟩)
  · obtain ⟨x, rfl, h⟩ := hd.inv1
    obtain ⟨u, rfl, hu⟩ := vals1 r
    rename_i d
    cases d with
    | non =>
      cases e; cases h; cases hu
      exact PySem.P.repr_of_none ⟨.str (St [78, 111, 110, 101]), H, I.tok _, ⟨s.toks, congrArg (fun z => Value.str z s.toks) (ofS "None" _ (by decide +kernel))⟩, k _ _ (.same ⟨rfl, fun c hc => by revert c; decide⟩)⟩
    | bl b =>
      cases h; cases hu
      cases b with
      | true =>
        cases e
        exact PySem.P.repr_of_bool ⟨.str (St [84, 114, 117, 101]), H, I.tok _, ⟨s.toks, congrArg (fun z => Value.str z s.toks) (ofS "True" _ (by decide +kernel))⟩, k _ _ (.same ⟨rfl, fun c hc => by revert c; decide⟩)⟩
      | false =>
        cases e
        exact PySem.P.repr_of_bool ⟨.str (St [70, 97, 108, 115, 101]), H, I.tok _, ⟨s.toks, congrArg (fun z => Value.str z s.toks) (ofS "False" _ (by decide +kernel))⟩, k _ _ (.same ⟨rfl, fun c hc => by revert c; decide⟩)⟩
    | int i =>
      cases h
      obtain ⟨t, rfl⟩ := hu
      have e : (if i.natAbs < 2 ^ 1000 then some (intS i) else none).map (fun x => Sl.val (.str x)) = some v := e
      split at e
      · rename_i c
        cases e
        refine PySem.P.repr_of_int (log_small c) ⟨.str (St (intS i)), H, I.tok _, ⟨s.toks, ?_⟩, k _ _ (.same ⟨rfl, intS_txt i⟩)⟩
        exact congrArg (fun z => Value.str z s.toks) (int_St i)
      · cases e
    | str x =>
      obtain ⟨rfl, _⟩ := h
      obtain ⟨t, rfl⟩ := hu
      have e : (if (x.all plainC && decide (x.length ≤ 1000000)) = true then some (39 :: (x ++ [39])) else none).map (fun x => Sl.val (.str x)) = some v := e
      split at e
      · rename_i c
        obtain ⟨c1, c2⟩ := ands c
        have c2 := of_decide_eq_true c2
        cases e
        refine PySem.P.repr_of_str ⟨.str (St (39 :: (x ++ [39]))), H, I.tok _, ⟨s.toks, congrArg (fun z => Value.str z s.toks) (text_St c1)⟩, k _ _ (.same ⟨rfl, plain_txt c1⟩)⟩ ?_
        rw [text_St c1, St_len, line_eq, List.length_cons, List.length_append]
        show x.length + 1 + 1 ≤ 16777216
        omega
      · cases e
    | _ => cases e
  · cases hb
  · obtain ⟨x, rfl, h⟩ := hd.inv1
    rename_i ds
    cases eb : bools ds with
    | none => rw [eb] at e; cases e
    | some bs =>
      rw [eb] at e
      cases e
      obtain ⟨a, vs, rfl, h1, h2⟩ := h
      have := h2.of_bools eb
      subst this
      exact cr_all hc pins s σ H _ us Q I r ⟨a, bs, rfl, .inl (.inl h1), k _ _ (.same rfl)⟩
  · obtain ⟨x, rfl, h⟩ := hd.inv1
    rename_i ds
    cases eb : bools ds with
    | none => rw [eb] at e; cases e
    | some bs =>
      rw [eb] at e
      cases e
      obtain ⟨a, vs, rfl, h1, h2⟩ := h
      have := h2.of_bools eb
      subst this
      exact cr_any hc pins s σ H _ us Q I r ⟨a, bs, rfl, .inl (.inl h1), k _ _ (.same rfl)⟩
  · cases hb
  · cases hb
  · cases hb
  · cases hb
  · cases hb
  · cases hb
  · cases hb
  · cases hb
  · cases hb
  · cases hb
  · cases hb
  · cases hb
  · obtain ⟨x, rfl, a, vs, rfl, h1, h2⟩ := hd.inv1
    cases e
    exact call_list_of pins s σ H _ us Q I r ⟨a, vs, rfl, .inl (.inl (.inl h1)), fun l hl => k _ _ (.lst hl h2)⟩
  · obtain ⟨x, rfl, a, vs, rfl, h1, h2⟩ := hd.inv1
    cases e
    exact call_list_of pins s σ H _ us Q I r ⟨a, vs, rfl, .inr (hK ▸ h1.sq), fun l hl => k _ _ (.lst hl h2)⟩
  · obtain ⟨x, rfl, h, ht⟩ := hd.inv1
    split at e
    · rename_i c
      cases e
      cases h
      exact call_list_s hc c pins s σ H us Q I r fun p np => k _ _ (.lst np (signs_rel ht))
    · cases e
  · obtain ⟨x, rfl, a, vs, rfl, h1, h2⟩ := hd.inv1
    cases e
    exact call_tuple_of pins s σ H _ us Q I r ⟨a, vs, rfl, .inl ⟨.inl (.inl h1), fun l hl => k _ _ (.tup hl h2)⟩⟩
  · obtain ⟨x, rfl, a, vs, rfl, h1, h2⟩ := hd.inv1
    cases e
    exact call_tuple_of pins s σ H _ us Q I r ⟨a, vs, rfl, .inr ⟨hK ▸ h1.sq, k _ _ (.same ⟨a, vs, rfl, h1, h2⟩)⟩⟩
  · cases e
/-! ### repr of tuples -/
theorem St_app (a b : List Nat) : St a ++ St b = St (a ++ b) := by
  show (⟨a.toArray ++ b.toArray⟩ : Str) = ⟨(a ++ b).toArray⟩
  congr 1
  simp
theorem strJoin_St (s : List Nat) : ∀ ys : List (List Nat), Str.join (St s) (ys.map St) = St (joinS s ys)
  | [] => rfl
  | [x] => rfl
  | x :: y :: r => by
    have ih := strJoin_St s (y :: r)
    show St x ++ St s ++ Str.join (St s) ((y :: r).map St) = St (x ++ (s ++ joinS s (y :: r)))
    rw [ih, St_app, St_app, List.append_assoc]
theorem tup_St (xs : List (List Nat)) : tupleText (xs.map St) = St (tupS xs) := by
  unfold tupleText tupS
  have e1 : (", " : Str) = St [44, 32] := ofS ", " _ (by decide +kernel)
  have e2 : ("(" : Str) = St [40] := ofS "(" _ (by decide +kernel)
  have e3 : (((if (xs.map St).length == 1 then ",)" else ")" : String)) : Str) = St (if xs.length = 1 then [44, 41] else [41]) := by
    rw [List.length_map]
    by_cases c : xs.length = 1
    · rw [c]; exact ofS ",)" _ (by decide +kernel)
    · rw [if_neg c, if_neg (by simpa using c)]; exact ofS ")" _ (by decide +kernel)
  rw [e3, e1, e2, strJoin_St, St_app, St_app]
theorem txt_tup {xs : List (List Nat)} (h : ∀ x ∈ xs, Txt x) : Txt (tupS xs) := by
  unfold tupS
  intro c hc
  rcases List.mem_append.mp hc with hc | hc
  · rcases List.mem_append.mp hc with hc | hc
    · have : c = 40 := by simpa using hc
      omega
    · exact Txt.joinS (s := [44, 32]) (fun c hc => by simp at hc; omega) h c hc
  · split at hc <;> simp at hc <;> omega
/-- what the abstract heap says is what stands there -/
theorem reads_flat {s : Shared} {γ : Gh} {H : Hp} {d : D} {v : V} {u : Value} {x : List Nat} (e : reprF d = some x) (r : Rel N γ H d v) (q : RelV v u) :
    ∃ pd, Reads s.heap u pd [] ∧ pd.shown = St x ∧ pd.showable = true ∧ pd.hasDict = false ∧ pd.depth = 0 ∧ Txt x := by
  cases d with
  | non => cases r; cases q; cases e; exact ⟨.none, .none, by simp only [PyData.shown]; exact ofS "None" _ (by decide +kernel), rfl, by simp only [PyData.hasDict], rfl, by intro c hc; revert c; decide⟩
  | bl b =>
    cases r; cases q
    cases b with
    | true => cases e; exact ⟨.bool true, .bool _, by simp only [PyData.shown]; exact ofS "True" _ (by decide +kernel), rfl, by simp only [PyData.hasDict], rfl, by intro c hc; revert c; decide⟩
    | false => cases e; exact ⟨.bool false, .bool _, by simp only [PyData.shown]; exact ofS "False" _ (by decide +kernel), rfl, by simp only [PyData.hasDict], rfl, by intro c hc; revert c; decide⟩
  | int i =>
    cases r
    obtain ⟨t, rfl⟩ := q
    have e : (if i.natAbs < 2 ^ 1000 then some (intS i) else none) = some x := e
    split at e
    · rename_i c
      cases e
      exact ⟨.int i, .int _ _, by simp only [PyData.shown]; exact int_St i, by simp only [PyData.showable]; exact decide_eq_true (log_small c), by simp only [PyData.hasDict], rfl, intS_txt i⟩
    · cases e
  | str y =>
    obtain ⟨rfl, _⟩ := r
    obtain ⟨t, rfl⟩ := q
    have e : (if (y.all plainC && decide (y.length ≤ 1000000)) = true then some (39 :: (y ++ [39])) else none) = some x := e
    split at e
    · rename_i c
      obtain ⟨c1, c2⟩ := ands c
      cases e
      exact ⟨.str (St y), .str _ _, by simp only [PyData.shown]; exact text_St c1, rfl, by simp only [PyData.hasDict], rfl, plain_txt c1⟩
    · cases e
  | _ => cases e
section
variable {pins : List (Addr × Obj)} {s : Shared} {σ : L2.St} {H : Hp} {γ : Gh}
mutual
theorem reads_of (I : Inv X pins σ H s) (hK : N.K = X.K) : ∀ {n : Nat} {d : D} {v : V} {u : Value} {x : List Nat}, pl n d = true → reprD d = some x → Rel N γ H d v → RelV v u →
    ∃ pd as, Reads s.heap u pd as ∧ pd.shown = St x ∧ pd.showable = true ∧ pd.hasDict = false ∧ pd.depth ≤ n ∧ Txt x
  | n, .tup ds, v, u, x, hp, e, r, q => by
    obtain ⟨a, vs, rfl, h1, h2⟩ := r
    cases q
    rw [reprD] at e
    cases n with
    | zero => cases hp
    | succ n =>
      cases ed : reprDs ds with
      | none => rw [ed] at e; cases e
      | some xs =>
        rw [ed] at e
        cases e
        obtain ⟨its, rv, ⟨o, ho, hc, m, hd⟩, _⟩ := I.tuple (hK ▸ h1.sq)
        obtain ⟨pds, as, g1, g2, g3, g4, g5, g6⟩ := reads_all I hK (n := n) hp ed h2 rv
        refine ⟨.tuple pds, as, .tuple ho hc hd (by simpa using g1), ?_, ?_, ?_, ?_, txt_tup g6⟩
        · simp only [PyData.shown]; rw [g2, tup_St]
        · simp only [PyData.showable]; exact g3
        · simp only [PyData.hasDict]; exact g4
        · simp only [PyData.depth]; omega
  | n, .non, v, u, x, hp, e, r, q => by
    obtain ⟨pd, g1, g2, g3, g4, g5, g6⟩ := reads_flat (s := s) (by rw [reprD] at e; exact e; intro ds z; cases z) r q
    exact ⟨pd, [], g1, g2, g3, g4, by omega, g6⟩
  | n, .bl b, v, u, x, hp, e, r, q => by
    obtain ⟨pd, g1, g2, g3, g4, g5, g6⟩ := reads_flat (s := s) (by rw [reprD] at e; exact e; intro ds z; cases z) r q
    exact ⟨pd, [], g1, g2, g3, g4, by omega, g6⟩
  | n, .int b, v, u, x, hp, e, r, q => by
    obtain ⟨pd, g1, g2, g3, g4, g5, g6⟩ := reads_flat (s := s) (by rw [reprD] at e; exact e; intro ds z; cases z) r q
    exact ⟨pd, [], g1, g2, g3, g4, by omega, g6⟩
  | n, .str b, v, u, x, hp, e, r, q => by
    obtain ⟨pd, g1, g2, g3, g4, g5, g6⟩ := reads_flat (s := s) (by rw [reprD] at e; exact e; intro ds z; cases z) r q
    exact ⟨pd, [], g1, g2, g3, g4, by omega, g6⟩
  | n, .lst _, v, u, x, hp, e, r, q => by rw [reprD] at e; cases e; intro ds z; cases z
  | n, .dic _ _, v, u, x, hp, e, r, q => by cases n <;> cases hp
  | n, .set _, v, u, x, hp, e, r, q => by cases n <;> cases hp
  | n, .ref _, v, u, x, hp, e, r, q => by cases n <;> cases hp
  | n, .scr _, v, u, x, hp, e, r, q => by cases n <;> cases hp
  | n, .kdic _ _, v, u, x, hp, e, r, q => by cases n <;> cases hp
theorem reads_all (I : Inv X pins σ H s) (hK : N.K = X.K) : ∀ {n : Nat} {ds : List D} {vs : List V} {us : List Value} {xs : List (List Nat)}, ds.all (pl n) = true → reprDs ds = some xs → RelL N γ H ds vs → Vals vs us →
    ∃ pds as, ReadsAll s.heap us pds as ∧ PyData.shownAll pds = xs.map St ∧ PyData.showableAll pds = true ∧ PyData.hasDictAll pds = false ∧ PyData.depthAll pds ≤ n ∧ ∀ x ∈ xs, Txt x
  | n, [], vs, us, xs, hp, e, r, q => by
    rw [reprDs] at e
    cases e
    cases (RelL.nil_iff.mp r)
    cases q
    exact ⟨[], [], .nil, by simp only [PyData.shownAll, List.map_nil], by simp only [PyData.showableAll], by simp only [PyData.hasDictAll], by simp only [PyData.depthAll]; omega, fun x h => nomatch h⟩
  | n, d :: ds, vs, us, xs, hp, e, r, q => by
    obtain ⟨v, t, rfl, h1, h2⟩ := r
    cases q with
    | cons q1 q2 =>
      obtain ⟨p1, p2⟩ := ands (show (pl n d && ds.all (pl n)) = true from hp)
      rw [reprDs] at e
      cases e1 : reprD d with
      | none => rw [e1] at e; cases e
      | some x =>
        cases e2 : reprDs ds with
        | none => rw [e1, e2] at e; cases e
        | some ys =>
          rw [e1, e2] at e
          cases e
          obtain ⟨pd, as, g1, g2, g3, g4, g5, g6⟩ := reads_of I hK p1 e1 h1 q1
          obtain ⟨pds, bs, k1, k2, k3, k4, k5, k6⟩ := reads_all I hK p2 e2 h2 q2
          refine ⟨pd :: pds, as ++ bs, .cons g1 k1, ?_, ?_, ?_, ?_, fun y hy => ?_⟩
          · simp only [PyData.shownAll, List.map_cons, g2, k2]
          · simp only [PyData.showableAll, g3, k3, Bool.and_self]
          · simp only [PyData.hasDictAll, g4, k4, Bool.or_self]
          · simp only [PyData.depthAll]; omega
          · rcases List.mem_cons.mp hy with rfl | hy
            · exact g6
            · exact k6 y hy
end
end
def reprT1 : List D → Option Sl
  | [d] => (match reprD d with
    | some x => if pl 40 d && decide (x.length ≤ 1000000) then some (Sl.val (.str x)) else none
    | none => none)
  | _ => none
theorem reprT1_eq (ds : List D) : bltD .reprT ds = reprT1 ds := by
  unfold bltD
  cases ds with
  | nil => rfl
  | cons d t => cases t <;> rfl
theorem call_reprT (hK : N.K = X.K) (hw : N.w = X.w) (hc : X.calm = true) (hg : X.A.guards = some []) (hu : X.A.units + 65 < cLine) : CallR X (.builtin "repr") (rBlt N (bltD .reprT)) := by
  intro pins s σ H xs us Q I r ⟨γ, ds, v, hd, e, k⟩
  have e0 : reprT1 ds = some v := by rw [← reprT1_eq]; exact e
  cases ds with
  | nil => cases e0
  | cons d t =>
    cases t with
    | cons _ _ => cases e0
    | nil =>
      obtain ⟨x, rfl, h⟩ := hd.inv1
      obtain ⟨u, rfl, hu'⟩ := vals1 r
      unfold reprT1 at e0
      dsimp only at e0
      cases ed : reprD d with
      | none => rw [ed] at e0; cases e0
      | some y =>
        rw [ed] at e0
        dsimp only at e0
        split at e0
        · rename_i c
          obtain ⟨c1, c2⟩ := ands c
          have c2 := of_decide_eq_true c2
          cases e0
          cases d with
          | tup ds =>
            have h : Rel N γ H (.tup ds) x := h
            obtain ⟨pd, as, g1, g2, g3, g4, g5, g6⟩ := reads_of I hK c1 ed h hu'
            have h0 := h
            obtain ⟨a, vs, rfl, _, _⟩ := h
            cases hu'
            refine repr_of_reads' g1 g3 (fun z => by rw [g4] at z; cases z) hg (by omega) (fun _ _ z => z) (fun h' t tk kk => ⟨.str (St y), H, I.kept kk, ⟨t, by rw [g2]⟩, k _ _ (.same ⟨rfl, g6⟩)⟩) ?_
            rw [g2, St_len, line_eq]
            show y.length ≤ 16777216
            omega
          | lst _ => rw [reprD] at ed; cases ed; intro ds z; cases z
          | dic _ _ => cases c1
          | set _ => cases c1
          | ref _ => cases c1
          | scr _ => cases c1
          | kdic _ _ => cases c1
          | _ =>
            refine call_blt hK hw hc .repr rfl pins s σ H _ _ Q I r ⟨γ, _, .val (.str y), hd, ?_, k⟩
            rw [reprD] at ed
            · unfold bltD
              dsimp only
              rw [ed]
              rfl
            · intro ds z; cases z
        · cases e0
end
end Kb

set_option Elab.async false
set_option linter.all false
set_option maxRecDepth 100000
set_option maxHeartbeats 4000000
/-! KbMth: methods that change nothing; subscripts, slices, truth. -/
namespace Kb
open PySem PySem.Spec PyProof.Rows L2 TL
section
variable {X : Cx} {N : Cn}
theorem RdR.flat_rel {γ : Gh} {H : Hp} {d : D} {v : V} (f : flat d = true) (h : RdR N γ H d v) : Rel N γ H d v := by
  cases d with
  | lst _ => cases f
  | dic _ _ => cases f
  | _ => exact h
/-- what a method of one argument asks: the receiver, the argument, what comes of them -/
def rM1 (N : Cn) (R : D → Prop) (f : D → D → Option Sl) : V → List V → Hp → VK → Prop := fun x xs H Q => ∃ (γ : Gh) (o d : D) (y : V) (v : Sl), R o ∧ RdR N γ H o x ∧ xs = [y] ∧ RdR N γ H d y ∧ f o d = some v ∧ ∀ x' H', Res N γ H v x' H' → Q x' H'
def isL : D → Prop := fun d => ∃ xs, d = .lst xs
def isS : D → Prop := fun d => ∃ xs, d = .str xs
theorem mt_count_l : MtR X "list.count" (rM1 N isL fun o d => mthD .count o [d]) := by
  intro pins s σ H x xs v us Q I rx rxs hh
  obtain ⟨γ, o, d, y, w, ⟨ys, rfl⟩, ho, rfl, hd, e, k⟩ := hh
  have e : cntL ys d = some w := e
  unfold cntL at e
  split at e
  · rename_i c
    cases e
    obtain ⟨c1, c2⟩ := ands c
    obtain ⟨a, vs, rfl, h1, h2⟩ := ho
    have hd := hd.flat_rel c1
    cases rx
    obtain ⟨u, rfl, ru⟩ := rxs.one
    obtain ⟨its, rv, ⟨⟨cls, dd, data, sl⟩, n, hg, hc, hdn, hdt⟩, hlen⟩ := I.list (X := X) (.inl (.inl h1))
    simp only at hc hdt
    subst hc hdt
    refine call_meets PySem.F.slot_list_count ⟨_, hg, rfl⟩ PySem.F.entry_list_count (PySem.F.args_list_count_2 _ _) (SeqAt.list_countAt a its.toArray n dd sl u (eqU y)) ⟨hg, fun z hz => mem_eqAt ru (flat_v c1 hd) rv (flat_all c2 h2) z (by simpa using hz), ?_⟩
    have e2 : its.toArray.toList.countP (eqU y) = (ys.filter fun y => eqD y d).length := flat_count c1 hd c2 h2 rv
    rw [e2]
    exact ⟨.int _, H, I.tok _, ⟨s.toks, rfl⟩, k _ _ (.same rfl)⟩
  · cases e
theorem cnt_count_n (c : Nat) : ∀ l : List Nat, cnt c l = ((l.count c : Nat) : Int)
  | [] => rfl
  | n :: r => by
    rw [cnt_cons, cnt_count_n c r, List.count_cons]
    by_cases h : n = c
    · subst h; simp; omega
    · simp [h]
theorem mt_count_s : MtR X "str.count" (rM1 N isS fun o d => mthD .countS o [d]) := by
  intro pins s σ H x xs v us Q I rx rxs hh
  obtain ⟨γ, o, d, y, w, ⟨l, rfl⟩, ho, rfl, hd, e, k⟩ := hh
  obtain ⟨rfl, tl⟩ := ho
  cases d with
  | str q =>
    cases q with
    | nil => cases e
    | cons c t =>
      cases t with
      | cons _ _ => cases e
      | nil =>
        cases e
        obtain ⟨rfl, _⟩ := hd
        refine mt_count pins s σ H _ _ v us Q I rx rxs ⟨St l, St [c], rfl, rfl, ?_⟩
        have : Txt.count (St l) (St [c]) = ((l.count c : Nat) : Int) := by
          rw [St_one, count_cnt, St_list, cnt_count_n]
        rw [this]
        exact k _ _ (.same rfl)
  | _ => cases e
theorem idx1_spec {x : D} : ∀ {ys : List D} {n j : Nat}, idx1 x ys n = some j → ∃ i, j = n + i ∧ (∃ z, ys[i]? = some z ∧ eqD z x = true) ∧ ∀ m z, m < i → ys[m]? = some z → eqD z x = false
  | [], n, j, h => by cases h
  | y :: ys, n, j, h => by
    unfold idx1 at h
    split at h
    · rename_i c
      cases h
      exact ⟨0, rfl, ⟨y, rfl, c⟩, fun m z hm => absurd hm (by omega)⟩
    · rename_i c
      obtain ⟨i, h1, ⟨z, h2, h3⟩, h4⟩ := idx1_spec h
      refine ⟨i + 1, by omega, ⟨z, by simpa using h2, h3⟩, fun m z hm hz => ?_⟩
      cases m with
      | zero => cases hz; simpa using c
      | succ m => exact h4 m z (by omega) (by simpa using hz)
theorem toPyL_get : ∀ {ys : List D} {i : Nat}, (toPyL ys)[i]? = ys[i]?.map toPy
  | [], _ => by simp [toPyL]
  | y :: ys, 0 => rfl
  | y :: ys, i + 1 => by
    show (toPy y :: toPyL ys)[i + 1]? = _
    rw [List.getElem?_cons_succ, List.getElem?_cons_succ, toPyL_get]
theorem mt_index_l (hK : N.K = X.K) (hu : X.A.units + 65 < cLine) : MtR X "list.index" (rM1 N isL fun o d => mthD .index o [d]) := by
  intro pins s σ H x xs v us Q I rx rxs hh
  obtain ⟨γ, o, d, y, w, ⟨ys, rfl⟩, ho, rfl, hd, e, k⟩ := hh
  have e : ixL ys d = some w := e
  unfold ixL at e
  split at e
  · rename_i c
    obtain ⟨c1, c2⟩ := ands c
    cases e1 : idx1 d ys 0 with
    | none => rw [e1] at e; cases e
    | some j =>
      rw [e1] at e
      cases e
      obtain ⟨i, h1, ⟨z, h2, h3⟩, h4⟩ := idx1_spec e1
      rw [Nat.zero_add] at h1
      subst h1
      obtain ⟨d1, l1, t1⟩ := hd.dp c1
      obtain ⟨d2, l2, t2⟩ := ho.dp (n := 61) (d := .lst ys) c2
      rw [hK] at d1 d2
      obtain ⟨a, vs, rfl, h5, h6⟩ := ho
      have all : ∀ {m z}, ys[m]? = some z → pl 60 z = true := fun {m z} hz => List.all_eq_true.mp c2 z (List.mem_of_getElem? hz)
      refine mt_indexD hu pins s σ H _ _ v us Q I rx rxs ⟨a, y, toPy d, toPyL ys, j, toPy z, rfl, rfl, d2, d1, shaped_of l2 t2 (by decide), shaped_of l1 t1 (by decide), by rw [toPyL_get, h2] <;> rfl, ?_, fun m z' hm hz => ?_, k _ _ (.same rfl)⟩
      · rw [eqv_toPy z d (all h2) c1]
        exact h3
      · rw [toPyL_get] at hz
        cases q : ys[m]? with
        | none => rw [q] at hz; cases hz
        | some q' =>
          rw [q] at hz
          cases hz
          rw [eqv_toPy q' d (all q) c1]
          exact h4 m q' hm q
  · cases e
def isT : D → Prop := fun d => ∃ xs, d = .tup xs
theorem mt_index_t (hK : N.K = X.K) (hu : X.A.units + 65 < cLine) : MtR X "tuple.index" (rM1 N isT fun o d => mthD .indexT o [d]) := by
  intro pins s σ H x xs v us Q I rx rxs hh
  obtain ⟨γ, o, d, y, w, ⟨ys, rfl⟩, ho, rfl, hd, e, k⟩ := hh
  have e : ixL ys d = some w := e
  unfold ixL at e
  split at e
  · rename_i c
    obtain ⟨c1, c2⟩ := ands c
    cases e1 : idx1 d ys 0 with
    | none => rw [e1] at e; cases e
    | some j =>
      rw [e1] at e
      cases e
      obtain ⟨i, h1, ⟨z, h2, h3⟩, h4⟩ := idx1_spec e1
      rw [Nat.zero_add] at h1
      subst h1
      obtain ⟨d1, l1, t1⟩ := hd.dp c1
      obtain ⟨a, vs, rfl, h5, h6⟩ := ho
      obtain ⟨d2, l2, t2⟩ := RelL.dp c2 h6
      rw [hK] at d1 d2
      have all : ∀ {m z}, ys[m]? = some z → pl 60 z = true := fun {m z} hz => List.all_eq_true.mp c2 z (List.mem_of_getElem? hz)
      cases rx
      obtain ⟨uy, rfl, ru⟩ := rxs.one
      have sd := shaped_of l1 t1 (by decide)
      obtain ⟨bs, r1⟩ := Dp.reads I _ _ uy d1 ru
      have hroom : X.A.units + 1 + min (PyData.depthAll (toPyL ys)) (toPy d).depth < cLine := room_in_shaped sd hu
      obtain ⟨its, rv, ⟨⟨cls, dd, dt, sl⟩, hob, hc, n, hdt⟩, hz⟩ := I.tuple (hK ▸ h5.sq)
      simp only at hc hdt
      subst hc hdt
      obtain ⟨as, h7⟩ := Dp.readsAll I _ _ its d2 rv
      have hmap : its.map (SeqAt.readOf s.heap) = toPyL ys := SeqAt.readsAll_map _ its as l2 h7
      have hvl := rv.length
      have hyl := h6.length
      obtain ⟨hjd, _⟩ := List.getElem?_eq_some_iff.mp h2
      have hjl : j < its.length := by omega
      have hj : j < its.toArray.size := by simpa using hjl
      have at_ : ∀ (m : Nat) (hm : m < its.toArray.size) (z' : PyData), (toPyL ys)[m]? = some z' → SeqAt.readOf s.heap its.toArray[m] = z' := by
        intro m hm z' hz'
        have hml : m < its.length := by simpa using hm
        rw [← hmap, List.getElem?_map, List.getElem?_eq_getElem hml] at hz'
        have e1 : SeqAt.readOf s.heap its[m] = z' := Option.some.inj (show some (SeqAt.readOf s.heap its[m]) = some z' from hz')
        simpa using e1
      refine call_meets PySem.F.slot_tuple_index ⟨_, hob, rfl⟩ PySem.F.entry_tuple_index (PySem.F.args_tuple_index_2 _ _)
        (TI.tuple_indexAt a its.toArray n dd sl uy (fun u => PyData.eqv (SeqAt.readOf s.heap u) (toPy d)) j hj ?_ ?_) ⟨hob, SeqAt.items_eqAt (vs := its.toArray) (show ReadsAll s.heap its.toArray.toList (toPyL ys) as from h7) r1 l2 (SeqAt.canLay_of_shaped sd) hroom, ?_⟩
      · show PyData.eqv (SeqAt.readOf s.heap its.toArray[j]) (toPy d) = true
        rw [at_ j hj (toPy z) (by rw [toPyL_get, h2]; rfl), eqv_toPy z d (all h2) c1]
        exact h3
      · intro m hm hmj
        have hmd : m < ys.length := by have : m < its.length := by simpa using hm
                                       omega
        have hz' : ys[m]? = some ys[m] := List.getElem?_eq_getElem hmd
        show PyData.eqv (SeqAt.readOf s.heap its.toArray[m]) (toPy d) = false
        rw [at_ m hm (toPy ys[m]) (by rw [toPyL_get, hz']; rfl), eqv_toPy ys[m] d (all hz') c1]
        exact h4 m _ hmj hz'
      · exact ⟨.int (j : Nat), H, I.tok _, ⟨_, rfl⟩, k _ _ (.same rfl)⟩
  · cases e
theorem mt_join_s (hK : N.K = X.K) : MtR X "str.join" (rM1 N isS fun o d => mthD .join o [d]) := by
  intro pins s σ H x xs v us Q I rx rxs hh
  obtain ⟨γ, o, d, y, w, ⟨l, rfl⟩, ho, rfl, hd, e, k⟩ := hh
  obtain ⟨rfl, tl⟩ := ho
  have fin : ∀ {ds : List D} {a : Addr} {vs : List V}, (SqL X.K H a vs ∨ SqT X.K H a vs) → RelL N γ H ds vs → joinD l ds = some w → Vals [.ref a] us → wpAny (model X.prog X.w) X.A (call (.builtin "str.join") (v :: us)) (EP X pins σ Q) X.xe s := by
    intro ds a vs hs hr e rxs
    unfold joinD at e
    cases q : txts ds with
    | none => rw [q] at e; cases e
    | some ss =>
      rw [q] at e
      simp only at e
      split at e
      · rename_i c
        cases e
        have hv := hr.of_strs q
        subst hv
        refine mt_join pins s σ H _ _ v us Q I rx rxs ⟨St l, a, ss.map St, rfl, rfl, hs, ?_, ?_⟩
        · rw [sumLen_eq, List.length_map, St_len]
          exact c
        · rw [join_St]
          exact k _ _ (.same ⟨rfl, tl.joinS (txts_ok q hr)⟩)
      · cases e
  cases d with
  | lst ds =>
    obtain ⟨a, vs, rfl, h1, h2⟩ := hd
    exact fin (.inl (.inl (.inl h1))) h2 e rxs
  | tup ds =>
    obtain ⟨a, vs, rfl, h1, h2⟩ := hd
    exact fin (.inr (hK ▸ h1.sq)) h2 e rxs
  | _ => cases e
/-! ### subscripts -/
theorem nth_at {α : Type} (xs : List α) (i : Int) : nth xs i = atI xs i := by
  unfold nth atI ixN
  by_cases h : 0 ≤ i
  · rw [if_pos h, if_pos h]
    by_cases h2 : i < xs.length
    · rw [if_pos h2]
      rfl
    · rw [if_neg h2]
      exact List.getElem?_eq_none (by omega)
  · rw [if_neg h, if_neg h]
    by_cases h2 : -(xs.length : Int) ≤ i
    · rw [if_pos h2, if_pos h2]
      rfl
    · rw [if_neg h2, if_neg h2]
      rfl
theorem ixOf_ix (n : Nat) (i : Int) : ixOf n i = ixN n i := rfl
theorem RelL.at {γ : Gh} {H : Hp} {ds : List D} {vs : List V} {i : Int} {d : D} (h : RelL N γ H ds vs) (e : nth ds i = some d) : ∃ v, atI vs i = some v ∧ Rel N γ H d v := by
  rw [nth_at] at e
  unfold atI at e ⊢
  rw [← h.length]
  cases q : ixN ds.length i with
  | none => rw [q] at e; cases e
  | some j => rw [q] at e; exact h.get e
theorem Txt.one {l : List Nat} {i : Int} {c : Nat} (h : Txt l) (e : nth l i = some c) : Txt [c] := by
  intro z hz
  have : z = c := by simpa using hz
  subst this
  refine h z ?_
  unfold nth at e
  split at e
  · exact List.mem_of_getElem? e
  · split at e
    · exact List.mem_of_getElem? e
    · cases e
def rIdx (N : Cn) : R2 := fun x y H Q => ∃ (γ : Gh) (o i d : D), RdR N γ H o x ∧ RdR N γ H i y ∧ idxD o i = some d ∧ ∀ v, Rel N γ H d v → Q v H
/-- sequences alone -/
def isSq : D → Bool
  | .lst _ => true
  | .tup _ => true
  | .str _ => true
  | _ => false
def rIdxS (N : Cn) : R2 := fun x y H Q => ∃ (γ : Gh) (o i d : D), isSq o = true ∧ RdR N γ H o x ∧ RdR N γ H i y ∧ idxD o i = some d ∧ ∀ v, Rel N γ H d v → Q v H
theorem ix_sq (hK : N.K = X.K) : IxR X (rIdxS N) := by
  intro value slice pins s σ H x y v u Q I rx ry hh hsub
  obtain ⟨γ, o, i, d, hs, ho, hi, e, k⟩ := hh
  cases o with
  | lst ds =>
    cases i with
    | int j =>
      cases hi
      obtain ⟨a, vs, rfl, h1, h2⟩ := ho
      have e : nth ds j = some d := e
      obtain ⟨w, h3, h4⟩ := h2.at e
      exact ix_list value slice pins s σ H _ _ v u Q I rx ry ⟨a, vs, j, w, rfl, rfl, .inl (.inl h1), h3, k _ h4⟩ hsub
    | _ => cases e
  | tup ds =>
    cases i with
    | int j =>
      cases hi
      obtain ⟨a, vs, rfl, h1, h2⟩ := ho
      have e : nth ds j = some d := e
      obtain ⟨w, h3, h4⟩ := h2.at e
      exact ix_tup value slice pins s σ H _ _ v u Q I rx ry ⟨a, vs, j, w, rfl, rfl, hK ▸ h1.sq, h3, k _ h4⟩ hsub
    | _ => cases e
  | str l =>
    cases i with
    | int j =>
      cases hi
      obtain ⟨rfl, t⟩ := ho
      have e : (if l.length ≤ line then (nth l j).map fun c => D.str [c] else none) = some d := e
      split at e
      · rename_i c
        cases q : nth l j with
        | none => rw [q] at e; cases e
        | some c' =>
          rw [q] at e
          cases e
          refine ix_str value slice pins s σ H _ _ v u Q I rx ry ⟨St l, j, c', rfl, rfl, by rw [St_len, line_eq]; exact c, ?_, k _ ⟨rfl, t.one q⟩⟩ hsub
          rw [St_list, ← nth_at]
          exact q
      · cases e
    | _ => cases e
  | _ => cases hs
/-! ### slices -/
theorem clip_s (n d : Nat) (o : Option Int) : clip n d o = HT.sIx n d o := by cases o <;> rfl
theorem RelL.cut {γ : Gh} {H : Hp} {ds : List D} {vs : List V} (h : RelL N γ H ds vs) (lo hi : Option Int) : RelL N γ H (Kb.cut ds lo hi) (cutV vs lo hi) := by
  unfold Kb.cut cutV
  rw [clip_s, clip_s, h.length]
  exact (h.drop _).take _
theorem cut_map {α β : Type} (f : α → β) (xs : List α) (lo hi : Option Int) : Kb.cut (xs.map f) lo hi = (Kb.cut xs lo hi).map f := by
  unfold Kb.cut
  rw [List.length_map, List.map_take, List.map_drop]
theorem Txt.cut {l : List Nat} (h : Txt l) (lo hi : Option Int) : Txt (Kb.cut l lo hi) := fun c hc => h c (List.mem_of_mem_drop (List.mem_of_mem_take hc))
def rSli (N : Cn) : V → Option Int → Option Int → Hp → VK → Prop := fun x lo hi H Q => ∃ (γ : Gh) (o : D) (v : Sl), RdR N γ H o x ∧ slD o lo hi = some v ∧ ∀ x' H', Res N γ H v x' H' → Q x' H'
theorem sl_any (hK : N.K = X.K) : SlR X (rSli N) := by
  intro pins s σ H x v vl vu lo hi sl Q I rx hs pl pu ⟨γ, o, w, ho, e, k⟩
  unfold slD at e
  cases o with
  | lst ds =>
    obtain ⟨a, vs, rfl, h1, h2⟩ := ho
    cases e
    exact sl_list pins s σ H _ v vl vu lo hi sl Q I rx hs pl pu ⟨a, vs, rfl, .inl (.inl h1), fun p np => k _ _ (.lst np (h2.cut lo hi))⟩
  | tup ds =>
    obtain ⟨a, vs, rfl, h1, h2⟩ := ho
    cases e
    refine sl_tupA pins s σ H _ v vl vu lo hi sl Q I rx hs pl pu ⟨a, vs, rfl, hK ▸ h1.sq, fun z => ?_, fun _ p np => k _ _ (.tup np (h2.cut lo hi))⟩
    refine k _ _ (.same ⟨a, vs, rfl, h1, ?_⟩)
    have e2 : Kb.cut ds lo hi = ds := by
      unfold Kb.cut
      rw [clip_s, clip_s, h2.length, z.1, z.2, List.drop_zero, Nat.sub_zero, ← h2.length, List.take_length]
    rw [e2]
    exact h2
  | scr ns =>
    obtain ⟨a, rfl, h1⟩ := ho
    cases e
    refine sl_list pins s σ H _ v vl vu lo hi sl Q I rx hs pl pu ⟨a, ns.map V.int, rfl, hK ▸ h1.sq, fun p np => k _ _ (.lst np ?_)⟩
    have e2 : cutV (ns.map V.int) lo hi = (Kb.cut ns lo hi).map V.int := by
      rw [← cut_map]
      unfold Kb.cut cutV
      rw [clip_s, clip_s]
    rw [e2]
    exact RelL.ints
  | str l =>
    obtain ⟨rfl, t⟩ := ho
    simp only at e
    split at e
    · rename_i c
      cases e
      refine sl_str pins s σ H _ v vl vu lo hi sl Q I rx hs pl pu ⟨St l, rfl, by rw [St_len, line_eq]; exact c, ?_⟩
      have e2 : cutS (St l) lo hi = St (Kb.cut l lo hi) := by
        unfold cutS Kb.cut
        rw [St_list, St_len, clip_s, clip_s]
        rfl
      rw [e2]
      exact k _ _ (.same ⟨rfl, t.cut lo hi⟩)
    · cases e
  | _ => cases e
/-! ### truth -/
theorem tru_v (hK : N.K = X.K) {γ : Gh} {H : Hp} {d : D} {x : V} {k : Bool} (h : RdR N γ H d x) (e : tru d = some k) : TruV X.K x H k := by
  cases d with
  | non => cases h; cases e; rfl
  | bl b => cases h; cases e; rfl
  | int i =>
    cases h
    cases e
    show decide (i ≠ 0) = (i != 0)
    by_cases z : i = 0
    · subst z; rfl
    · rw [decide_eq_true z]
      exact (bne_iff_ne.mpr z).symm
  | str l =>
    obtain ⟨rfl, _⟩ := h
    have e : (if l.length ≤ line then some (!l.isEmpty) else none) = some k := e
    split at e
    · rename_i c
      cases e
      refine ⟨by rw [St_len, line_eq]; exact c, ?_⟩
      rw [St_len]
      cases l with
      | nil => rfl
      | cons a l =>
        show true = _
        refine (bne_iff_ne.mpr ?_).symm
        rw [List.length_cons]
        omega
    · cases e
  | tup ds =>
    obtain ⟨a, vs, rfl, h1, h2⟩ := h
    cases e
    refine .inr (.inl ⟨vs, hK ▸ h1.sq, ?_⟩)
    have := h2.length
    cases ds <;> cases vs <;> first | rfl | cases this
  | lst ds =>
    obtain ⟨a, vs, rfl, h1, h2⟩ := h
    cases e
    refine .inl ⟨vs, .inl (.inl h1), ?_⟩
    have := h2.length
    cases ds <;> cases vs <;> first | rfl | cases this
  | _ => cases e
end
end Kb

set_option Elab.async false
set_option linter.all false
set_option maxRecDepth 100000
set_option maxHeartbeats 4000000
/-! KbPost: what the small language's run says of the layer's readings. -/
namespace Kb
open PySem PySem.Spec PyProof.Rows L2

/-- from one state to a later one, within an expression: no name's own list is written -/
structure Xe (γ : Gh) (σ : L2.St) (H : Hp) (s : S) (γ' : Gh) (H' : Hp) (s' : S) : Prop where
  pre : ∀ (k : Nat) a, γ.m[k]? = some a → γ'.m[k]? = some a
  fm : ∀ a, γ.F a → γ'.F a
  fr : ∀ a o, H a = some o → a ∉ γ.m → (∀ ps, o ≠ .tbl ps) → Stl (γ'.F a) H' a o
  mn : ∀ a ∈ γ'.m, a ∈ γ.m ∨ Nn H a
  fn : ∀ a, γ'.F a → γ.F a ∨ Wr γ σ s.sl a ∨ Nn H a
  al : ∀ a, Nn H' a → Nn H a
  os : ∀ j, isOwn s'.sl j → isOwn s.sl j
theorem Xe.refl (γ : Gh) (σ : L2.St) (H : Hp) (s : S) : Xe γ σ H s γ H s :=
  ⟨fun _ _ h => h, fun _ h => h, fun _ _ h _ _ => .inl h, fun _ h => .inl h, fun _ h => .inl h, fun _ h => h, fun _ h => h⟩
theorem Xe.ext {γ γ' : Gh} {σ : L2.St} {H H' : Hp} {s s' : S} (x : Xe γ σ H s γ' H' s') : Xt γ σ H s γ' σ H' s' where
  pre := x.pre
  fm := x.fm
  fr := fun a o h n t => x.fr a o h (fun z => n (.inl z)) t
  wr := fun a h => by
    rcases h with h | ⟨i, h, e⟩
    · rcases x.mn a h with z | z
      · exact .inl (.inl z)
      · exact .inr z
    · exact .inl (.inr ⟨i, x.os i h, e⟩)
  fn := x.fn
  al := x.al
theorem Xe.trans {γ γ1 γ2 : Gh} {σ : L2.St} {H H1 H2 : Hp} {s s1 s2 : S} (a : Xe γ σ H s γ1 H1 s1) (b : Xe γ1 σ H1 s1 γ2 H2 s2) : Xe γ σ H s γ2 H2 s2 where
  pre := fun k x h => b.pre k x (a.pre k x h)
  fm := fun x h => b.fm x (a.fm x h)
  fr := fun x o h n t => (a.fr x o h n t).trans (g := γ2.F x) (fun u hu e => b.fr x u hu (fun w => by
    rcases a.mn x w with z | z
    · exact n z
    · exact z.no h t) (by rcases e with rfl | ⟨od, rfl⟩; exact t; exact fun _ z => nomatch z)) (b.fm x)
  mn := fun x h => by
    rcases b.mn x h with z | z
    · exact a.mn x z
    · exact .inr (a.al x z)
  fn := (a.ext.trans b.ext).fn
  al := fun x h => a.al x (b.al x h)
  os := fun j h => a.os j (b.os j h)
theorem SR.keepE {N : Cn} {γ γ' : Gh} {σ : L2.St} {H H' : Hp} {s s' : S} (r : SR N γ σ H s) (x : Xe γ σ H s γ' H' s') : Keep γ H γ' H' := r.keep x.ext
/-- of what stood: it stands, unless it is one of the heap's things -/
theorem SR.own_at {N : Cn} {γ : Gh} {σ : L2.St} {H : Hp} {s : S} (r : SR N γ σ H s) {i : Nat} {a : Addr} (h : isOwn s.sl i) (e : σ[i]? = some (some (.ref a))) : ¬Nn H a := by
  rcases h with ⟨xs, h⟩ | ⟨t, ks, ds, h⟩
  · obtain ⟨a', vs, q1, q2, _⟩ := r.own i xs h
    rw [e] at q1; cases q1; exact fun n => n.lst q2
  · obtain ⟨a', vs, u, q1, q3, q2, _⟩ := r.ownd i t ks ds h
    rw [e] at q1; cases q1; exact fun n => n.no q2 (dicO_ne q3)
theorem HR.m_at {N : Cn} {γ : Gh} {H : Hp} {hp : List Ob} (r : HR N γ H hp) {a : Addr} (h : a ∈ γ.m) : ∃ vs, H a = some (.lst vs) := by
  obtain ⟨k, hk⟩ := List.mem_iff_getElem?.mp h
  have hl : k < hp.length := by
    rw [← r.len]
    exact (List.getElem?_eq_some_iff.mp hk).1
  cases q : hp[k]? with
  | none => rw [List.getElem?_eq_none_iff] at q; omega
  | some ob =>
    cases ob with
    | lst xs =>
      obtain ⟨a', vs, h1, h2, _⟩ := r.at_ k _ q
      rw [hk] at h1
      cases h1
      exact ⟨vs, h2⟩

/-! ### relations between what is reckoned and what is there -/
/-- start: the abstract heap at the start, what might be written there -/
abbrev RelT (α β : Type) := Hp → (Addr → Prop) → Gh → Hp → α → β → Prop
/-- an expression's value; fr: made since the start -/
def RX (N : Cn) (fr : Prop) : RelT Sl V := fun H W γ' H' e v => match e with
  | .val d => Rel N γ' H' d v
  | .own xs => ∃ a vs, v = .ref a ∧ H' a = some (.lst vs) ∧ RelL N γ' H' xs vs ∧ ¬γ'.F a ∧ a ∉ γ'.m ∧ (W a ∨ Nn H a) ∧ (fr → Nn H a)
  | .exc => False
  | .ownd t ks ds => ∃ a vs o, v = .ref a ∧ dicO t ks vs = some o ∧ H' a = some o ∧ RelL N γ' H' ds vs ∧ ¬γ'.F a ∧ a ∉ γ'.m ∧ (W a ∨ Nn H a) ∧ (fr → Nn H a)
def RD (N : Cn) : RelT D V := fun _ _ γ' H' d v => Rel N γ' H' d v
def RDs (N : Cn) : RelT (List D) (List V) := fun _ _ γ' H' d v => RelL N γ' H' d v
def RR (N : Cn) : RelT Sl V := fun _ _ γ' H' e v => RdR N γ' H' e.d v
def RRs (N : Cn) : RelT (List Sl) (List V) := fun _ _ γ' H' es vs => RdL N γ' H' (es.map Sl.d) vs
def RB : RelT Bool Bool := fun _ _ _ _ a b => a = b
def RO : RelT (Option Int) (Option Int) := fun _ _ _ _ a b => a = b
/-- a relation that asks less of a later start -/
def Late {α β : Type} (R : RelT α β) : Prop := ∀ (H H1 : Hp) (W W1 : Addr → Prop) (γ' : Gh) (H' : Hp) (a : α) (b : β), (∀ x, Nn H1 x → Nn H x) → (∀ x, W1 x → W x ∨ Nn H x) → R H1 W1 γ' H' a b → R H W γ' H' a b
theorem RX.late {N : Cn} {fr : Prop} : Late (RX N fr) := fun H H1 W W1 γ' H' a b al wr h => by
  cases a with
  | val d => exact h
  | own xs =>
    obtain ⟨a, vs, h1, h2, h3, h4, h5, h6, h7⟩ := h
    exact ⟨a, vs, h1, h2, h3, h4, h5, h6.elim (wr a) fun z => .inr (al a z), fun z => al a (h7 z)⟩
  | ownd t ks ds =>
    obtain ⟨a, vs, o, h1, h2, h3, h4, h5, h6, h7, h8⟩ := h
    exact ⟨a, vs, o, h1, h2, h3, h4, h5, h6, h7.elim (wr a) fun z => .inr (al a z), fun z => al a (h8 z)⟩
  | exc => first | exact False.elim h | exact False.elim rel | exact False.elim h1 | cases hv
theorem RD.late {N : Cn} : Late (RD N) := fun _ _ _ _ _ _ _ _ _ _ h => h
theorem RDs.late {N : Cn} : Late (RDs N) := fun _ _ _ _ _ _ _ _ _ _ h => h
theorem RR.late {N : Cn} : Late (RR N) := fun _ _ _ _ _ _ _ _ _ _ h => h
theorem RRs.late {N : Cn} : Late (RRs N) := fun _ _ _ _ _ _ _ _ _ _ h => h
theorem RB.late : Late RB := fun _ _ _ _ _ _ _ _ _ _ h => h
theorem RO.late : Late RO := fun _ _ _ _ _ _ _ _ _ _ h => h
theorem RX.rr {N : Cn} {fr : Prop} {H : Hp} {W : Addr → Prop} {γ' : Gh} {H' : Hp} {e : Sl} {v : V} (h : RX N fr H W γ' H' e v) : RdR N γ' H' e.d v := by
  cases e with
  | val d => exact Rel.rd h
  | own xs => obtain ⟨a, vs, h1, h2, h3, _⟩ := h; exact ⟨a, vs, h1, h2, h3⟩
  | ownd t ks ds => obtain ⟨a, vs, o, h1, h2, h3, h4, _⟩ := h; exact ⟨a, vs, h1, ⟨t, o, h2, .inl h3⟩, h4⟩
  | exc => first | exact False.elim h | exact False.elim rel | exact False.elim h1 | cases hv
theorem RX.weak {N : Cn} {f g : Prop} (i : g → f) {H : Hp} {W : Addr → Prop} {γ' : Gh} {H' : Hp} {e : Sl} {v : V} (h : RX N f H W γ' H' e v) : RX N g H W γ' H' e v := by
  cases e with
  | val d => exact h
  | own xs => obtain ⟨a, vs, h1, h2, h3, h4, h5, h6, h7⟩ := h; exact ⟨a, vs, h1, h2, h3, h4, h5, h6, fun z => h7 (i z)⟩
  | ownd t ks ds => obtain ⟨a, vs, o, h1, h2, h3, h4, h5, h6, h7, h8⟩ := h; exact ⟨a, vs, o, h1, h2, h3, h4, h5, h6, h7, fun z => h8 (i z)⟩
  | exc => first | exact False.elim h | exact False.elim rel | exact False.elim h1 | cases hv

/-! ### ends -/
/-- an exception of the small language, in the air -/
def Air (N : Cn) (W : WX) (σ : L2.St) (q : Nat) (fs : List D) (H' : Hp) : Prop := fs = [] ∧ W (.ref (N.cls q)) none σ H'
def Post (N : Cn) (W : WX) {α β : Type} (R : RelT α β) (γ : Gh) (σ : L2.St) (H : Hp) (s : S) (r : Option (Rs α)) (Q : β → Hp → Prop) : Prop := match r with
  | some (.ok a s') => ∀ γ' H' b, SR N γ' σ H' s' → Xe γ σ H s γ' H' s' → R H (Wr γ σ s.sl) γ' H' a b → Q b H'
  | some (.exn q fs s') => ∀ γ' σ' H', SR N γ' σ' H' s' → Xt γ σ H s γ' σ' H' s' → Air N W σ' q fs H'
  | none => False
/-- the reading that says: there is a state of the small language, and its run ends so -/
def TT' (N : Cn) (W : WX) {α β : Type} (R : RelT α β) (m : M α) : L2.St → Hp → (β → Hp → Prop) → Prop := fun σ H Q => ∃ γ s, SR N γ σ H s ∧ Post N W R γ σ H s (m s) Q
section
variable {N : Cn} {W : WX} {α β α' β' : Type} {R : RelT α β} {R' : RelT α' β'}
theorem Post.mono {γ : Gh} {σ : L2.St} {H : Hp} {s : S} {r : Option (Rs α)} {Q Q' : β → Hp → Prop} (h : Post N W R γ σ H s r Q) (k : ∀ b H', Q b H' → Q' b H') : Post N W R γ σ H s r Q' := by
  cases r with
  | none => exact h
  | some r =>
    cases r with
    | ok a s' => exact fun γ' H' b h1 h2 h3 => k _ _ (h γ' H' b h1 h2 h3)
    | exn q fs s' => exact h
/-- the same end, told from a later state -/
theorem Post.later (L : Late R) {γ γ1 : Gh} {σ : L2.St} {H H1 : Hp} {s s1 : S} {r : Option (Rs α)} {Q : β → Hp → Prop} (h : Post N W R γ σ H s r Q) (x : Xe γ σ H s γ1 H1 s1) : Post N W R γ1 σ H1 s1 r Q := by
  cases r with
  | none => exact h
  | some r =>
    cases r with
    | ok a s' => exact fun γ' H' b h1 h2 h3 => h γ' H' b h1 (x.trans h2) (L _ _ _ _ _ _ _ _ x.al x.ext.wr h3)
    | exn q fs s' => exact fun γ' σ' H' h1 h2 => h γ' σ' H' h1 (x.ext.trans h2)
/-- what stands behind the first of two -/
def Nx (N : Cn) (W : WX) (R : RelT α β) (R' : RelT α' β') (γ : Gh) (σ : L2.St) (H : Hp) (s : S) (m : M α) (f : α → M α') (Q : β' → Hp → Prop) : β → Hp → Prop := fun b H1 =>
  ∃ a s1 γ1, m s = some (.ok a s1) ∧ SR N γ1 σ H1 s1 ∧ Xe γ σ H s γ1 H1 s1 ∧ R H (Wr γ σ s.sl) γ1 H1 a b ∧ Post N W R' γ1 σ H1 s1 (f a s1) Q
theorem Post.bnd (L : Late R') {γ : Gh} {σ : L2.St} {H : Hp} {s : S} {m : M α} {f : α → M α'} {Q : β' → Hp → Prop} (h : Post N W R' γ σ H s (Kb.bnd m f s) Q) : Post N W R γ σ H s (m s) (Nx N W R R' γ σ H s m f Q) := by
  unfold Kb.bnd at h
  cases e : m s with
  | none => rw [e] at h; exact h
  | some r =>
    rw [e] at h
    cases r with
    | ok a s1 => exact fun γ1 H1 b h1 h2 h3 => ⟨a, s1, γ1, e, h1, h2, h3, h.later L h2⟩
    | exn q fs s1 => exact h
theorem TT'.of {γ : Gh} {σ : L2.St} {H : Hp} {s : S} {m : M α} {Q : β → Hp → Prop} (r : SR N γ σ H s) (h : Post N W R γ σ H s (m s) Q) : TT' N W R m σ H Q := ⟨γ, s, r, h⟩
/-- a pure step at the end -/
theorem Post.lft {γ : Gh} {σ : L2.St} {H : Hp} {s : S} {o : Option α} {Q : β → Hp → Prop} (h : Post N W R γ σ H s (Kb.lft o s) Q) : ∃ a, o = some a ∧ ∀ γ' H' b, SR N γ' σ H' s → Xe γ σ H s γ' H' s → R H (Wr γ σ s.sl) γ' H' a b → Q b H' := by
  unfold Kb.lft at h
  cases o with
  | none => exact h.elim
  | some a => exact ⟨a, rfl, h⟩
/-- an operation's outcome -/
theorem Res.post {γ : Gh} {σ : L2.St} {H : Hp} {s : S} {w : Sl} {Q : V → Hp → Prop} (r : SR N γ σ H s) (k : ∀ γ' H' b, SR N γ' σ H' s → Xe γ σ H s γ' H' s → RX N True H (Wr γ σ s.sl) γ' H' w b → Q b H') :
    ∀ x' H', Res N γ H w x' H' → Q x' H' := fun x' H' h => by
  obtain ⟨γ', r', xt, re⟩ := h.step r
  have xe : Xe γ σ H s γ' H' s := by
    refine ⟨xt.pre, xt.fm, fun a o h1 h2 t => ?_, fun a ha => ?_, xt.fn, xt.al, fun _ h => h⟩
    · cases h with
      | same _ => exact .inl h1
      | tup np _ => exact .inl (by rw [upd_ne (fun z => by rw [z, np] at h1; cases h1)]; exact h1)
      | set np _ => exact .inl (by rw [upd_ne (fun z => by rw [z, np] at h1; cases h1)]; exact h1)
      | lst np _ => exact .inl (by rw [upd_ne (fun z => by rw [z, np] at h1; cases h1)]; exact h1)
      | dic np _ _ => exact .inl (by rw [upd_ne (fun z => by rw [z, np] at h1; cases h1)]; exact h1)
    · rcases xt.wr a (.inl ha) with (z | ⟨i, hi, e⟩) | z
      · exact .inl z
      · exact absurd ha (r'.nf i a hi e).2
      · exact .inr z
  refine k γ' H' x' r' xe ?_
  cases h with
  | same h => exact re
  | tup np _ => exact re
  | set np _ => exact re
  | lst np _ =>
    obtain ⟨a, vs, h1, h2, h3, h4, h5, _⟩ := re
    cases h1
    exact ⟨_, vs, rfl, h2, h3, h4, h5, .inr (.of np), fun _ => .of np⟩
  | dic np _ _ =>
    obtain ⟨a, vs, o, h1, h2, h3, h4, h5, h6, _⟩ := re
    cases h1
    exact ⟨_, vs, o, rfl, h2, h3, h4, h5, h6, .inr (.of np), fun _ => .of np⟩
/-- what is readable stays so through an expression -/
theorem RdR.later {γ γ' : Gh} {σ : L2.St} {H H' : Hp} {s s' : S} {e : Sl} {v : V} {fr : Prop} {H0 : Hp} {W0 : Addr → Prop} (r : SR N γ σ H s) (x : Xe γ σ H s γ' H' s') (h : RX N fr H0 W0 γ H e v) : RdR N γ' H' e.d v := by
  have k := r.keepE x
  cases e with
  | val d => exact Rel.rd (Rel.keep k h)
  | own xs =>
    obtain ⟨a, vs, h1, h2, h3, _, h5, _⟩ := h
    exact ⟨a, vs, h1, (x.fr a _ h2 h5 (fun _ z => nomatch z)).eq (fun _ z => nomatch z), h3.keep k⟩
  | ownd t ks ds =>
    obtain ⟨a, vs, o, h1, h2, h3, h4, _, h6, _⟩ := h
    exact ⟨a, vs, h1, ⟨t, o, h2, (x.fr a _ h3 h6 (dicO_ne h2)).rd⟩, h4.keep k⟩
  | exc => first | exact False.elim h | exact False.elim rel | exact False.elim h1 | cases hv
end

/-! ### judgements -/
section
variable {X : Cx} {e : Expr} {es : List Expr} {t t' : TE}
theorem _root_.L2.PE.imp (h : PE X e t) (k : ∀ σ H Q, t' σ H Q → t σ H Q) : PE X e t' := ⟨fun pins s σ H Q I q => h.run pins s σ H Q I (k _ _ _ q)⟩
theorem _root_.L2.PE.or (h : PE X e t) (h' : PE X e t') : PE X e (fun σ H Q => t σ H Q ∨ t' σ H Q) := ⟨fun pins s σ H Q I q => q.elim (h.run pins s σ H Q I) (h'.run pins s σ H Q I)⟩
theorem _root_.L2.PT.imp {u u' : TT} (h : PT X e u) (k : ∀ σ H Q, u' σ H Q → u σ H Q) : PT X e u' := ⟨fun pins s σ H Q I q => h.run pins s σ H Q I (k _ _ _ q)⟩
theorem _root_.L2.PA.imp {u u' : TA} (h : PA X es u) (k : ∀ σ H Q, u' σ H Q → u σ H Q) : PA X es u' := ⟨fun pos pins s σ H Q I q => h.run pos pins s σ H Q I (k _ _ _ q)⟩
end
end Kb

set_option Elab.async false
set_option linter.all false
set_option maxRecDepth 100000
set_option maxHeartbeats 4000000
/-! KbEx: expressions, construct by construct. -/
namespace Kb
open PySem PySem.Spec PyProof.Rows L2 TL
section
variable {X : Cx} {N : Cn} {W : WX} {e e1 e2 : Expr} {es : List Expr} {pos p1 p2 : Pos}
theorem TT'.pur {α β : Type} {R : RelT α β} {a : α} {σ : L2.St} {H : Hp} {Q : β → Hp → Prop} {b : β} (h : TT' N W R (pur a) σ H Q) (k : ∀ γ s, SR N γ σ H s → R H (Wr γ σ s.sl) γ H a b) : Q b H := by
  obtain ⟨γ, s, r, h⟩ := h
  exact h γ H b r (Xe.refl ..) (k γ s r)
theorem ex_int {i : Int} {j : Nat} : PE X (.Constant (.int i) j pos) (TT' N W (RX N True) (pur (.val (.int i)))) := pe_int.imp fun σ H Q h => h.pur fun _ _ _ => rfl
theorem ex_bl {b : Bool} {j : Nat} : PE X (.Constant (.bool b) j pos) (TT' N W (RX N True) (pur (.val (.bl b)))) := pe_bl.imp fun σ H Q h => h.pur fun _ _ _ => rfl
theorem ex_non {j : Nat} : PE X (.Constant .none j pos) (TT' N W (RX N True) (pur (.val .non))) := pe_non.imp fun σ H Q h => h.pur fun _ _ _ => rfl
theorem ex_str {l : List Nat} {j : Nat} {x : Str} (hx : x = St l) (t : Txt l) : PE X (.Constant (.str x) j pos) (TT' N W (RX N True) (pur (.val (.str l)))) := by
  subst hx
  exact pe_str.imp fun σ H Q h => h.pur fun _ _ _ => ⟨rfl, t⟩
/-- a written value of the module -/
theorem ex_glob {x : Str} {v : V} {u : Value} {d : D} (hg : Gl X x) (hm : X.mg x = some u) (r : RelV v u) (hd : (x == ("__debug__" : Str)) = false) (hv : ∀ γ H, Rel N γ H d v) : PE X (.Name x pos) (TT' N W (RX N True) (pur (.val d))) :=
  (pe_glob hg hm r hd).imp fun σ H Q h => h.pur fun γ _ _ => hv γ H
/-- the value that slot i holds -/
theorem SR.slot {γ : Gh} {σ : L2.St} {H : Hp} {s : S} (r : SR N γ σ H s) {i : Nat} {v : Sl} (h : s.sl[i]? = some (some v)) (nx : v ≠ .exc) : ∃ x, σ[i]? = some (some x) ∧ RX N False H (Wr γ σ s.sl) γ H v x := by
  cases v with
  | val d => exact r.val i d h
  | own xs =>
    obtain ⟨a, vs, h1, h2, h3⟩ := r.own i xs h
    exact ⟨_, h1, a, vs, rfl, h2, h3, (r.nf i a (.inl ⟨xs, h⟩) h1).1, (r.nf i a (.inl ⟨xs, h⟩) h1).2, .inl (.inr ⟨i, .inl ⟨xs, h⟩, h1⟩), False.elim⟩
  | ownd t ks ds =>
    obtain ⟨a, vs, o, h1, h2, h3, h4⟩ := r.ownd i t ks ds h
    exact ⟨_, h1, a, vs, o, rfl, h2, h3, h4, (r.nf i a (.inr ⟨t, ks, ds, h⟩) h1).1, (r.nf i a (.inr ⟨t, ks, ds, h⟩) h1).2, .inl (.inr ⟨i, .inr ⟨t, ks, ds, h⟩, h1⟩), False.elim⟩
  | exc => exact absurd rfl nx
theorem ex_var {i : Nat} {x : Str} (hN : X.N[i]? = some x) (hv : Vis X.env.scope x) (hd : (x == ("__debug__" : Str)) = false) (hcd : (x == ("__classdict__" : Str)) = false) : PE X (.Name x pos) (TT' N W (RX N False) (getS i)) :=
  (pe_var hN hv hd hcd).imp fun σ H Q ⟨γ, s, r, h⟩ => by
    unfold getS at h
    split at h
    · exact h.elim
    · rename_i v nx hs
      obtain ⟨x, h1, h2⟩ := r.slot hs nx
      exact ⟨x, h1, h γ H x r (Xe.refl ..) h2⟩
    · exact h.elim
/-! ### freezing -/
theorem Keep.frz (γ : Gh) (H : Hp) (a : Addr) : Keep γ H ⟨γ.m, fun b => γ.F b ∨ b = a⟩ H := ⟨fun _ _ h => h, fun _ h => .inl h, fun _ _ _ h _ => .inl h⟩
theorem isOwn_set {l : List (Option Sl)} {i j : Nat} {d : D} (h : isOwn (l.set i (some (.val d))) j) : isOwn l j ∧ j ≠ i := by
  by_cases e : j = i
  · subst e
    exfalso
    by_cases hl : j < l.length
    · rcases h with ⟨xs, h⟩ | ⟨t, ks, ds, h⟩ <;> (rw [List.getElem?_set_self hl] at h; cases h)
    · rcases h with ⟨xs, h⟩ | ⟨t, ks, ds, h⟩ <;> (rw [List.getElem?_eq_none (by simpa using hl)] at h; cases h)
  · refine ⟨?_, e⟩
    unfold isOwn at h
    rw [List.getElem?_set_ne (Ne.symm e)] at h
    exact h
/-- an object that no name may write any more is frozen -/
theorem SR.freeze {γ : Gh} {σ : L2.St} {H : Hp} {s : S} (r : SR N γ σ H s) {a : Addr} {o : HO} (ho : H a = some o) (ht : ∀ ps, o ≠ .tbl ps) (hm : a ∉ γ.m) (sl' : List (Option Sl)) (hl : sl'.length = s.sl.length)
    (hs : ∀ (i : Nat) v, sl'[i]? = some (some v) → s.sl[i]? = some (some v) ∨ ∃ d v', v = .val d ∧ s.sl[i]? = some (some v') ∧ d = v'.d ∧ σ[i]? = some (some (.ref a)) ∧ isOwn s.sl i)
    (hw : ∀ i, isOwn sl' i → σ[i]? ≠ some (some (.ref a))) : SR N ⟨γ.m, fun b => γ.F b ∨ b = a⟩ σ H { s with sl := sl' } := by
  have K : Keep γ H ⟨γ.m, fun b => γ.F b ∨ b = a⟩ H := ⟨fun _ _ h => h, fun _ h => .inl h, fun _ _ _ h _ => .inl h⟩
  have own' : ∀ i, isOwn sl' i → isOwn s.sl i := fun i h => by
    rcases h with ⟨xs, h⟩ | ⟨t, ks, ds, h⟩
    · rcases hs i _ h with z | ⟨d, v', e, _⟩
      · exact .inl ⟨xs, z⟩
      · cases e
    · rcases hs i _ h with z | ⟨d, v', e, _⟩
      · exact .inr ⟨t, ks, ds, z⟩
      · cases e
  refine ⟨⟨r.hr.nd, r.hr.len, fun k xs h => ?_, fun b hb => ?_, fun b hb => ?_, r.hr.tabs, r.hr.kb.trans K, fun a q h => .inl (r.hr.cf a q h)⟩, by rw [hl]; exact r.len, fun i d h => ?_, fun i xs h => ?_, fun i t ks ds h => ?_, fun i j b h1 h2 => r.sep i j b (own' i h1) (own' j h2), fun i b h e => ?_, fun i h => (hs i _ h).elim (r.exc i) fun ⟨d, v', e, _⟩ => nomatch e⟩
  · obtain ⟨b, vs, h1, h2, h3⟩ := r.hr.at_ k xs h
    exact ⟨b, vs, h1, h2, h3.keep K⟩
  · rintro (z | z)
    · exact r.hr.nf b hb z
    · exact hm (z ▸ hb)
  · rcases hb with z | z
    · exact r.hr.fz b z
    · rw [z]; exact fun n => n.no ho ht
  · rcases hs i _ h with z | ⟨d', v', e, hv, hd, hσ, ho'⟩
    · obtain ⟨v, h1, h2⟩ := r.val i d z
      exact ⟨v, h1, h2.keep K⟩
    · cases e
      subst hd
      refine ⟨.ref a, hσ, ?_⟩
      cases v' with
      | val d' =>
        obtain ⟨v, h1, h2⟩ := r.val i d' hv
        rw [hσ] at h1
        cases h1
        exact Rel.keep K h2
      | own xs =>
        obtain ⟨b, vs, h1, h2, h3⟩ := r.own i xs hv
        rw [hσ] at h1
        cases h1
        exact ⟨a, vs, rfl, ⟨.inr rfl, h2⟩, h3.keep K⟩
      | ownd t ks ds =>
        obtain ⟨b, vs, o', h1, h2, h3, h4⟩ := r.ownd i t ks ds hv
        rw [hσ] at h1
        cases h1
        exact ⟨a, vs, rfl, ⟨.inr rfl, t, o', h2, .inl h3⟩, h4.keep K⟩
      | exc => rcases ho' with ⟨xs, z⟩ | ⟨t, ks, ds, z⟩ <;> (rw [hv] at z; cases z)
  · rcases hs i _ h with z | ⟨d', v', e, _⟩
    · obtain ⟨b, vs, h1, h2, h3⟩ := r.own i xs z
      exact ⟨b, vs, h1, h2, h3.keep K⟩
    · cases e
  · rcases hs i _ h with z | ⟨d', v', e, _⟩
    · obtain ⟨b, vs, o', h1, h2, h3, h4⟩ := r.ownd i t ks ds z
      exact ⟨b, vs, o', h1, h2, h3, h4.keep K⟩
    · cases e
  · obtain ⟨h1, h2⟩ := r.nf i b (own' i h) e
    refine ⟨?_, h2⟩
    rintro (z | z)
    · exact h1 z
    · exact hw i h (z ▸ e)
/-- a name's value, frozen -/
theorem SR.frzS {γ : Gh} {σ : L2.St} {H : Hp} {s : S} (r : SR N γ σ H s) {i : Nat} {Q : V → Hp → Prop} (h : Post N W (RD N) γ σ H s (Kb.frzS i s) Q) : ∃ x, σ[i]? = some (some x) ∧ Q x H := by
  unfold Kb.frzS at h
  have go : ∀ v : Sl, s.sl[i]? = some (some v) → isOwn s.sl i → (∀ a o, σ[i]? = some (some (.ref a)) → H a = some o → a ∉ γ.m → Rel N ⟨γ.m, fun b => γ.F b ∨ b = a⟩ H v.d (.ref a)) →
      Post N W (RD N) γ σ H s (some (.ok v.d { s with sl := s.sl.set i (some (.val v.d)) })) Q → ∃ x, σ[i]? = some (some x) ∧ Q x H := by
    intro v hs ho hr h
    obtain ⟨x, h1, h2⟩ := r.slot hs (by
      rintro rfl
      rcases ho with ⟨xs, z⟩ | ⟨t, ks, ds, z⟩ <;> (rw [hs] at z; cases z))
    obtain ⟨a, rfl, o, hH, hT⟩ : ∃ a, x = .ref a ∧ ∃ o, H a = some o ∧ ∀ ps, o ≠ .tbl ps := by
      cases v with
      | val d =>
        rcases ho with ⟨xs, z⟩ | ⟨t, ks, ds, z⟩ <;> (rw [hs] at z; cases z)
      | own xs => obtain ⟨a, vs, z1, z2, _⟩ := h2; exact ⟨a, z1, _, z2, fun _ z => nomatch z⟩
      | ownd t ks ds => obtain ⟨a, vs, o, z1, z3, z2, _⟩ := h2; exact ⟨a, z1, _, z2, dicO_ne z3⟩
      | exc => exact False.elim h2
    have hm := (r.nf i a ho h1).2
    have hi : i < s.sl.length := (List.getElem?_eq_some_iff.mp hs).1
    have r' := r.freeze hH hT hm (s.sl.set i (some (.val v.d))) (by simp) (fun j w hw => by
      by_cases e : j = i
      · subst e
        rw [List.getElem?_set_self hi] at hw
        cases hw
        exact .inr ⟨_, v, rfl, hs, rfl, h1, ho⟩
      · rw [List.getElem?_set_ne (Ne.symm e)] at hw
        exact .inl hw) (fun j hj e => by
      obtain ⟨h3, h4⟩ := isOwn_set hj
      exact h4 (r.sep j i a h3 ho e h1))
    refine ⟨_, h1, h ⟨γ.m, fun b => γ.F b ∨ b = a⟩ H (.ref a) r' ⟨fun _ _ h => h, fun _ h => .inl h, fun _ _ h _ _ => .inl h, fun _ h => .inl h, fun b hb => ?_, fun _ h => h, fun j hj => (isOwn_set hj).1⟩ (hr a o h1 hH hm)⟩
    rcases hb with z | z
    · exact .inl z
    · exact .inr (.inl (.inr ⟨i, ho, by rw [z]; exact h1⟩))
  split at h
  · rename_i d hs
    obtain ⟨x, h1, h2⟩ := r.slot hs (fun z => nomatch z)
    exact ⟨x, h1, h γ H x r (Xe.refl ..) h2⟩
  · exact h.elim
  · rename_i v hne nx hs
    cases v with
    | exc => exact absurd rfl nx
    | val d => exact (hne d rfl).elim
    | own xs =>
      obtain ⟨b, vs, h1, h2, h3⟩ := r.own i xs hs
      refine go (.own xs) hs (.inl ⟨xs, hs⟩) (fun a o e1 e2 e3 => ?_) h
      obtain rfl : a = b := by rw [e1] at h1; cases h1; rfl
      exact ⟨a, vs, rfl, ⟨.inr rfl, h2⟩, h3.keep (Keep.frz γ H a)⟩
    | ownd t ks ds =>
      obtain ⟨b, vs, o', h1, h2, h3, h4⟩ := r.ownd i t ks ds hs
      refine go (.ownd t ks ds) hs (.inr ⟨t, ks, ds, hs⟩) (fun a o e1 e2 e3 => ?_) h
      obtain rfl : a = b := by rw [e1] at h1; cases h1; rfl
      exact ⟨a, vs, rfl, ⟨.inr rfl, t, o', h2, .inl h3⟩, h4.keep (Keep.frz γ H a)⟩
  · exact h.elim
theorem ex_frz {i : Nat} {x : Str} (hN : X.N[i]? = some x) (hv : Vis X.env.scope x) (hd : (x == ("__debug__" : Str)) = false) (hcd : (x == ("__classdict__" : Str)) = false) : PE X (.Name x pos) (TT' N W (RD N) (frzS i)) :=
  (pe_var hN hv hd hcd).imp fun σ H Q ⟨γ, s, r, h⟩ => r.frzS h
/-- a fresh value, frozen -/
theorem ex_val {m : M Sl} (h : PE X e (TT' N W (RX N True) m)) : PE X e (TT' N W (RD N) (bnd m fun v => pur v.d)) :=
  h.imp fun σ H Q ⟨γ, s, r, h⟩ => by
    refine ⟨γ, s, r, ?_⟩
    unfold Kb.bnd at h
    cases e : m s with
    | none => rw [e] at h; exact h
    | some q =>
      rw [e] at h
      cases q with
      | exn q fs s1 => exact h
      | ok v s1 =>
        intro γ1 H1 x r1 x1 rel
        have frz : ∀ (a : Addr) (o : HO), x = .ref a → H1 a = some o → (∀ ps, o ≠ .tbl ps) → a ∉ γ1.m → Nn H a → (∀ γ2, γ2 = ⟨γ1.m, fun b => γ1.F b ∨ b = a⟩ → Rel N γ2 H1 v.d (.ref a)) → Q x H1 := by
          intro a o ex ho ht hm hn hr
          subst ex
          have r' := r1.freeze ho ht hm s1.sl rfl (fun j w hw => .inl hw) (fun j hj e => by
            exact absurd hn (r.own_at (x1.os j hj) e))
          refine h _ H1 _ r' ⟨x1.pre, fun b hb => .inl (x1.fm b hb), fun b o h n t => (x1.fr b o h n t).mono .inl, x1.mn, fun b hb => ?_, x1.al, x1.os⟩ (hr _ rfl)
          rcases hb with z | z
          · exact x1.fn b z
          · exact .inr (.inr (z ▸ hn))
        have kp : ∀ a : Addr, Keep γ1 H1 ⟨γ1.m, fun b => γ1.F b ∨ b = a⟩ H1 := fun a => ⟨fun _ _ h => h, fun _ h => .inl h, fun _ _ _ h _ => .inl h⟩
        cases v with
        | val d => exact h γ1 H1 x r1 x1 rel
        | own xs =>
          obtain ⟨a, vs, h1, h2, h3, h4, h5, _, h6⟩ := rel
          exact frz a _ h1 h2 (fun _ z => nomatch z) h5 (h6 trivial) fun γ2 e => by subst e; exact ⟨a, vs, rfl, ⟨.inr rfl, h2⟩, h3.keep (kp a)⟩
        | ownd t ks ds =>
          obtain ⟨a, vs, o, h1, h2, h3, h4, h5, h6, _, h7⟩ := rel
          exact frz a _ h1 h3 (dicO_ne h2) h6 (h7 trivial) fun γ2 e => by subst e; exact ⟨a, vs, rfl, ⟨.inr rfl, t, o, h2, .inl h3⟩, h4.keep (kp a)⟩
        | exc => first | exact False.elim h | exact False.elim rel | exact False.elim h1 | cases hv
end
end Kb

set_option Elab.async false
set_option linter.all false
set_option maxRecDepth 100000
set_option maxHeartbeats 4000000
/-! KbEx2: lists of expressions, operators, comparisons, tests. -/
namespace Kb
open PySem PySem.Spec PyProof.Rows L2 TL
def notStar : Expr → Bool
  | .Starred .. => false
  | _ => true
def notSet : Expr → Bool
  | .Set .. => false
  | _ => true
theorem star_of {e : Expr} {es : List Expr} {env : Env} (h : notStar e = true) : starEach (e :: es) env = (false, eval e env) :: starEach es env := by
  cases e <;> first | rfl | cases h
theorem mark_of {b : Expr} {op : CmpOp} (h : notSet b = true) : behindInMarks op b = false := by
  cases b <;> first | rfl | cases h
theorem stars_no {es : List Expr} {env : Env} {pos : Pos} (h : es.all notStar = true) : (backTo pos (starEach es env)).any (·.1) = false := by
  induction es with
  | nil => rfl
  | cons e es ih =>
    rw [List.all_cons, Bool.and_eq_true] at h
    rw [star_of h.1]
    show (false || (backTo pos (starEach es env)).any (·.1)) = false
    rw [ih h.2]
    rfl
theorem _root_.Option.map_some_inv {α β : Type} {f : α → β} {o : Option α} {b : β} (h : o.map f = some b) : ∃ a, o = some a ∧ f a = b := by
  cases o with
  | none => cases h
  | some a => cases h; exact ⟨a, rfl, rfl⟩
section
variable {X : Cx} {N : Cn} {W : WX} {e e1 e2 e3 : Expr} {es : List Expr} {pos p1 p2 : Pos} {m m1 m2 m3 : M Sl} {md : M D} {ms : M (List D)} {mss : M (List Sl)} {fr f1 f2 f3 : Prop}
theorem ex_weak {i : f2 → f1} (h : PE X e (TT' N W (RX N f1) m)) : PE X e (TT' N W (RX N f2) m) := h.imp fun σ H Q ⟨γ, s, r, h⟩ => by
  refine ⟨γ, s, r, ?_⟩
  cases q : m s with
  | none => rw [q] at h; exact h
  | some q' =>
    rw [q] at h
    cases q' with
    | ok a s' => exact fun γ' H' b h1 h2 h3 => h γ' H' b h1 h2 (h3.weak i)
    | exn q fs s' => exact h
theorem as_nil : PA X [] (TT' N W (RDs N) (pur [])) := pa_nil.imp fun σ H Q h => h.pur fun _ _ _ => rfl
theorem as_cons (he : PE X e (TT' N W (RD N) md)) (hs : PA X es (TT' N W (RDs N) ms)) (hn : notStar e = true) : PA X (e :: es) (TT' N W (RDs N) (bnd md fun d => bnd ms fun ds => pur (d :: ds))) :=
  (pa_cons he hs (star_of hn)).imp fun σ H Q ⟨γ, s, r, h⟩ => ⟨γ, s, r, (h.bnd RDs.late).mono fun x H1 ⟨d, s1, γ1, _, r1, x1, rel, h1⟩ => ⟨γ1, s1, r1, (h1.bnd RDs.late).mono fun xs H2 ⟨ds, s2, γ2, _, r2, x2, rel2, h2⟩ =>
    h2 γ2 H2 (x :: xs) r2 (Xe.refl ..) (RelL.cons (Rel.keep (r1.keepE x2) rel) rel2)⟩⟩
theorem bs_nil : PA X [] (TT' N W (RRs N) (pur [])) := pa_nil.imp fun σ H Q h => h.pur fun _ _ _ => .nil
theorem bs_cons (he : PE X e (TT' N W (RX N fr) m)) (hs : PA X es (TT' N W (RRs N) mss)) (hn : notStar e = true) : PA X (e :: es) (TT' N W (RRs N) (bnd m fun d => bnd mss fun ds => pur (d :: ds))) :=
  (pa_cons he hs (star_of hn)).imp fun σ H Q ⟨γ, s, r, h⟩ => ⟨γ, s, r, (h.bnd RRs.late).mono fun x H1 ⟨d, s1, γ1, _, r1, x1, rel, h1⟩ => ⟨γ1, s1, r1, (h1.bnd RRs.late).mono fun xs H2 ⟨ds, s2, γ2, _, r2, x2, rel2, h2⟩ =>
    h2 γ2 H2 (x :: xs) r2 (Xe.refl ..) (.cons (RdR.later r1 x2 rel) rel2)⟩⟩
theorem ex_tup {k : Nat} (hs : PA X es (TT' N W (RDs N) ms)) (hl : ∀ s ds s', ms s = some (.ok ds s') → ds.length = es.length) (hz : es.length ≤ line) : PE X (.Tuple es k pos) (TT' N W (RX N True) (bnd ms fun ds => pur (.val (.tup ds)))) :=
  (pe_tup hs).imp fun σ H Q ⟨γ, s, r, h⟩ => ⟨γ, s, r, (h.bnd RX.late).mono fun xs H1 ⟨ds, s1, γ1, em, r1, x1, rel, h1⟩ => by
    refine ⟨by rw [← rel.length, hl _ _ _ em, line_eq]; exact hz, fun p np => ?_⟩
    exact Res.post (w := .val (.tup ds)) r1 (fun γ' H' b a1 a2 a3 => h1 γ' H' b a1 a2 a3) _ _ (.tup np rel)⟩
theorem ex_lst (hs : PA X es (TT' N W (RDs N) ms)) (hl : ∀ s ds s', ms s = some (.ok ds s') → ds.length = es.length) (hz : es.length ≤ line) : PE X (.List es pos) (TT' N W (RX N True) (bnd ms fun ds => pur (.own ds))) :=
  (pe_lst hs).imp fun σ H Q ⟨γ, s, r, h⟩ => ⟨γ, s, r, (h.bnd RX.late).mono fun xs H1 ⟨ds, s1, γ1, em, r1, x1, rel, h1⟩ => by
    refine ⟨by rw [← rel.length, hl _ _ _ em, line_eq]; exact hz, fun p np => ?_⟩
    exact Res.post (w := .own ds) r1 (fun γ' H' b a1 a2 a3 => h1 γ' H' b a1 a2 a3) _ _ (.lst np rel)⟩
theorem ex_bin (hK : N.K = X.K) {op : Bo} (ha : PE X e1 (TT' N W (RX N f1) m1)) (hb : PE X e2 (TT' N W (RX N f2) m2)) : PE X (.BinOp e1 (bo op) e2 pos) (TT' N W (RX N True) (bnd m1 fun x => bnd m2 fun y => lft (binD op x.d y.d))) :=
  (pe_op (op_bin N hK op) ha hb).imp fun σ H Q ⟨γ, s, r, h⟩ => ⟨γ, s, r, (h.bnd RX.late).mono fun x H1 ⟨d, s1, γ1, _, r1, x1, rel, h1⟩ => ⟨γ1, s1, r1, (h1.bnd RX.late).mono fun y H2 ⟨d2, s2, γ2, _, r2, x2, rel2, h2⟩ => by
    obtain ⟨v, ev, k⟩ := h2.lft
    exact ⟨γ2, d.d, d2.d, v, RdR.later r1 x2 rel, rel2.rr, ev, Res.post r2 k⟩⟩⟩
theorem cmp_imp {op : Co} {σ : L2.St} {H : Hp} {Q : VK} (h : TT' N W (RX N True) (bnd m1 fun x => bnd m2 fun y => lft ((cmpD op x.d y.d).map fun k => .val (.bl k))) σ H Q) :
    tOp (rCmp N op) (TT' N W (RX N f1) m1) (TT' N W (RX N f2) m2) σ H Q := by
  obtain ⟨γ, s, r, h⟩ := h
  exact ⟨γ, s, r, (h.bnd RX.late).mono fun x H1 ⟨d, s1, γ1, _, r1, x1, rel, h1⟩ => ⟨γ1, s1, r1, (h1.bnd RX.late).mono fun y H2 ⟨d2, s2, γ2, _, r2, x2, rel2, h2⟩ => by
    obtain ⟨v, ev, k⟩ := h2.lft
    obtain ⟨b, eb, rfl⟩ := Option.map_some_inv ev
    exact ⟨γ2, d.d, d2.d, b, RdR.later r1 x2 rel, rel2.rr, eb, k γ2 H2 (.bl b) r2 (Xe.refl ..) rfl⟩⟩⟩
/-- it gives flags alone -/
def Flag (m : M Sl) : Prop := ∀ s v s', m s = some (.ok v s') → ∃ k, v = .val (.bl k)
theorem bnd_ok {α β : Type} {m : M α} {f : α → M β} {s : S} {b : β} {s2 : S} (h : bnd m f s = some (.ok b s2)) : ∃ a s1, m s = some (.ok a s1) ∧ f a s1 = some (.ok b s2) := by
  unfold Kb.bnd at h
  split at h
  · rename_i a s1 e
    exact ⟨a, s1, e, h⟩
  · cases h
  · cases h
theorem Flag.cmp {o : Sl → Sl → Option Bool} : Flag (bnd m1 fun x => bnd m2 fun y => lft ((o x y).map fun k => .val (.bl k))) := by
  intro s v s' h
  obtain ⟨a, s1, _, h⟩ := bnd_ok h
  obtain ⟨b, s2, _, h⟩ := bnd_ok h
  unfold lft at h
  cases q : o a b with
  | none => rw [q] at h; cases h
  | some k => rw [q] at h; cases h; exact ⟨k, rfl⟩
theorem flag_test (f : Flag m) {σ : L2.St} {H : Hp} {Q : Bool → Hp → Prop} (h : TT' N W RB (testM m) σ H Q) : TT' N W (RX N True) m σ H (fun x H1 => ∃ k, x = .bl k ∧ Q k H1) := by
  obtain ⟨γ, s, r, h⟩ := h
  exact ⟨γ, s, r, (h.bnd RB.late).mono fun x H1 ⟨d, s1, γ1, em, r1, x1, rel, h1⟩ => by
    obtain ⟨k, rfl⟩ := f _ _ _ em
    obtain ⟨k', ek, q⟩ := h1.lft
    cases ek
    exact ⟨k, rel, q γ1 H1 k r1 (Xe.refl ..) rfl⟩⟩
theorem ex_cmp (hK : N.K = X.K) (hw : N.w = X.w) (hu : X.A.units + 65 < cLine) {op : Co} (ha : PE X e1 (TT' N W (RX N f1) m1)) (hb : PE X e2 (TT' N W (RX N f2) m2)) (hn : notSet e2 = true) :
    PE X (.Compare e1 [co op] [e2] pos) (TT' N W (RX N True) (bnd m1 fun x => bnd m2 fun y => lft ((cmpD op x.d y.d).map fun k => .val (.bl k)))) :=
  (pe_cmpR (op_cmp hK hw hu op) ha hb (mark_of hn)).imp fun σ H Q h => cmp_imp h
theorem tx_cmp (hK : N.K = X.K) (hw : N.w = X.w) (hu : X.A.units + 65 < cLine) {op : Co} (ha : PE X e1 (TT' N W (RX N f1) m1)) (hb : PE X e2 (TT' N W (RX N f2) m2)) (hn : notSet e2 = true) :
    PT X (.Compare e1 [co op] [e2] pos) (TT' N W RB (testM (bnd m1 fun x => bnd m2 fun y => lft ((cmpD op x.d y.d).map fun k => .val (.bl k))))) :=
  (pt_cmpR (op_cmp hK hw hu op) ha hb (mark_of hn)).imp fun σ H Q h => cmp_imp (flag_test .cmp h)
/-- a < b < c -/
abbrev chainM (o1 o2 : Co) (m1 m2 m3 : M Sl) : M Sl := bnd m1 fun x => bnd m2 fun y => bnd (lft (cmpD o1 x.d y.d)) fun k =>
  if k then bnd m3 fun z => lft ((cmpD o2 y.d z.d).map fun k => .val (.bl k)) else pur (.val (.bl false))
theorem chain_imp {o1 o2 : Co} {σ : L2.St} {H : Hp} {Q : VK} (h : TT' N W (RX N True) (chainM o1 o2 m1 m2 m3) σ H Q) :
    tChain (rCmp N o1) (rCmp N o2) (TT' N W (RX N f1) m1) (TT' N W (RX N f2) m2) (TT' N W (RX N f3) m3) σ H Q := by
  obtain ⟨γ, s, r, h⟩ := h
  refine ⟨γ, s, r, (h.bnd RX.late).mono fun x H1 ⟨d, s1, γ1, _, r1, x1, rel, h1⟩ => ⟨γ1, s1, r1, (h1.bnd RX.late).mono fun y H2 ⟨d2, s2, γ2, _, r2, x2, rel2, h2⟩ => ?_⟩⟩
  have h3 := h2.bnd (R := RB) RX.late
  obtain ⟨b, eb, k⟩ := Post.lft h3
  obtain ⟨b', s3, γ3, e3, r3, x3, rel3, h4⟩ := k γ2 H2 b r2 (Xe.refl ..) rfl
  refine ⟨γ2, d.d, d2.d, b, RdR.later r1 x2 rel, rel2.rr, eb, b, rfl, ?_⟩
  have e3 : lft (cmpD o1 d.d d2.d) s2 = some (.ok b' s3) := e3
  unfold lft at e3
  rw [eb] at e3
  cases e3
  cases b with
  | true =>
    dsimp only at h4
    rw [if_pos rfl] at h4 ⊢
    exact ⟨γ3, s2, r3, (h4.bnd RX.late).mono fun z H3 ⟨d4, s4, γ4, _, r4, x4, rel4, h5⟩ => by
      obtain ⟨v, ev, k⟩ := h5.lft
      obtain ⟨b4, e4, rfl⟩ := Option.map_some_inv ev
      exact ⟨γ4, d2.d, d4.d, b4, RdR.later r2 (x3.trans x4) rel2, rel4.rr, e4, k γ4 H3 (.bl b4) r4 (Xe.refl ..) rfl⟩⟩
  | false =>
    dsimp only at h4
    rw [if_neg Bool.false_ne_true] at h4 ⊢
    exact h4 γ3 H2 (.bl false) r3 (Xe.refl ..) rfl
theorem Flag.chain {o1 o2 : Co} : Flag (chainM o1 o2 m1 m2 m3) := by
  intro s v s' h
  obtain ⟨a, s1, _, h⟩ := bnd_ok h
  obtain ⟨b, s2, _, h⟩ := bnd_ok h
  obtain ⟨k, s3, _, h⟩ := bnd_ok h
  cases k with
  | true =>
    rw [if_pos rfl] at h
    obtain ⟨z, s4, _, h⟩ := bnd_ok h
    unfold lft at h
    cases q : cmpD o2 b.d z.d with
    | none => rw [q] at h; cases h
    | some k => rw [q] at h; cases h; exact ⟨k, rfl⟩
  | false =>
    rw [if_neg Bool.false_ne_true] at h
    cases h
    exact ⟨false, rfl⟩
theorem ex_chain (hK : N.K = X.K) (hw : N.w = X.w) (hu : X.A.units + 65 < cLine) {o1 o2 : Co} (ha : PE X e1 (TT' N W (RX N f1) m1)) (hb : PE X e2 (TT' N W (RX N f2) m2)) (hc : PE X e3 (TT' N W (RX N f3) m3)) (hn : notSet e2 = true) (hn' : notSet e3 = true) :
    PE X (.Compare e1 [co o1, co o2] [e2, e3] pos) (TT' N W (RX N True) (chainM o1 o2 m1 m2 m3)) := by
  exact (pe_chain (pos := pos) (op_cmp hK hw hu o1) (op_cmp hK hw hu o2) ha hb hc (mark_of hn')).imp fun σ H Q h => chain_imp h
theorem tx_chain (hK : N.K = X.K) (hw : N.w = X.w) (hu : X.A.units + 65 < cLine) {o1 o2 : Co} (ha : PE X e1 (TT' N W (RX N f1) m1)) (hb : PE X e2 (TT' N W (RX N f2) m2)) (hc : PE X e3 (TT' N W (RX N f3) m3)) (hn : notSet e2 = true) (hn' : notSet e3 = true) :
    PT X (.Compare e1 [co o1, co o2] [e2, e3] pos) (TT' N W RB (testM (chainM o1 o2 m1 m2 m3))) := by
  exact (pt_chain (pos := pos) (op_cmp hK hw hu o1) (op_cmp hK hw hu o2) ha hb hc (mark_of hn')).imp fun σ H Q h => chain_imp (flag_test .chain h)
theorem ex_neg (ha : PE X e (TT' N W (RX N f1) m)) : PE X (.UnaryOp .USub e pos) (TT' N W (RX N True) (bnd m fun x => (match x with
    | .val (.int i) => pur (.val (.int (-i)))
    | _ => stk))) :=
  (pe_un un_neg ha).imp fun σ H Q ⟨γ, s, r, h⟩ => ⟨γ, s, r, (h.bnd RX.late).mono fun x H1 ⟨d, s1, γ1, _, r1, x1, rel, h1⟩ => by
    dsimp only at h1
    split at h1
    · cases rel
      exact ⟨_, rfl, h1 γ1 H1 _ r1 (Xe.refl ..) rfl⟩
    · exact h1.elim⟩
/-! ### tests -/
theorem Post.test {γ : Gh} {σ : L2.St} {H : Hp} {s : S} {Q : Bool → Hp → Prop} (h : Post N W RB γ σ H s (testM m s) Q) (hK : N.K = X.K) : Post N W (RX N fr) γ σ H s (m s) fun x H1 => ∃ k, TruV X.K x H1 k ∧ Q k H1 :=
  (h.bnd RB.late).mono fun x H1 ⟨d, s1, γ1, _, r1, x1, rel, h1⟩ => by
    obtain ⟨k, ek, q⟩ := h1.lft
    exact ⟨k, tru_v hK rel.rr ek, q γ1 H1 k r1 (Xe.refl ..) rfl⟩
theorem ex_not (hK : N.K = X.K) (ha : PE X e (TT' N W (RX N fr) m)) : PE X (.UnaryOp .Not e pos) (TT' N W (RX N True) (bnd (testM m) fun b => pur (.val (.bl (!b))))) :=
  (pe_notT ha).imp fun σ H Q ⟨γ, s, r, h⟩ => ⟨γ, s, r, by
    have h2 := (h.bnd (R := RB) RX.late).test (fr := fr) hK
    refine h2.mono fun x H1 ⟨k, t, b, s1, γ1, _, r1, x1, e1, h1⟩ => ⟨k, t, ?_⟩
    have e1 : b = k := e1
    subst e1
    exact h1 γ1 H1 _ r1 (Xe.refl ..) rfl⟩
/-- what is no and, or, not, comparison, conditional: a test by its value's truth -/
def plainT : Expr → Bool
  | .UnaryOp .Not .. => false
  | .BoolOp .. => false
  | .IfExp .. => false
  | .Compare .. => false
  | _ => true
theorem plainT_eq {e : Expr} {env : Env} (h : plainT e = true) : ∀ whole, isTrue e env whole = (do let v ← whole; standAt e.pos; holding [v] (truthy v)) := by
  intro whole
  cases e <;> first | rfl | cases h | skip
  rename_i op _ _
  cases op <;> first | rfl | cases h
theorem tx_plain (hK : N.K = X.K) (ha : PE X e (TT' N W (RX N fr) m)) (hp : plainT e = true) : PT X e (TT' N W RB (testM m)) :=
  (pt_truth ha (plainT_eq hp)).imp fun σ H Q ⟨γ, s, r, h⟩ => ⟨γ, s, r, h.test hK⟩
end
end Kb

set_option Elab.async false
set_option linter.all false
set_option maxRecDepth 100000
set_option maxHeartbeats 4000000
/-! KbEx3: and, or, conditionals, subscripts, slices, built-ins, methods. -/
namespace Kb
open PySem PySem.Spec PyProof.Rows L2 TL
section
variable {X : Cx} {N : Cn} {W : WX} {e e1 e2 e3 : Expr} {es rest : List Expr} {pos p1 p2 : Pos} {m m1 m2 m3 : M Sl} {md : M D} {ms : M (List D)} {mss : M (List Sl)} {fr f1 f2 f3 : Prop}
/-! ### and, or -/
abbrev andM (m1 m2 : M Sl) : M Sl := bnd m1 fun x => (match x with
    | .val (.bl true) => bnd m2 fun y => (match y with
      | .val (.bl k) => pur (.val (.bl k))
      | _ => stk)
    | .val (.bl false) => pur (.val (.bl false))
    | _ => stk)
abbrev orM (m1 m2 : M Sl) : M Sl := bnd m1 fun x => (match x with
    | .val (.bl false) => bnd m2 fun y => (match y with
      | .val (.bl k) => pur (.val (.bl k))
      | _ => stk)
    | .val (.bl true) => pur (.val (.bl true))
    | _ => stk)
theorem flag_post {γ : Gh} {σ : L2.St} {H : Hp} {s : S} {Q : VK} (h : Post N W (RX N True) γ σ H s (bnd m (fun y => (match y with
      | .val (.bl k) => pur (.val (.bl k))
      | _ => stk)) s) Q) : Post N W (RX N fr) γ σ H s (m s) Q :=
  (h.bnd RX.late).mono fun y H2 ⟨d2, s2, γ2, _, r2, x2, rel2, h2⟩ => by
    dsimp only at h2
    split at h2
    · exact h2 γ2 H2 y r2 (Xe.refl ..) rel2
    · exact h2.elim
theorem ex_and (ha : PE X e1 (TT' N W (RX N f1) m1)) (hb : PE X (.BoolOp .And (e2 :: rest) pos) (TT' N W (RX N f2) m2)) : PE X (.BoolOp .And (e1 :: e2 :: rest) pos) (TT' N W (RX N True) (andM m1 m2)) :=
  (pe_and ha hb).imp fun σ H Q ⟨γ, s, r, h⟩ => ⟨γ, s, r, (h.bnd RX.late).mono fun x H1 ⟨d, s1, γ1, _, r1, x1, rel, h1⟩ => by
    dsimp only at h1
    split at h1
    · cases rel
      refine ⟨true, rfl, ?_⟩
      rw [if_pos rfl]
      exact ⟨γ1, s1, r1, flag_post h1⟩
    · cases rel
      refine ⟨false, rfl, ?_⟩
      rw [if_neg Bool.false_ne_true]
      exact h1 γ1 H1 _ r1 (Xe.refl ..) rfl
    · exact h1.elim⟩
theorem ex_or (ha : PE X e1 (TT' N W (RX N f1) m1)) (hb : PE X (.BoolOp .Or (e2 :: rest) pos) (TT' N W (RX N f2) m2)) : PE X (.BoolOp .Or (e1 :: e2 :: rest) pos) (TT' N W (RX N True) (orM m1 m2)) :=
  (pe_or ha hb).imp fun σ H Q ⟨γ, s, r, h⟩ => ⟨γ, s, r, (h.bnd RX.late).mono fun x H1 ⟨d, s1, γ1, _, r1, x1, rel, h1⟩ => by
    dsimp only at h1
    split at h1
    · cases rel
      refine ⟨false, rfl, ?_⟩
      rw [if_neg Bool.false_ne_true]
      exact ⟨γ1, s1, r1, flag_post h1⟩
    · cases rel
      refine ⟨true, rfl, ?_⟩
      rw [if_pos rfl]
      exact h1 γ1 H1 _ r1 (Xe.refl ..) rfl
    · exact h1.elim⟩
/-- a test of and, or: by its parts' tests -/
theorem test_flag {γ : Gh} {σ : L2.St} {H : Hp} {s : S} {Q : Bool → Hp → Prop} (h : Post N W RB γ σ H s (testM (bnd m fun y => (match y with
      | .val (.bl k) => pur (.val (.bl k))
      | _ => stk)) s) Q) : Post N W RB γ σ H s (testM m s) Q := by
  unfold testM at h ⊢
  unfold Kb.bnd at h ⊢
  cases e : m s with
  | none => rw [e] at h; exact h
  | some r =>
    rw [e] at h
    cases r with
    | exn q fs s1 => exact h
    | ok v s1 =>
      cases v with
      | val d => cases d <;> first | exact h | exact False.elim h
      | own _ => exact False.elim h
      | ownd _ _ _ => exact False.elim h
      | exc => first | exact False.elim h | exact False.elim rel | exact False.elim h1 | cases hv
theorem tx_and (ha : PT X e1 (TT' N W RB (testM m1))) (hb : PW X (.BoolOp .And (e2 :: rest) pos) (TT' N W RB (testM m2))) : PW X (.BoolOp .And (e1 :: e2 :: rest) pos) (TT' N W RB (testM (andM m1 m2))) := by
  have h := pw_and ha hb
  refine ⟨fun wh pins s σ H Q I q => h.run wh pins s σ H Q I ?_⟩
  obtain ⟨γ, s, r, q⟩ := q
  refine ⟨γ, s, r, ?_⟩
  unfold testM andM at q
  unfold testM
  unfold Kb.bnd at q ⊢
  cases e : m1 s with
  | none => rw [e] at q; exact q
  | some rr =>
    rw [e] at q
    cases rr with
    | exn qq fs s1 => exact q
    | ok v s1 =>
      cases v with
      | val d =>
        cases d with
        | bl b =>
          cases b with
          | true =>
            show Post N W RB γ σ H s (some (Rs.ok true s1)) _
            intro γ' H' b r1 x1 eb
            have eb : true = b := eb
            subst eb
            refine iteT ⟨γ', s1, r1, ?_⟩
            have q2 := Post.later RB.late q x1
            exact test_flag (m := m2) q2
          | false =>
            show Post N W RB γ σ H s (some (Rs.ok false s1)) _
            intro γ' H' b r1 x1 eb
            have eb : false = b := eb
            subst eb
            exact iteF (q γ' H' false r1 x1 rfl)
        | _ => exact False.elim q
      | own _ => exact False.elim q
      | ownd _ _ _ => exact False.elim q
      | exc => first | exact False.elim h | exact False.elim rel | exact False.elim h1 | exact False.elim q
theorem tx_or (ha : PT X e1 (TT' N W RB (testM m1))) (hb : PW X (.BoolOp .Or (e2 :: rest) pos) (TT' N W RB (testM m2))) : PW X (.BoolOp .Or (e1 :: e2 :: rest) pos) (TT' N W RB (testM (orM m1 m2))) := by
  have h := pw_or ha hb
  refine ⟨fun wh pins s σ H Q I q => h.run wh pins s σ H Q I ?_⟩
  obtain ⟨γ, s, r, q⟩ := q
  refine ⟨γ, s, r, ?_⟩
  unfold testM orM at q
  unfold testM
  unfold Kb.bnd at q ⊢
  cases e : m1 s with
  | none => rw [e] at q; exact q
  | some rr =>
    rw [e] at q
    cases rr with
    | exn qq fs s1 => exact q
    | ok v s1 =>
      cases v with
      | val d =>
        cases d with
        | bl b =>
          cases b with
          | false =>
            show Post N W RB γ σ H s (some (Rs.ok false s1)) _
            intro γ' H' b r1 x1 eb
            have eb : false = b := eb
            subst eb
            refine iteF ⟨γ', s1, r1, ?_⟩
            have q2 := Post.later RB.late q x1
            exact test_flag (m := m2) q2
          | true =>
            show Post N W RB γ σ H s (some (Rs.ok true s1)) _
            intro γ' H' b r1 x1 eb
            have eb : true = b := eb
            subst eb
            exact iteT (q γ' H' true r1 x1 rfl)
        | _ => exact False.elim q
      | own _ => exact False.elim q
      | ownd _ _ _ => exact False.elim q
      | exc => first | exact False.elim h | exact False.elim rel | exact False.elim h1 | exact False.elim q
theorem tx_not (ha : PT X e (TT' N W RB (testM m))) : PT X (.UnaryOp .Not e pos) (TT' N W RB (testM (bnd (testM m) fun b => pur (.val (.bl (!b)))))) :=
  (pt_not ha).imp fun σ H Q ⟨γ, s, r, h⟩ => ⟨γ, s, r, by
    have h : Post N W RB γ σ H s (Kb.bnd (Kb.bnd (testM m) fun b => pur (Sl.val (.bl (!b)))) (fun v => lft (tru v.d)) s) Q := h
    unfold Kb.bnd at h
    cases e : testM m s with
    | none => rw [e] at h; exact h
    | some rr =>
      rw [e] at h
      cases rr with
      | exn qq fs s1 => exact h
      | ok k s1 =>
        intro γ' H' b r1 x1 eb
        have eb : k = b := eb
        subst eb
        exact h γ' H' _ r1 x1 rfl⟩
theorem pw_of {op : PySem.BoolOp} {t : TT} (h : PT X (.BoolOp op es pos) t) : PW X (.BoolOp op es pos) t := ⟨fun wh pins s σ H Q I q => h.run pins s σ H Q I q⟩
/-! ### conditionals -/
theorem ex_ite (hc : PT X e1 (TT' N W RB (testM m1))) (ha : PE X e2 (TT' N W (RX N True) m2)) (hb : PE X e3 (TT' N W (RX N True) m3)) : PE X (.IfExp e1 e2 e3 pos) (TT' N W (RX N True) (bnd (testM m1) fun k => if k then m2 else m3)) :=
  (pe_ifExp hc ha hb).imp fun σ H Q ⟨γ, s, r, h⟩ => ⟨γ, s, r, (h.bnd RX.late).mono fun k H1 ⟨k', s1, γ1, _, r1, x1, ek, h1⟩ => by
    have ek : k' = k := ek
    subst ek
    cases k' with
    | true => exact iteT ⟨γ1, s1, r1, h1⟩
    | false => exact iteF ⟨γ1, s1, r1, h1⟩⟩
/-- a value for a store: no name's own list is meant -/
theorem ex_store (h : PE X e (TT' N W (RD N) md)) : PE X e (TT' N W (RX N True) (bnd md fun d => pur (.val d))) :=
  h.imp fun σ H Q ⟨γ, s, r, h⟩ => ⟨γ, s, r, (h.bnd RX.late).mono fun x H1 ⟨d, s1, γ1, _, r1, x1, rel, h1⟩ => h1 γ1 H1 x r1 (Xe.refl ..) rel⟩
/-! ### subscripts -/
def notSlice : Expr → Bool
  | .Slice .. => false
  | _ => true
theorem plainIx_of {b : Expr} (h : notSlice b = true) : PlainIx b := by
  intro o i
  cases b <;> first | rfl | cases h
theorem noSl_of {b : Expr} (h : notSlice b = true) : NoSl b := by
  intro o i
  cases b <;> first | rfl | cases h
def rIdxH (N : Cn) : R2 := fun x y H Q => ∃ (a : Addr) (vs : List V) (j : Int) (v : V), x = .ref a ∧ y = .int j ∧ H a = some (.lst vs) ∧ atI vs j = some v ∧ Q v H
theorem ix_heap : IxR X (rIdxH N) := by
  intro value slice pins s σ H x y v u Q I rx ry hh hsub
  obtain ⟨a, vs, j, w, e1, e2, h1, h2, q⟩ := hh
  exact ix_list value slice pins s σ H x y v u Q I rx ry ⟨a, vs, j, w, e1, e2, .inl (.inl h1), h2, q⟩ hsub
def tKGet (N : Cn) (to ti : TE) : TE := fun σ H Q => to σ H fun x H1 => ti σ H1 fun y H2 => ∃ (a : Addr) (z : Str) (u : Value) (v : V), x = .ref a ∧ y = .str z ∧ (∃ es n, KDict N.K N.w a es n) ∧ PySem.W.nsIn N.K a z = some (some u) ∧ RelV v u ∧ Q v H2
theorem pe_kget (hK : N.K = X.K) (hw : N.w = X.w) {to ti : TE} (ho : PE X e1 to) (hi : PE X e2 ti) (hs : NoSl e2) : PE X (.Subscript e1 e2 pos) (tKGet N to ti) := by
  refine ⟨fun pins s σ H Q I h => ?_⟩
  refine subD_of PySem.F.slot_dict_getitem.lookup hs (thn (ho.run pins s σ H _ I h) fun u s1 ⟨x, H1, I1, rx, q1⟩ => thn (hi.run pins s1 σ H1 _ I1 q1) fun iv s2 ⟨y, H2, I2, ry, a, z, uv, v, ex, ey, ⟨es, n, hkd⟩, hns, rv, q2⟩ => ?_)
  subst ex
  rw [hK, hw] at hkd
  obtain rfl : u = Value.ref a := rx
  refine ⟨kd_type hkd I2, ?_⟩
  exact op_item_kd hkd pins s2 σ H2 (.ref a) y _ iv Q I2 rfl ry ⟨z, uv, v, rfl, ey, hK ▸ hns, rv, q2⟩
def isDic : Sl → Bool
  | .val (.dic _ _) => true
  | .ownd _ _ _ => true
  | _ => false
def isKd : Sl → Bool
  | .val (.kdic _ _) => true
  | _ => false
theorem ex_idx (hK : N.K = X.K) (hw : N.w = X.w) (hu : X.A.units + 1 < cLine) (ha : PE X e1 (TT' N W (RX N f1) m1)) (hb : PE X e2 (TT' N W (RD N) md)) (hn : notSlice e2 = true) :
    PE X (.Subscript e1 e2 pos) (TT' N W (RX N True) (bnd m1 fun x => bnd md fun y => idxM x y)) := by
  have h1 := pe_ix (pos := pos) ((ix_sq (N := N) hK).or (ix_heap (N := N))) ha hb (plainIx_of hn)
  have h2 := pe_dget (pos := pos) hu ha hb (noSl_of hn)
  have h3 := pe_kget (pos := pos) hK hw ha hb (noSl_of hn)
  refine ((h1.or h2).or h3).imp fun σ H Q ⟨γ, s, r, h⟩ => ?_
  by_cases c1 : ∃ v s', m1 s = some (.ok v s') ∧ isKd v = true
  · refine .inr ⟨γ, s, r, (h.bnd RX.late).mono fun x H1 ⟨d, s1, γ1, em, r1, x1, rel, h4⟩ => ⟨γ1, s1, r1, (h4.bnd RX.late).mono fun y H2 ⟨i, s2, γ2, _, r2, x2, rel2, h5⟩ => ?_⟩⟩
    obtain ⟨v, s', ev, hv⟩ := c1
    rw [em] at ev
    cases ev
    cases d with
    | val d =>
      cases d with
      | kdic ks ds =>
        obtain ⟨w, ew, k⟩ := Post.lft (show Post N W (RX N True) γ2 σ H2 s2 (lft ((idxD (.kdic ks ds) i).map .val) s2) Q from h5)
        obtain ⟨w', ew', rfl⟩ := Option.map_some_inv ew
        obtain ⟨a, vs, ex, ⟨hkd, hl, hno, hyes⟩, hr⟩ := rel
        cases i with
        | str kk =>
          obtain ⟨j, v1, g1, g2, g3⟩ := lookT_idx (hr.keep (r1.keepE x2)) ew'
          obtain ⟨u, v2, g4, g5, g6⟩ := hyes kk j g1
          rw [g2] at g5
          cases g5
          exact ⟨a, St kk, u, v1, ex, rel2.1, hkd, g4, g6, k γ2 H2 v1 r2 (Xe.refl ..) g3⟩
        | _ => cases ew'
      | _ => cases hv
    | _ => cases hv
  · by_cases c2 : ∃ v s', m1 s = some (.ok v s') ∧ isDic v = true
    · refine .inl (.inr ⟨γ, s, r, (h.bnd RX.late).mono fun x H1 ⟨d, s1, γ1, em, r1, x1, rel, h4⟩ => ⟨γ1, s1, r1, (h4.bnd RX.late).mono fun y H2 ⟨i, s2, γ2, _, r2, x2, rel2, h5⟩ => ?_⟩⟩)
      obtain ⟨v, s', ev, hv⟩ := c2
      rw [em] at ev
      cases ev
      have rd := RdR.later r1 x2 rel
      have h5 : Post N W (RX N True) γ2 σ H2 s2 (lft ((idxD d.d i).map .val) s2) Q := by
        cases d with
        | val d => cases d <;> first | exact h5 | cases hv
        | own _ => cases hv
        | ownd _ _ _ => exact h5
        | exc => first | exact False.elim h | exact False.elim rel | exact False.elim h1 | cases hv
      obtain ⟨w, ew, k⟩ := h5.lft
      obtain ⟨w', ew', rfl⟩ := Option.map_some_inv ew
      obtain ⟨ks, ds, ed⟩ : ∃ ks ds, d.d = .dic ks ds := by
        cases d with
        | val d => cases d <;> first | exact ⟨_, _, rfl⟩ | cases hv
        | own _ => cases hv
        | ownd _ _ _ => exact ⟨_, _, rfl⟩
        | exc => first | exact False.elim h | exact False.elim rel | exact False.elim h1 | cases hv
      rw [ed] at ew' rd
      obtain ⟨a, vs, ex, hd, hr⟩ := rd
      unfold idxD at ew'
      dsimp only at ew'
      cases ek : keyD i with
      | none => rw [ek] at ew'; cases ew'
      | some kk =>
        rw [ek] at ew'
        obtain ⟨p, rfl, ey⟩ := keyD_v ek rel2
        obtain ⟨kvs, g1, g2, g3⟩ := dic_get p hd
        obtain ⟨v1, g4, g5⟩ := lookV_rel hr ew'
        refine ⟨a, v1, ex, ?_, k γ2 H2 v1 r2 (Xe.refl ..) g5⟩
        have g : DGet H2 a (kV (keyK p)) (valV kvs (keyK p)) := .inl ⟨kvs, _, g1, rfl, rfl⟩
        rw [g2, g4] at g
        rw [ey]
        exact g
    · refine .inl (.inl ⟨γ, s, r, (h.bnd RX.late).mono fun x H1 ⟨d, s1, γ1, em, r1, x1, rel, h4⟩ => ⟨γ1, s1, r1, (h4.bnd RX.late).mono fun y H2 ⟨i, s2, γ2, _, r2, x2, rel2, h5⟩ => ?_⟩⟩)
      have n1 : isKd d = false := by
        cases q : isKd d with
        | false => rfl
        | true => exact absurd ⟨d, s1, em, q⟩ c1
      have n2 : isDic d = false := by
        cases q : isDic d with
        | false => rfl
        | true => exact absurd ⟨d, s1, em, q⟩ c2
      have rd := RdR.later r1 x2 rel
      by_cases c3 : ∃ k, d = .val (.ref k)
      · obtain ⟨k, rfl⟩ := c3
        right
        obtain ⟨a, ex, ha⟩ := rd
        unfold idxM at h5
        dsimp only at h5
        cases hh : s2.hp[k]? with
        | none => rw [hh] at h5; exact h5.elim
        | some ob =>
          rw [hh] at h5
          cases ob with
          | lst xs =>
            cases i with
            | int j =>
              dsimp only at h5
              cases hd : nth xs j with
              | none => rw [hd] at h5; exact h5.elim
              | some dd =>
                rw [hd] at h5
                obtain ⟨a', vs, g1, g2, g3⟩ := r2.hr.at_ k xs hh
                rw [ha] at g1
                cases g1
                obtain ⟨v1, g4, g5⟩ := g3.at hd
                exact ⟨a, vs, j, v1, ex, rel2, g2, g4, h5 γ2 H2 v1 r2 (Xe.refl ..) g5⟩
            | _ => exact h5.elim
      · left
        have h5 : Post N W (RX N True) γ2 σ H2 s2 (lft ((idxD d.d i).map .val) s2) Q := by
          cases d with
          | val d => cases d <;> first | exact h5 | exact absurd ⟨_, rfl⟩ c3
          | own _ => exact h5
          | ownd _ _ _ => exact h5
          | exc => first | exact False.elim h | exact False.elim rel | exact False.elim h1 | cases hv
        obtain ⟨w, ew, k⟩ := h5.lft
        obtain ⟨w', ew', rfl⟩ := Option.map_some_inv ew
        refine ⟨γ2, d.d, i, w', ?_, rd, Rel.rd rel2, ew', fun v g => k γ2 H2 v r2 (Xe.refl ..) g⟩
        cases d with
        | val d => cases d <;> first | rfl | (cases n2; done) | (cases n1; done) | (cases ew'; done)
        | own _ => rfl
        | ownd _ _ _ => cases n2
        | exc => first | exact False.elim h | exact False.elim rel | exact False.elim h1 | cases hv
/-! ### slices -/
theorem po_no : PO X none (TT' N W RO (pur none)) := by
  have h := po_none (X := X)
  refine ⟨fun pins s σ H Q I q => h.run pins s σ H Q I ?_⟩
  exact q.pur fun _ _ _ => rfl
end
end Kb

set_option Elab.async false
set_option linter.all false
set_option maxRecDepth 100000
set_option maxHeartbeats 4000000
/-! KbEx4: slices, built-ins, methods. -/
namespace Kb
open PySem PySem.Spec PyProof.Rows L2 TL
theorem fm_congr {α β : Type} {f g : α → Option β} : ∀ {l : List α}, (∀ a ∈ l, f a = g a) → l.filterMap f = l.filterMap g
  | [], _ => rfl
  | a :: l, h => by
    rw [List.filterMap_cons, List.filterMap_cons, h a (by simp), fm_congr fun b hb => h b (List.mem_cons_of_mem _ hb)]
theorem range_get {α : Type} : ∀ (l : List α), (List.range l.length).filterMap (fun k => l[k]?) = l := by
  intro l
  apply List.ext_getElem?
  intro i
  have h : ∀ (n : Nat), n ≤ l.length → (List.range n).filterMap (fun k => l[k]?) = l.take n := by
    intro n
    induction n with
    | zero => intro _; simp
    | succ n ih =>
      intro hn
      rw [List.range_succ, List.filterMap_append, ih (by omega), List.take_succ]
      have : l[n]? = some l[n] := List.getElem?_eq_getElem (by omega)
      simp [this]
  rw [h _ (Nat.le_refl _), List.take_length]
theorem rev_pick (l : List Nat) : (Builtin.Str.strSliceIndices none none (-1) l.length).filterMap (fun i => l[i]?) = l.reverse := by
  have e : Builtin.Str.strSliceIndices none none (-1) l.length = (List.range l.length).map fun k => l.length - 1 - k := by
    unfold Builtin.Str.strSliceIndices sliceRange
    simp only [show ¬ ((-1 : Int) > 0) by decide, if_false]
    by_cases h : (l.length : Int) - 1 > -1
    · simp only [h, if_true]
      have e1 : (((l.length : Int) - 1 - -1 - -1 - 1) / - -1).toNat = l.length := by
        have : ((l.length : Int) - 1 - -1 - -1 - 1) / - -1 = l.length := by
          rw [show (- -1 : Int) = 1 by decide, Int.ediv_one]
          omega
        rw [this]
        simp
      rw [e1]
      refine List.map_congr_left fun k hk => ?_
      have := List.mem_range.mp hk
      omega
    · have : l.length = 0 := by omega
      simp [this]
  rw [e, List.filterMap_map]
  have h2 := range_get l.reverse
  rw [List.length_reverse] at h2
  refine Eq.trans (fm_congr fun k hk => ?_) h2
  have := List.mem_range.mp hk
  show l[l.length - 1 - k]? = _
  rw [List.getElem?_reverse this]
section
variable {X : Cx} {N : Cn} {W : WX} {e e1 e2 e3 : Expr} {es rest : List Expr} {pos p1 p2 p3 : Pos} {m m1 m2 m3 : M Sl} {md : M D} {ms : M (List D)} {mss : M (List Sl)} {mo mo2 : M (Option Int)} {fr f1 f2 f3 : Prop}
theorem po_ex (h : PE X e (TT' N W (RX N fr) m)) : PO X (some e) (TT' N W RO (bnd m fun d => (match d with
    | .val (.int i) => pur (some i)
    | _ => stk))) := by
  have h2 := po_some h
  refine ⟨fun pins s σ H Q I q => h2.run pins s σ H Q I ?_⟩
  obtain ⟨γ, s, r, q⟩ := q
  exact ⟨γ, s, r, (q.bnd RO.late).mono fun x H1 ⟨d, s1, γ1, _, r1, x1, rel, h1⟩ => by
    dsimp only at h1
    split at h1
    · exact ⟨_, rel, h1 γ1 H1 _ r1 (Xe.refl ..) rfl⟩
    · exact h1.elim⟩
theorem ex_sl (hK : N.K = X.K) {lo hi : Option Expr} (ha : PE X e (TT' N W (RX N fr) m)) (hl : PO X lo (TT' N W RO mo)) (hh : PO X hi (TT' N W RO mo2)) :
    PE X (.Subscript e (.Slice lo hi none p2) pos) (TT' N W (RX N True) (bnd m fun x => bnd mo fun l => bnd mo2 fun h => lft (slD x.d l h))) :=
  (pe_slice (sl_any (N := N) hK) ha hl hh).imp fun σ H Q ⟨γ, s, r, h⟩ => ⟨γ, s, r, (h.bnd RX.late).mono fun x H1 ⟨d, s1, γ1, _, r1, x1, rel, h1⟩ => ⟨γ1, s1, r1, (h1.bnd RX.late).mono fun l H2 ⟨l', s2, γ2, _, r2, x2, el, h2⟩ => ⟨γ2, s2, r2, (h2.bnd RX.late).mono fun u H3 ⟨u', s3, γ3, _, r3, x3, eu, h3⟩ => by
    have el : l' = l := el
    have eu : u' = u := eu
    subst el eu
    obtain ⟨v, ev, k⟩ := h3.lft
    exact ⟨γ3, d.d, v, RdR.later r1 (x2.trans x3) rel, ev, Res.post r3 k⟩⟩⟩⟩
def tRevS (te : TE) : TE := fun σ H Q => te σ H fun x H1 => ∃ l : List Nat, x = .str (St l) ∧ l.length ≤ line ∧ Q (.str (St l.reverse)) H1
theorem pe_revS {te : TE} {k : Nat} (he : PE X e te) : PE X (.Subscript e (.Slice none none (some (.UnaryOp .USub (.Constant (.int 1) k p1) p2)) p3) pos) (tRevS te) := by
  refine ⟨fun pins s σ H Q I h => ?_⟩
  refine Subscript_ (thn (he.run pins s σ H _ I h) fun v s1 ⟨x, H1, I1, r1, q1⟩ => ?_)
  obtain ⟨l, ex, hl, q⟩ := q1
  subst ex
  obtain ⟨t, rfl⟩ := r1
  have one : PO X (some (.UnaryOp .USub (.Constant (.int 1) k p1) p2)) (tPart (tUn (rU fun i => .int (-i)) (tC (.int 1)))) := po_some (pe_un un_neg pe_int)
  have nil : ∀ {s : Shared} {H : Hp} {Q' : Value → Shared → Prop}, Inv X pins σ H s → (∀ s', Inv X pins σ H s' → Q' .none s') → wpAny (model X.prog X.w) X.A (evalPart none X.env) Q' X.xe s := by
    intro s H Q' I k
    refine thn (po_none.run pins s σ H (fun o H2 => o = none ∧ H2 = H) I ⟨rfl, rfl⟩) fun vl s2 ⟨o, H2, I2, pl, eo, eH⟩ => ?_
    subst eo eH
    cases pl
    exact k s2 I2
  refine wpAny_Slice (nil I1 fun s2 I2 => nil I2 fun s3 I3 => ?_)
  refine thn (one.run pins s3 σ H1 (fun o H4 => o = some (-1) ∧ H4 = H1) I3 ⟨1, rfl, -1, rfl, rfl, rfl⟩) fun vs s4 ⟨o, H4, I4, ps, eo, e4⟩ => ?_
  subst eo e4
  cases ps with
  | int _ u =>
    have I5 : Inv X pins σ H4 { s4 with heap := s4.heap.push { cls := .type "slice", data := .fields #[.none, .none, .int (-1) u] } } := I4.kept (t' := s4.toks) fun b ob q => Heap.get?_push_of_some _ q
    show wpAny (model X.prog X.w) X.A (subscriptTail e (.Slice none none (some (.UnaryOp .USub (.Constant (.int 1) k p1) p2)) p3) (.str (St l) t) (.ref s4.heap.objs.size)) (EP X pins σ Q) X.xe { s4 with heap := s4.heap.push { cls := .type "slice", data := .fields #[.none, .none, .int (-1) u] } }
    refine tail_any (ops := [.str (St l) t, .ref s4.heap.objs.size]) (typeIs_str _ _ t) slot_str_getitem.lookup ?_ (by with_unfolding_all rfl)
    refine wpAny_getItem_str_slice (l := none) (u := none) (st := some (-1, u)) ⟨_, Heap.get?_push_size _ rfl, rfl, rfl⟩ (by rfl) ?_
    unfold sliceMade
    rw [if_neg (by simp)]
    have e : (⟨((slicePicked (St l) none none (some (-1, u))).filterMap ((St l).cps[·]?)).toArray⟩ : Str) = St l.reverse := by
      have : (slicePicked (St l) none none (some (-1, u))).filterMap ((St l).cps[·]?) = l.reverse := by
        rw [← rev_pick l]
        unfold slicePicked
        rw [St_len]
        refine fm_congr fun i _ => ?_
        show l.toArray[i]? = l[i]?
        simp
      rw [this]
      rfl
    rw [e]
    exact ⟨by rw [St_len, List.length_reverse, line_eq]; exact hl, .str (St l.reverse), H4, I5.tok _, ⟨_, rfl⟩, q⟩
theorem Txt.rev {l : List Nat} (h : Txt l) : Txt l.reverse := fun c hc => h c (List.mem_reverse.mp hc)
theorem ex_rev {k : Nat} (ha : PE X e (TT' N W (RX N fr) m)) : PE X (.Subscript e (.Slice none none (some (.UnaryOp .USub (.Constant (.int 1) k p1) p2)) p3) pos) (TT' N W (RX N True) (bnd m fun x => lft (revD x.d))) := by
  have h1 := pe_revL (k := k) (p1 := p1) (p2 := p2) (p3 := p3) (pos := pos) ha
  have h2 := pe_revS (k := k) (p1 := p1) (p2 := p2) (p3 := p3) (pos := pos) ha
  refine (h1.or h2).imp fun σ H Q ⟨γ, s, r, h⟩ => ?_
  by_cases c : ∃ v s', m s = some (.ok v s') ∧ ∃ l, v.d = .str l
  · refine .inr ⟨γ, s, r, (h.bnd RX.late).mono fun x H1 ⟨d, s1, γ1, em, r1, x1, rel, h1⟩ => ?_⟩
    obtain ⟨v, s', ev, l, el⟩ := c
    rw [em] at ev
    cases ev
    obtain ⟨w, ew, kk⟩ := h1.lft
    have rd := rel.rr
    rw [el] at rd ew
    obtain ⟨rfl, t⟩ := rd
    have ew : (if l.length ≤ line then some (Sl.val (.str l.reverse)) else none) = some w := ew
    split at ew
    · rename_i hl
      cases ew
      exact ⟨l, rfl, hl, kk γ1 H1 _ r1 (Xe.refl ..) ⟨rfl, t.rev⟩⟩
    · cases ew
  · refine .inl ⟨γ, s, r, (h.bnd RX.late).mono fun x H1 ⟨d, s1, γ1, em, r1, x1, rel, h1⟩ => ?_⟩
    obtain ⟨w, ew, kk⟩ := h1.lft
    have rd := rel.rr
    cases ed : d.d with
    | str l => exact absurd ⟨d, s1, em, l, ed⟩ c
    | lst l =>
      rw [ed] at rd ew
      obtain ⟨a, vs, rfl, g1, g2⟩ := rd
      cases ew
      exact ⟨a, vs, rfl, .inl (.inl g1), fun p np => Res.post (w := .own l.reverse) r1 kk _ _ (.lst np g2.reverse)⟩
    | _ => rw [ed] at ew; cases ew
/-! ### built-ins -/
theorem ex_bltB {x : Str} {b : Bl} (c : CallR X (blVal b) (rBlt N (bltD b))) (hg : Gl X x) (hm : X.mg x = none) (hv : bootBuiltins x = some (blVal b)) (ha : PA X (e :: es) (TT' N W (RRs N) mss)) (hn : x ≠ "__name__") (hdb : (x == ("__debug__" : Str)) = false)
    (hs : notStar e = true) (hss : es.all notStar = true) : PE X (.Call (.Name x p1) (e :: es) [] pos) (TT' N W (RX N True) (bnd mss fun xs => lft (bltD b (xs.map Sl.d)))) := by
  have hr : PE X (.Call (.Name x p1) (e :: es) [] pos) (tCB (rBlt N (bltD b)) (TT' N W (RRs N) mss)) := by
    unfold blVal at c hv
    cases q : isTy b with
    | true =>
      rw [q, if_pos rfl] at c hv
      exact pe_callTy c hg hm hv ha hn hdb (star_of hs) (stars_no hss)
    | false =>
      rw [q, if_neg Bool.false_ne_true] at c hv
      exact pe_callB c hg hm hv ha hn hdb (star_of hs) (stars_no hss)
  exact hr.imp fun σ H Q ⟨γ, s, r, h⟩ => ⟨γ, s, r, (h.bnd RX.late).mono fun xs H1 ⟨ds, s1, γ1, _, r1, x1, rel, h1⟩ => by
    obtain ⟨v, ev, k⟩ := h1.lft
    exact ⟨γ1, ds.map Sl.d, v, rel, ev, Res.post r1 k⟩⟩
theorem ex_reprT {x : Str} (hgd : X.A.guards = some []) (hun : X.A.units + 65 < cLine) (hK : N.K = X.K) (hw : N.w = X.w) (hc : X.calm = true) (hg : Gl X x) (hm : X.mg x = none) (hv : bootBuiltins x = some (.builtin "repr")) (ha : PA X (e :: es) (TT' N W (RRs N) mss)) (hn : x ≠ "__name__") (hdb : (x == ("__debug__" : Str)) = false)
    (hs : notStar e = true) (hss : es.all notStar = true) : PE X (.Call (.Name x p1) (e :: es) [] pos) (TT' N W (RX N True) (bnd mss fun xs => lft (bltD .reprT (xs.map Sl.d)))) := by
  have hr : PE X (.Call (.Name x p1) (e :: es) [] pos) (tCB (rBlt N (bltD .reprT)) (TT' N W (RRs N) mss)) := pe_callB (call_reprT (N := N) hK hw hc hgd hun) hg hm hv ha hn hdb (star_of hs) (stars_no hss)
  exact hr.imp fun σ H Q ⟨γ, s, r, h⟩ => ⟨γ, s, r, (h.bnd RX.late).mono fun xs H1 ⟨ds, s1, γ1, _, r1, x1, rel, h1⟩ => by
    obtain ⟨v, ev, k⟩ := h1.lft
    exact ⟨γ1, ds.map Sl.d, v, rel, ev, Res.post r1 k⟩⟩
/-! ### methods -/
/-- what an attribute is read of: no call without arguments (super()) -/
def baseOk : Expr → Bool
  | .Call (.Name _ _) [] [] _ => false
  | _ => true
theorem base_of {o : Expr} {f : Str} {env : Env} (h : baseOk o = true) : attributeBase o f env (eval o env) = eval o env := by
  unfold attributeBase
  split
  · cases h
  · rfl
theorem few1 {e : Expr} {env : Env} {pos : Pos} (h : notStar e = true) : ((backTo pos (starEach [e] env)).all (fun x => !x.1) && (backToKw pos (keywordEach [] env)).all (fun x => x.1.isSome)
      && decide (([e] : List Expr).length + ([] : List Keyword).length + (if ([] : List Keyword).isEmpty then 0 else 1) < 30)) = true := by
  rw [star_of h]
  rfl
/-- a method of one argument, by its receiver's type -/
theorem pe_mt {T id : String} {name : Str} {ap : Pos} {R : D → Prop} {mt : Mt} (pa : PlainAttrs T) (slot : Slot T name id) (hty : typeOf (.builtin id) = pure (.type "method_descriptor")) (hm : MtR X id (rM1 N R fun o d => mthD mt o [d]))
    (ho : PE X e1 (TT' N W (RX N f1) m1)) (ha : PE X e2 (TT' N W (RX N f2) m2)) (hb : baseOk e1 = true) (hl : (ap.endLine == pos.line) = true) (hs : notStar e2 = true)
    (hR : ∀ {γ : Gh} {H : Hp} {d : D} {x : V}, R d → RdR N γ H d x → tyV X.K T x H) (hk : ∀ d, recv mt d = true → R d) :
    PE X (.Call (.Attribute e1 name ap) [e2] [] pos) (TT' N W (RX N True) (bnd m1 fun x => if recv mt x.d then bnd (bnd m2 fun d => bnd (pur []) fun ds => pur (d :: ds)) fun ys => lft (mthD mt x.d (ys.map Sl.d)) else stk)) := by
  have h := pe_bm (apos := ap) (cpos := pos) pa slot hty hm ho (bs_cons ha bs_nil hs) (base_of hb) (few1 hs) hl (star_of hs) (by rfl)
  refine h.imp fun σ H Q ⟨γ, s, r, h⟩ => ⟨γ, s, r, (h.bnd RX.late).mono fun x H1 ⟨d, s1, γ1, em, r1, x1, rel, h1⟩ => ?_⟩
  dsimp only at h1
  cases c : recv mt d.d with
  | false =>
    rw [c, if_neg Bool.false_ne_true] at h1
    exact h1.elim
  | true =>
    rw [c, if_pos rfl] at h1
    have hd := hk _ c
    refine ⟨hR hd rel.rr, γ1, s1, r1, (h1.bnd (R := RRs N) RX.late).mono fun xs H2 ⟨ys, s2, γ2, em2, r2, x2, rel2, h2⟩ => ?_⟩
    obtain ⟨v, ev, k⟩ := h2.lft
    obtain ⟨y, s3, _, em3⟩ := bnd_ok em2
    cases em3
    cases rel2 with
    | cons ry rt =>
      cases rt
      exact ⟨γ2, d.d, y.d, _, v, hd, RdR.later r1 x2 rel, rfl, ry, ev, Res.post r2 k⟩
theorem recv_count (d : D) (h : recv .count d = true) : isL d := by cases d <;> first | exact ⟨_, rfl⟩ | cases h
theorem recv_countS (d : D) (h : recv .countS d = true) : isS d := by cases d <;> first | exact ⟨_, rfl⟩ | cases h
theorem recv_index (d : D) (h : recv .index d = true) : isL d := by cases d <;> first | exact ⟨_, rfl⟩ | cases h
theorem recv_indexT (d : D) (h : recv .indexT d = true) : isT d := by cases d <;> first | exact ⟨_, rfl⟩ | cases h
theorem recv_join (d : D) (h : recv .join d = true) : isS d := by cases d <;> first | exact ⟨_, rfl⟩ | cases h
theorem ty_l {γ : Gh} {H : Hp} {d : D} {x : V} (h : isL d) (r : RdR N γ H d x) : tyV X.K "list" x H := by
  obtain ⟨xs, rfl⟩ := h
  obtain ⟨a, vs, rfl, h1, _⟩ := r
  exact .inl ⟨rfl, vs, .inl (.inl h1)⟩
theorem ty_s {γ : Gh} {H : Hp} {d : D} {x : V} (h : isS d) (r : RdR N γ H d x) : tyV X.K "str" x H := by
  obtain ⟨xs, rfl⟩ := h
  obtain ⟨rfl, _⟩ := r
  exact rfl
abbrev mthM (mt : Mt) (m1 m2 : M Sl) : M Sl := bnd m1 fun x => if recv mt x.d then bnd (bnd m2 fun d => bnd (pur []) fun ds => pur (d :: ds)) fun ys => lft (mthD mt x.d (ys.map Sl.d)) else stk
def mtName : Mt → Option String
  | .count => some "count"
  | .countS => some "count"
  | .index => some "index"
  | .join => some "join"
  | _ => none
theorem ex_mth {name : Str} {ap : Pos} {mt : Mt} {nm : String} (hK : N.K = X.K) (hu : X.A.units + 65 < cLine) (hn : mtName mt = some nm) (en : name = nm) (ho : PE X e1 (TT' N W (RX N f1) m1)) (ha : PE X e2 (TT' N W (RX N f2) m2)) (hb : baseOk e1 = true)
    (hl : (ap.endLine == pos.line) = true) (hs : notStar e2 = true) : PE X (.Call (.Attribute e1 name ap) [e2] [] pos) (TT' N W (RX N True) (mthM mt m1 m2)) := by
  subst en
  cases mt with
  | count => cases hn; exact pe_mt PySem.F.plainAttrs_list PySem.F.slot_list_count PySem.F.type_list_count mt_count_l ho ha hb hl hs ty_l recv_count
  | countS => cases hn; exact pe_mt PySem.F.plainAttrs_str PySem.F.slot_str_count PySem.F.type_str_count mt_count_s ho ha hb hl hs ty_s recv_countS
  | index => cases hn; exact pe_mt PySem.F.plainAttrs_list PySem.F.slot_list_index PySem.F.type_list_index (mt_index_l hK hu) ho ha hb hl hs ty_l recv_index
  | join => cases hn; exact pe_mt PySem.F.plainAttrs_str PySem.F.slot_str_join PySem.F.type_str_join (mt_join_s hK) ho ha hb hl hs ty_s recv_join
  | _ => cases hn
/-- C.index(e), C a written tuple -/
theorem ex_gindex {x : Str} {v : V} {u : Value} {d : D} {ap p1 : Pos} (hK : N.K = X.K) (hu : X.A.units + 65 < cLine) (hg : Gl X x) (hm : X.mg x = some u) (r : RelV v u) (hd : (x == ("__debug__" : Str)) = false) (hv : ∀ γ H, Rel N γ H d v) (hk : KT N.K d v)
    (ha : PE X e2 (TT' N W (RX N f2) m2)) (hl : (ap.endLine == pos.line) = true) (hs : notStar e2 = true) : PE X (.Call (.Attribute (.Name x p1) ("index" : Str) ap) [e2] [] pos) (TT' N W (RX N True) (mthM .indexT (lft (some (.val d))) m2)) := by
  have h := pe_bm (apos := ap) (cpos := pos) PySem.F.plainAttrs_tuple PySem.F.slot_tuple_index PySem.F.type_tuple_index (mt_index_t hK hu) (pe_glob (pos := p1) hg hm r hd) (bs_cons ha bs_nil hs) (base_of (by rfl)) (few1 hs) hl (star_of hs) (by rfl)
  refine h.imp fun σ H Q ⟨γ, s, r0, h⟩ => ?_
  obtain ⟨d', s1, γ1, em, r1, x1, rel, h1⟩ := (h.bnd (R := RX N True) RX.late) γ H v r0 (Xe.refl ..) (hv γ H)
  cases em
  dsimp only at h1
  cases c : recv .indexT (Sl.val d).d with
  | false =>
    rw [c, if_neg Bool.false_ne_true] at h1
    exact h1.elim
  | true =>
    rw [c, if_pos rfl] at h1
    have hd := recv_indexT _ c
    have ty : tyV X.K "tuple" v H := by
      obtain ⟨xs, e⟩ := hd
      obtain ⟨a, o, rfl, k1, k2, k3⟩ := hk xs e
      exact .inr (.inl ⟨rfl, o, hK ▸ k1, k2, k3⟩)
    refine ⟨ty, γ1, _, r1, (h1.bnd (R := RRs N) RX.late).mono fun xs H2 ⟨ys, s2, γ2, em2, r2, x2, rel2, h2⟩ => ?_⟩
    obtain ⟨w, ev, k⟩ := h2.lft
    obtain ⟨y, s3, _, em3⟩ := bnd_ok em2
    cases em3
    cases rel2 with
    | cons ry rt =>
      cases rt
      exact ⟨γ2, _, y.d, _, w, hd, RdR.later (e := .val d) r1 x2 rel, rfl, ry, ev, Res.post r2 k⟩
end
end Kb

set_option Elab.async false
set_option linter.all false
set_option maxRecDepth 100000
set_option maxHeartbeats 4000000
/-! KbZi: zip, enumerate of lists, tuples and texts. -/
namespace Kb
open PySem PySem.Spec PyProof.Rows L2
/-- what a zip draws from -/
inductive Sr where
  | lst (a : Addr) | tup (a : Addr) | txt (x : Str)
def Sr.is (K : PySem.W.Frag) : Sr → Hp → List V → Prop
  | .lst a, H, vs => SqL K H a vs
  | .tup a, H, vs => SqT K H a vs
  | .txt x, _, vs => vs = x.cps.toList.map fun c => V.str ⟨#[c]⟩
def Sr.v : Sr → V
  | .lst a => .ref a
  | .tup a => .ref a
  | .txt x => .str x
def Sr.own : Sr → List Addr
  | .lst a => [a]
  | .tup a => [a]
  | .txt _ => []
def Sr.st : Sr → Addr → Nat → Heap → Prop
  | .lst a, it, i, h => a ≠ it ∧ h.IsListIter it a i
  | .tup a, it, i, h => a ≠ it ∧ h.IsTupleIter it a i
  | .txt x, it, i, h => ∃ t, h.IsStrIter it (strIterType x) x t i
section
variable {X : Cx} {pins : List (Addr × Obj)} {σ : L2.St} {H : Hp} {s : Shared} {p q : Sr} {xs ys : List V}
theorem Sr.inj (I : Inv X pins σ H s) (h : p.is X.K H xs) (h' : p.is X.K H ys) : xs = ys := by
  cases p with
  | lst a => exact I.list_inj h h'
  | tup a => exact I.tuple_inj h h'
  | txt x => rw [show xs = _ from h, show ys = _ from h']
theorem Sr.at {it : Addr} {i : Nat} {h h' : Heap} (st : p.st it i h) (k : ∀ o, h.get? it = some o → h'.get? it = some o) : p.st it i h' := by
  cases p with
  | lst a => exact ⟨st.1, st.2.at k⟩
  | tup a => exact ⟨st.1, st.2.at k⟩
  | txt x => obtain ⟨t, o, e, r⟩ := st; exact ⟨t, o, k o e, r⟩
theorem Sr.obj {it : Addr} {i : Nat} {h : Heap} (st : p.st it i h) : ∃ o, h.get? it = some o ∧ ∀ v, o.data ≠ .cell v := by
  cases p with
  | lst a => obtain ⟨_, o, e, _, d⟩ := st; exact ⟨o, e, fun v z => by rw [d] at z; cases z⟩
  | tup a => obtain ⟨_, o, e, _, d⟩ := st; exact ⟨o, e, fun v z => by rw [d] at z; cases z⟩
  | txt x => obtain ⟨_, o, e, _, d⟩ := st; exact ⟨o, e, fun v z => by rw [d] at z; cases z⟩
/-- its iterator's turns -/
theorem Sr.draws {A : Around} (hh : A.handled = none) (I : Inv X pins σ H s) (h : p.is X.K H xs) {it : Addr} {i : Nat} (st : p.st it i s.heap) : ∃ (P : Nat → Value → Prop) (T : Nat → Heap → Prop), Draws X.prog X.w A it (it :: p.own) xs.length P T ∧
    (∀ j v, P j v → ∃ x, xs[j]? = some x ∧ RelV x v) ∧ T i s.heap ∧ ∀ j h, T j h → p.st it j h := by
  cases p with
  | lst a =>
    obtain ⟨ne, hit⟩ := st
    obtain ⟨its, rv, pl, _⟩ := I.list h
    have D := Draws.list (prog := X.prog) (w := X.w) hh it a ne its.toArray
    have e : its.toArray.size = xs.length := by rw [rv.length]; simp
    rw [e] at D
    refine ⟨_, _, D, fun j v hv => ?_, ⟨hit, pl.isList⟩, fun j h ⟨h1, _⟩ => ⟨ne, h1⟩⟩
    have hv : its[j]? = some v := by simpa using hv
    have hj : j < xs.length := by
      rw [rv.length]
      exact (List.getElem?_eq_some_iff.mp hv).1
    obtain ⟨u, hu, ru⟩ := rv.get (List.getElem?_eq_getElem hj)
    rw [hv] at hu
    cases hu
    exact ⟨_, List.getElem?_eq_getElem hj, ru⟩
  | tup a =>
    obtain ⟨ne, hit⟩ := st
    obtain ⟨its, rv, pl, _⟩ := I.tuple h
    have D := Draws.tuple (prog := X.prog) (w := X.w) hh it a ne its.toArray
    have e : its.toArray.size = xs.length := by rw [rv.length]; simp
    rw [e] at D
    refine ⟨_, _, D, fun j v hv => ?_, ⟨hit, pl⟩, fun j h ⟨h1, _⟩ => ⟨ne, h1⟩⟩
    have hv : its[j]? = some v := by simpa using hv
    have hj : j < xs.length := by
      rw [rv.length]
      exact (List.getElem?_eq_some_iff.mp hv).1
    obtain ⟨u, hu, ru⟩ := rv.get (List.getElem?_eq_getElem hj)
    rw [hv] at hu
    cases hu
    exact ⟨_, List.getElem?_eq_getElem hj, ru⟩
  | txt x =>
    obtain ⟨t, hit⟩ := st
    have h : xs = x.cps.toList.map fun c => V.str ⟨#[c]⟩ := h
    subst h
    have D := Draws.text (prog := X.prog) (w := X.w) hh it x t
    have e : x.cps.size = (x.cps.toList.map fun c => V.str ⟨#[c]⟩).length := by simp
    rw [e] at D
    refine ⟨_, _, D, fun j v hv => ?_, hit, fun j h h1 => ⟨t, h1⟩⟩
    obtain ⟨c, u, hc, rfl⟩ := hv
    exact ⟨.str ⟨#[c]⟩, by simp [hc], ⟨u, rfl⟩⟩
/-- its iterator's beginning -/
theorem Sr.begins (I : Inv X pins σ H s) (h : p.is X.K H xs) {u : Value} (r : RelV p.v u) : ∃ (o : Obj) (G : Heap → Prop), Begins u o G ∧ G s.heap ∧ (∀ b ∈ p.own, b < s.heap.objs.size) ∧ ∀ N h', s.heap.objs.size ≤ N → h'.get? N = some o → p.st N 0 h' := by
  cases p with
  | lst a =>
    obtain ⟨its, rv, pl, _⟩ := I.list h
    obtain rfl : u = .ref a := r
    have hl := pl.lt
    exact ⟨_, _, begins_list a its.toArray, pl.isList, fun b hb => by have : b = a := by simpa [Sr.own] using hb
                                                                      rw [this]; exact hl, fun N h' hN e => ⟨Nat.ne_of_lt (Nat.lt_of_lt_of_le hl hN), _, e, rfl, rfl⟩⟩
  | tup a =>
    obtain ⟨its, rv, pl, _⟩ := I.tuple h
    obtain rfl : u = .ref a := r
    have hl : a < s.heap.objs.size := by obtain ⟨o, e, _⟩ := id pl; exact Heap.lt_size e
    exact ⟨_, _, begins_tuple a its.toArray, pl, fun b hb => by have : b = a := by simpa [Sr.own] using hb
                                                                rw [this]; exact hl, fun N h' hN e => ⟨Nat.ne_of_lt (Nat.lt_of_lt_of_le hl hN), _, e, rfl, rfl⟩⟩
  | txt x =>
    obtain ⟨t, rfl⟩ := r
    exact ⟨_, _, begins_text x t, trivial, fun b hb => (by cases hb), fun N h' hN e => ⟨t, _, e, rfl, rfl⟩⟩
end
/-! ### zip -/
def ItzG (K : PySem.W.Frag) (p q : Sr) : L2.It :=
  ⟨fun i H => ∃ (xs ys : List V) (x y : V), p.is K H xs ∧ q.is K H ys ∧ xs[i]? = some x ∧ ys[i]? = some y,
    fun i H v H' => ∃ T x y, v = .ref T ∧ H T = none ∧ H' = upd H T (.tup [x, y]) ∧ (∀ xs, p.is K H xs → xs[i]? = some x) ∧ ∀ ys, q.is K H ys → ys[i]? = some y,
    fun i H => ∃ xs ys : List V, p.is K H xs ∧ q.is K H ys ∧ i = min xs.length ys.length⟩
theorem turn_zipG {P : Program} {w : World} {K : PySem.W.Frag} {elts : List Expr} {kk : Nat} {tpos : Pos} {p q : Sr} {z TI TO i1 i2 : Addr} (S : ZipSep2 z TI TO i1 i2 (i1 :: p.own) (i2 :: q.own)) :
    Turn P w K (.Tuple elts kk tpos) (ItzG K p q) [z, TI, TO, i1, i2] z (fun i h => IsZip h z TI TO .none ∧ IsPair h TI (.ref i1) (.ref i2) ∧ (∃ x y, IsPair h TO x y) ∧ p.st i1 i h ∧ q.st i2 i h) where
  mem := by simp
  obj := fun i h st c hc => by
    obtain ⟨hz, hTI, ⟨x, y, hTO⟩, h1, h2⟩ := st
    have e' : c = z ∨ c = TI ∨ c = TO ∨ c = i1 ∨ c = i2 := by simpa using hc
    rcases e' with q | q | q | q | q
    · rw [q]; exact ⟨_, hz, fun v q => nomatch q⟩
    · rw [q]; exact ⟨_, hTI, fun v q => nomatch q⟩
    · rw [q]; exact ⟨_, hTO, fun v q => nomatch q⟩
    · rw [q]; exact Sr.obj h1
    · rw [q]; exact Sr.obj h2
  keep := fun i h h' st k => by
    obtain ⟨hz, hTI, ⟨x, y, hTO⟩, h1, h2⟩ := st
    exact ⟨k z (by simp) _ hz, k TI (by simp) _ hTI, ⟨x, y, k TO (by simp) _ hTO⟩, Sr.at h1 fun o q => k i1 (by simp) o q, Sr.at h2 fun o q => k i2 (by simp) o q⟩
  item := by
    intro X hP hw hK hc i pins s σ H E I hf st hg
    subst hP hw hK
    obtain ⟨hz, hTI, ⟨x0, y0, hTO⟩, h1, h2⟩ := st
    obtain ⟨xs, ys, x, y, hqx, hqy, hx, hy⟩ := hg
    obtain ⟨P1, T1, D1, g1, t1, k1⟩ := Sr.draws (A := X.A.in1) (I.ok.hd hc) I hqx h1
    obtain ⟨P2, T2, D2, g2, t2, k2⟩ := Sr.draws (A := X.A.in1) (I.ok.hd hc) I hqy h2
    have hzl : z < s.heap.objs.size := Heap.lt_size hz
    refine wpAny_pyNext_zipD2_item S D1 D2 hz hTI hTO t1 t2 (List.getElem?_eq_some_iff.mp hx).1 (List.getElem?_eq_some_iff.mp hy).1 fun u u2 h' tk p1 p2 z' TO' h1' h2' hT hsz hk => ?_
    obtain ⟨x', ex, ru⟩ := g1 _ _ p1
    obtain ⟨y', ey, ru2⟩ := g2 _ _ p2
    rw [hx] at ex
    cases ex
    rw [hy] at ey
    cases ey
    refine ⟨_, rfl, wpAny_letOwnedTupleGo_zip (s := { s with heap := h', toks := tk }) z' fun h'' z'' sb => ?_⟩
    have hT2 : h''.get? s.heap.objs.size = some { cls := .type "tuple", data := .seq #[u, u2] } := (sb.2 _ (Nat.ne_of_gt hzl)).trans hT
    have new : ObjOk X.prog X.w (upd H s.heap.objs.size (.tup [x, y])) h'' s.heap.objs.size (.tup [x, y]) :=
      ⟨by show 2 ≤ sizeLine; decide, [u, u2], .cons ru (.cons ru2 .nil), ⟨_, hT2, rfl, _, rfl⟩⟩
    have I1 : Inv X pins σ (upd H s.heap.objs.size (.tup [x, y])) { s with heap := h'', toks := tk } :=
      I.turnedNew (t' := tk) (ch := [z, TI, TO, i1, i2]) (fun c o hb q => (sb.2 c (fun q' => hb (by simp [q']))).trans (hk c o (fun q' => hb (by simp [q'])) (fun q' => hb (by simp [q'])) (fun q' => hb (by simp [q'])) (fun q' => hb (by simp [q'])) q)) hf (Nat.le_refl _) new
    refine ⟨.ref s.heap.objs.size, _, I1, rfl, ⟨_, x, y, rfl, I.hok.fresh (Nat.le_refl _), rfl, fun l hl => by rw [Sr.inj I hl hqx]; exact hx, fun l hl => by rw [Sr.inj I hl hqy]; exact hy⟩, ⟨z'', ?_, ⟨u, u2, ?_⟩, ?_, ?_⟩, fun c hcm => ?_⟩
    · exact (sb.2 _ S.TIz).trans (hk _ _ S.TIz S.TITO S.TIi1 S.TIi2 hTI)
    · exact (sb.2 _ S.TOz).trans TO'
    · exact Sr.at (k1 _ _ h1') fun o q => (sb.2 _ (Ne.symm S.zi1)).trans q
    · exact Sr.at (k2 _ _ h2') fun o q => (sb.2 _ (Ne.symm S.zi2)).trans q
    · have hlt : c < s.heap.objs.size := by
        have e' : c = z ∨ c = TI ∨ c = TO ∨ c = i1 ∨ c = i2 := by simpa using hcm
        rcases e' with q | q | q | q | q
        · rw [q]; exact hzl
        · rw [q]; exact Heap.lt_size hTI
        · rw [q]; exact Heap.lt_size hTO
        · rw [q]; obtain ⟨_, e1, _⟩ := Sr.obj h1; exact Heap.lt_size e1
        · rw [q]; obtain ⟨_, e2, _⟩ := Sr.obj h2; exact Heap.lt_size e2
      rw [upd_ne (Nat.ne_of_lt hlt)]
      exact (hf c hcm).1
  done := by
    intro X hP hw hK hc i pins s σ H E I hf st hg
    subst hP hw hK
    obtain ⟨hz, hTI, ⟨x0, y0, hTO⟩, h1, h2⟩ := st
    obtain ⟨xs, ys, hqx, hqy, hend⟩ := hg
    obtain ⟨P1, T1, D1, g1, t1, k1⟩ := Sr.draws (A := X.A.in1) (I.ok.hd hc) I hqx h1
    obtain ⟨P2, T2, D2, g2, t2, k2⟩ := Sr.draws (A := X.A.in1) (I.ok.hd hc) I hqy h2
    refine wpAny_pyNext_zipD2_end S D1 D2 hz hTI hTO t1 t2 (by omega) (by omega) (by omega) fun h' tk hk => ⟨rfl, I.turnedL (t' := tk) (ch := [z, TI, TO, i1, i2]) (fun c o hb q =>
      hk c o (fun q' => hb (by simp [q'])) (fun q' => hb (by simp [q'])) (fun q' => hb (by simp [q'])) (fun q' => hb (by simp [q'])) q) hf⟩
  self := fun A i s Q E st h => wpAny_pyIter_zip st.1 h
def iZipG (K : PySem.W.Frag) (ta : TA) : TI := fun σ H R => ta σ H fun vs H1 => ∃ (p q : Sr) (xs ys : List V), vs = [p.v, q.v] ∧ p.is K H1 xs ∧ q.is K H1 ys ∧ R (ItzG K p q) H1
theorem pi_zipG {X : Cx} {e e2 : Expr} {ta : TA} {p pos tpos : Pos} {elts : List Expr} {kk : Nat} (hg : Gl X "zip") (hm : X.mg "zip" = none) (ha : PA X [e, e2] ta)
    (hs : starEach [e, e2] X.env = (false, eval e X.env) :: starEach [e2] X.env := by rfl) (hpl : (backTo pos (starEach [e2] X.env)).any (·.1) = false := by rfl) :
    PI X (.Tuple elts kk tpos) (.Call (.Name "zip" p) [e, e2] [] pos) (iZipG X.K ta) := by
  refine ⟨fun pins s σ H R I h => ?_⟩
  refine Call_ (ld_blt I hg hm PyProof.Rows.boot_zip (PyProof.Rows.callWith_type1 (thn (ha.run pos pins s σ H _ I h) fun us s1 ⟨vs, H1, I1, r1, q1⟩ => ?_) hs hpl))
  obtain ⟨a, b, xs, ys, ex, hqx, hqy, q⟩ := q1
  subst ex
  cases r1 with
  | cons r rr =>
    cases rr with
    | cons r' rr =>
      cases rr
      obtain ⟨o1, G1, B1, b1, l1, n1⟩ := Sr.begins I1 hqx r
      obtain ⟨o2, G2, B2, b2, l2, n2⟩ := Sr.begins I1 hqy r'
      have fresh5 : ∀ c, c ∈ [s1.heap.objs.size + 4, s1.heap.objs.size + 2, s1.heap.objs.size + 3, s1.heap.objs.size, s1.heap.objs.size + 1] → FpOk X pins H1 c := fun c hcm => by
        have e' : c = s1.heap.objs.size + 4 ∨ c = s1.heap.objs.size + 2 ∨ c = s1.heap.objs.size + 3 ∨ c = s1.heap.objs.size ∨ c = s1.heap.objs.size + 1 := by simpa using hcm
        have hle : s1.heap.objs.size ≤ c := by
          rcases e' with z | z | z | z | z
          · rw [z]; exact Nat.le_add_right _ _
          · rw [z]; exact Nat.le_add_right _ _
          · rw [z]; exact Nat.le_add_right _ _
          · rw [z]; exact Nat.le_refl _
          · rw [z]; exact Nat.le_add_right _ _
        exact I1.fpOk hle (I1.hok.fresh hle)
      refine zip_begins2 B1 B2 b1 b2 fun h' hz hTI hTO h1 h2 hsz hk => wpAny_pyIter_zip hz ?_
      have I2 : Inv X pins σ H1 { s1 with heap := h' } := I1.kept (t' := s1.toks) hk
      exact ⟨s1.heap.objs.size + 4, [s1.heap.objs.size + 4, s1.heap.objs.size + 2, s1.heap.objs.size + 3, s1.heap.objs.size, s1.heap.objs.size + 1], _, _, H1, rfl, I2, turn_zipG (zip_sep2 l1 l2), ⟨hz, hTI, ⟨_, _, hTO⟩, n1 _ _ (Nat.le_refl _) h1, n2 _ _ (Nat.le_succ _) h2⟩, fresh5, q⟩
/-! ### enumerate -/
set_option maxHeartbeats 1000000 in
theorem meets_enum_new1 {v : Value} {o : Obj} {G : Heap → Prop} (B : Begins v o G) :
    Meets (Builtin.«enumerate.__new__» ⟨[.type "enumerate", v], []⟩) (fun _ R s => G s.heap ∧
      R (.ok (.ret (.ref (s.heap.push o).objs.size))) { s with heap := (s.heap.push o).push { cls := .type "enumerate", data := .fields #[.none, .bool false, .ref s.heap.objs.size, rawInt 0, .none, .none] } }) :=
  .of_wp fun prog w A R s h => by
    obtain ⟨hp, g, d, tk, os⟩ := s; obtain ⟨h1, h⟩ := h
    have hsub := sub_enumerate
    have q1 : ∀ {A' : Around} {E : Value → Shared → Prop} {Q : Value → Shared → Prop}, Q (.ref hp.objs.size) ⟨hp.push o, g, d, tk, os⟩ → wpAny (model prog w) A' (pyIter v) Q E ⟨hp, g, d, tk, os⟩ :=
      fun q => B.iter prog w _ _ ⟨hp, g, d, tk, os⟩ _ h1 q
    wp_walk using q1
    refine wpAny_stack_any fun st => wpAny_pure ?_
    split
    · rename_i c _ _ _ _ _
      cases (c == Value.type "enumerate")
      · wp_walk using q1
        exact ⟨_, rfl, h⟩
      · wp_walk using q1
        exact ⟨_, rfl, h⟩
    · wp_walk using q1
      exact ⟨_, rfl, h⟩
theorem call_enum1 {prog : Program} {w : World} {A : Around} {E : Value → Shared → Prop} {s : Shared} {v : Value} {o : Obj} {G : Heap → Prop} {Q : Value → Shared → Prop} (B : Begins v o G) (h1 : G s.heap)
    (h : ∀ h', IsEnum h' (s.heap.objs.size + 1) s.heap.objs.size 0 .none → h'.get? s.heap.objs.size = some o → h'.objs.size = s.heap.objs.size + 2 →
      (∀ b o, s.heap.get? b = some o → h'.get? b = some o) → Q (.ref (s.heap.objs.size + 1)) { s with heap := h' }) :
    wpAny (model prog w) A (call (.type "enumerate") [v]) Q E s := by
  refine callType_new F.called_enumerate (by decide) (F.typeCall_enumerate_1 _) (F.newCall_enumerate_1 _) (fun obj => F.args_object_init_2 obj _) F.entry_enumerate_new
    (meets_enum_new1 B) ⟨h1, ?_⟩
  have hz : (s.heap.push o).objs.size = s.heap.objs.size + 1 := Heap.size_push ..
  show _ ∧ _
  rw [hz]
  have he : IsEnum ((s.heap.push o).push { cls := .type "enumerate", data := .fields #[.none, .bool false, .ref s.heap.objs.size, rawInt 0, .none, .none] }) (s.heap.objs.size + 1) s.heap.objs.size 0 .none := by
    have := Heap.get?_push_size (s.heap.push o) (o := { cls := .type "enumerate", data := .fields #[.none, .bool false, .ref s.heap.objs.size, rawInt 0, .none, .none] }) rfl
    rw [hz] at this; exact this
  refine ⟨⟨_, he, rfl⟩, h _ he (Heap.get?_push_of_some _ (Heap.get?_push_size _ B.free)) (by rw [Heap.size_push, hz]) fun b o x => Heap.get?_push_of_some _ (Heap.get?_push_of_some _ x)⟩
def ItnG (K : PySem.W.Frag) (p : Sr) : L2.It :=
  ⟨fun i H => ∃ (xs : List V) (x : V), p.is K H xs ∧ xs[i]? = some x,
    fun i H v H' => ∃ T x, v = .ref T ∧ H T = none ∧ H' = upd H T (.tup [.int (i : Nat), x]) ∧ ∀ xs, p.is K H xs → xs[i]? = some x,
    fun i H => ∃ xs : List V, p.is K H xs ∧ i = xs.length⟩
theorem turn_enumG {P : Program} {w : World} {K : PySem.W.Frag} {elts : List Expr} {kk : Nat} {tpos : Pos} {p : Sr} {e it : Addr} (ne : e ≠ it) (no : e ∉ it :: p.own) :
    Turn P w K (.Tuple elts kk tpos) (ItnG K p) [e, it] e (fun i h => (∃ old, IsEnum h e it ((i : Nat) : Int) old) ∧ p.st it i h) where
  mem := by simp
  obj := fun i h st b hb => by
    obtain ⟨⟨old, he⟩, h1⟩ := st
    have e' : b = e ∨ b = it := by simpa using hb
    rcases e' with z | z
    · rw [z]; exact ⟨_, he, fun v q => nomatch q⟩
    · rw [z]; exact Sr.obj h1
  keep := fun i h h' st k => let ⟨⟨old, he⟩, hi⟩ := st; ⟨⟨old, k e (by simp) _ he⟩, Sr.at hi fun o q => k it (by simp) o q⟩
  item := by
    intro X hP hw hK hc i pins s σ H E I hf st hg
    subst hP hw hK
    obtain ⟨⟨old, he⟩, h1⟩ := st
    obtain ⟨xs, x, hq, hx⟩ := hg
    obtain ⟨P1, T1, D1, g1, t1, k1⟩ := Sr.draws (A := X.A.in1) (I.ok.hd hc) I hq h1
    have hel : e < s.heap.objs.size := Heap.lt_size he
    have hil : it < s.heap.objs.size := by obtain ⟨_, q, _⟩ := Sr.obj h1; exact Heap.lt_size q
    refine wpAny_pyNext_enum_itemC D1 he t1 (List.getElem?_eq_some_iff.mp hx).1 ne no fun u h' tk p1 ho hit' hT hsz hk => ?_
    obtain ⟨x', ex, ru⟩ := g1 _ _ p1
    rw [hx] at ex
    cases ex
    refine ⟨_, rfl, wpAny_letOwnedTupleGo_enum (s := { s with heap := h', toks := tk + 1 }) ho fun h'' he' sb => ?_⟩
    have hT2 : h''.get? s.heap.objs.size = some { cls := .type "tuple", data := .seq #[.int i tk, u] } := (sb.2 _ (Nat.ne_of_gt hel)).trans hT
    have new : ObjOk X.prog X.w (upd H s.heap.objs.size (.tup [.int (i : Nat), x])) h'' s.heap.objs.size (.tup [.int (i : Nat), x]) :=
      ⟨by show 2 ≤ sizeLine; decide, [.int i tk, u], .cons ⟨_, rfl⟩ (.cons ru .nil), ⟨_, hT2, rfl, _, rfl⟩⟩
    have I1 : Inv X pins σ (upd H s.heap.objs.size (.tup [.int (i : Nat), x])) { s with heap := h'', toks := tk + 1 } :=
      I.turnedNew (ch := [e, it]) (fun b ob hb q => (sb.2 b (fun z => hb (by simp [z]))).trans (hk b ob (fun z => hb (by simp [z])) (fun z => hb (by simp [z])) q)) hf (Nat.le_refl _) new
    refine ⟨.ref s.heap.objs.size, _, I1, rfl, ⟨_, x, rfl, I.hok.fresh (Nat.le_refl _), rfl, fun ys hy => by rw [Sr.inj I hy hq]; exact hx⟩, ⟨⟨u, ?_⟩, Sr.at (k1 _ _ hit') fun o q => (sb.2 it (Ne.symm ne)).trans q⟩, fun b hb => ?_⟩
    · have e1 : ((i + 1 : Nat) : Int) = (i : Int) + 1 := by omega
      rw [e1]; exact he'
    · have hb' : b < s.heap.objs.size := by
        have e' : b = e ∨ b = it := by simpa using hb
        rcases e' with z | z
        · rw [z]; exact hel
        · rw [z]; exact hil
      rw [upd_ne (Nat.ne_of_lt hb')]
      exact (hf b hb).1
  done := by
    intro X hP hw hK hc i pins s σ H E I hf st hg
    subst hP hw hK
    obtain ⟨⟨old, he⟩, h1⟩ := st
    obtain ⟨xs, hq, hx⟩ := hg
    obtain ⟨P1, T1, D1, g1, t1, k1⟩ := Sr.draws (A := X.A.in1) (I.ok.hd hc) I hq h1
    subst hx
    obtain ⟨f0, f1, f2, f3, f4, f5⟩ := hf it (by simp)
    exact wpAny_pyNext_enum_endD D1 he t1 fun h' eb => ⟨rfl, I.turned (t' := s.toks) (fun b o hb q => eb b o hb q) f0 f1 f3 f4 f5⟩
  self := fun A i s Q E st h => let ⟨⟨_, he⟩, _⟩ := st; wpAny_pyIter_enum he h
def iEnumG (K : PySem.W.Frag) (ta : TA) : TI := fun σ H R => ta σ H fun vs H1 => ∃ (p : Sr) (xs : List V), vs = [p.v] ∧ p.is K H1 xs ∧ R (ItnG K p) H1
theorem pi_enumG {X : Cx} {e : Expr} {ta : TA} {p pos tpos : Pos} {elts : List Expr} {kk : Nat} (hg : Gl X "enumerate") (hm : X.mg "enumerate" = none) (ha : PA X [e] ta) (hs : starEach [e] X.env = [(false, eval e X.env)] := by rfl) :
    PI X (.Tuple elts kk tpos) (.Call (.Name "enumerate" p) [e] [] pos) (iEnumG X.K ta) := by
  refine ⟨fun pins s σ H R I h => ?_⟩
  refine Call_ (ld_blt I hg hm boot_enumerate (PyProof.Rows.callWith_type1 (thn (ha.run pos pins s σ H _ I h) fun us s1 ⟨vs, H1, I1, r1, q1⟩ => ?_) hs rfl))
  obtain ⟨a, xs, ex, hq, q⟩ := q1
  subst ex
  cases r1 with
  | cons r rr =>
    cases rr
    obtain ⟨o1, G1, B1, b1, l1, n1⟩ := Sr.begins I1 hq r
    refine call_enum1 B1 b1 fun h' he ho hsz hk => wpAny_pyIter_enum he ?_
    have I2 : Inv X pins σ H1 { s1 with heap := h' } := I1.kept (t' := s1.toks) hk
    refine ⟨s1.heap.objs.size + 1, [s1.heap.objs.size + 1, s1.heap.objs.size], _, _, H1, rfl, I2, turn_enumG (p := a) (e := s1.heap.objs.size + 1) (it := s1.heap.objs.size) (Nat.succ_ne_self _) (fun z => ?_), ⟨⟨.none, he⟩, n1 _ _ (Nat.le_refl _) ho⟩, fun b hb => ?_, q⟩
    · rcases List.mem_cons.mp z with z | z
      · exact Nat.succ_ne_self _ z
      · exact absurd (l1 _ z) (Nat.not_lt.mpr (Nat.le_succ _))
    · have e' : b = s1.heap.objs.size + 1 ∨ b = s1.heap.objs.size := by simpa using hb
      have hle : s1.heap.objs.size ≤ b := by
        rcases e' with z | z
        · rw [z]; exact Nat.le_add_right _ _
        · rw [z]; exact Nat.le_refl _
      exact I1.fpOk hle (I1.hok.fresh hle)
end Kb

set_option Elab.async false
set_option linter.all false
set_option maxRecDepth 100000
set_option maxHeartbeats 4000000
/-! KbLk: a frozen dict is locked: it may be walked. -/
namespace Kb
open PySem PySem.Spec PyProof.Rows L2 TL
section
variable {X : Cx} {N : Cn} {W : WX} {tg e : Expr} {md : M D}
theorem tabs_upd' {T : List (Addr × Str)} {H : Hp} {D : Addr} {o u : HO} (t : LamX.Tabs T H) (hD : H D = some o) (n1 : ∀ ps, o ≠ .tbl ps) (n2 : ∀ c q, o ≠ LamX.CodeO c q) : LamX.Tabs T (upd H D u) := fun p hp => by
  obtain ⟨ps, h1, h2, h3⟩ := t p hp
  have ne : p.1 ≠ D := fun z => by rw [z, hD] at h1; cases h1; exact n1 ps rfl
  refine ⟨ps, by rw [upd_ne ne]; exact h1, h2, fun pos cv hc => ?_⟩
  obtain ⟨c, e1, e2⟩ := h3 pos cv hc
  refine ⟨c, e1, ?_⟩
  have ne : c ≠ D := fun z => by rw [z, hD] at e2; cases e2; exact n2 _ _ rfl
  rw [upd_ne ne]; exact e2
theorem SR.lock {γ : Gh} {σ : L2.St} {H : Hp} {s : S} {a : Addr} {kvs : List (Key × V)} (r : SR N γ σ H s) (f : γ.F a) (hD : H a = some (.dK kvs)) (od : Obj) :
    SR N γ σ (upd H a (.frz od (.dK kvs))) s ∧ Xe γ σ H s γ (upd H a (.frz od (.dK kvs))) s := by
  have stl : ∀ b o, H b = some o → ∀ g : Prop, (b = a → g) → Stl g (upd H a (.frz od (.dK kvs))) b o := fun b o h g hg => by
    by_cases z : b = a
    · subst z
      rw [hD] at h
      cases h
      exact .inr ⟨hg rfl, kvs, od, rfl, upd_same⟩
    · exact .inl (by rw [upd_ne z]; exact h)
  have K : Keep γ H γ (upd H a (.frz od (.dK kvs))) := ⟨fun _ _ h => h, fun _ h => h, fun b o _ h _ => stl b o h True fun _ => trivial⟩
  have ne : ∀ b, ¬γ.F b → b ≠ a := fun b n z => n (by rw [z]; exact f)
  refine ⟨⟨⟨r.hr.nd, r.hr.len, fun k xs h => ?_, r.hr.nf, fun b hb n => ?_, tabs_upd' r.hr.tabs hD (fun _ z => nomatch z) (fun _ _ z => nomatch z), r.hr.kb.trans K, cf_upd r.hr.cf (fun _ _ z => nomatch z)⟩, r.len, fun i d h => ?_, fun i xs h => ?_, fun i t ks ds h => ?_, r.sep, r.nf, r.exc⟩, ?_⟩
  · obtain ⟨b, vs, h1, h2, h3⟩ := r.hr.at_ k xs h
    exact ⟨b, vs, h1, by rw [upd_ne (ne b (r.hr.nf b (List.mem_of_getElem? h1)))]; exact h2, h3.keep K⟩
  · exact r.hr.fz b hb (nn_upd n (fun _ z => nomatch z)).2
  · obtain ⟨v, h1, h2⟩ := r.val i d h
    exact ⟨v, h1, h2.keep K⟩
  · obtain ⟨b, vs, h1, h2, h3⟩ := r.own i xs h
    exact ⟨b, vs, h1, by rw [upd_ne (ne b (r.nf i b (.inl ⟨xs, h⟩) h1).1)]; exact h2, h3.keep K⟩
  · obtain ⟨b, vs, o, h1, h2, h3, h4⟩ := r.ownd i t ks ds h
    exact ⟨b, vs, o, h1, h2, by rw [upd_ne (ne b (r.nf i b (.inr ⟨t, ks, ds, h⟩) h1).1)]; exact h3, h4.keep K⟩
  · exact ⟨fun _ _ h => h, fun _ h => h, fun b o h _ _ => stl b o h _ fun z => by rw [z]; exact f, fun _ h => .inl h, fun _ h => .inl h, fun b h => (nn_upd h (fun _ z => nomatch z)).2, fun _ h => h⟩
theorem pe_lockNow {td : TE} (he : PE X e td) : PE X e (fun σ H Q => td σ H fun x H1 => Q x H1 ∨ ∃ d u, x = .ref d ∧ H1 d = some u ∧ Mut (some u) ∧ ∀ od, Q x (upd H1 d (.frz od u))) := by
  refine ⟨fun pins s σ H Q I h => ?_⟩
  refine thn (he.run pins s σ H _ I h) fun v s1 ⟨x, H1, I1, rx, q⟩ => ?_
  rcases q with q | ⟨d, u, rfl, hd, mu, q⟩
  · exact ⟨x, H1, I1, rx, q⟩
  · obtain ⟨od, I2⟩ := I1.lock hd mu
    exact ⟨_, _, I2, rx, q od⟩
end
end Kb

set_option Elab.async false
set_option linter.all false
set_option maxRecDepth 100000
set_option maxHeartbeats 4000000
/-! KbIt: what is walked, targets, comprehensions. -/
namespace Kb
open PySem PySem.Spec PyProof.Rows L2 TL

/-! ### what is walked -/
structure WalkOk (N : Cn) (γ0 : Gh) (H0 : Hp) (J : L2.It) (items : List D) : Prop where
  go : ∀ γ H, Keep γ0 H0 γ H → ∀ i, i < items.length → J.go i H
  stop : ∀ γ H, Keep γ0 H0 γ H → J.stop items.length H
  yld : ∀ γ H, Keep γ0 H0 γ H → ∀ (i : Nat) d, items[i]? = some d → ∀ x H', J.yld i H x H' → Res N γ H (.val d) x H'
def RI (N : Cn) : RelT (List D) L2.It := fun _ _ γ' H' items J => WalkOk N γ' H' J items
theorem RI.late {N : Cn} : Late (RI N) := fun _ _ _ _ _ _ _ _ _ _ h => h
section
variable {X : Cx} {N : Cn} {W : WX} {tg e : Expr} {es : List Expr} {pos p1 p2 : Pos} {m m1 m2 : M Sl} {md : M D} {ms : M (List D)} {mi : M (List D)} {fr : Prop}
theorem _root_.L2.PI.imp {wi wi' : TI} (h : PI X tg e wi) (k : ∀ σ H Q, wi' σ H Q → wi σ H Q) : PI X tg e wi' := ⟨fun pins s σ H Q I q => h.run pins s σ H Q I (k _ _ _ q)⟩
theorem _root_.L2.PI.or {wi wi' : TI} (h : PI X tg e wi) (h' : PI X tg e wi') : PI X tg e (fun σ H Q => wi σ H Q ∨ wi' σ H Q) := ⟨fun pins s σ H Q I q => q.elim (h.run pins s σ H Q I) (h'.run pins s σ H Q I)⟩
theorem sqL_inj {K : Fg} {H : Hp} {a : Addr} {xs ys : List V} (h : H a = some (.lst xs)) (h' : SqL K H a ys) (kn : K.lookup a = none ∨ True) : H a = some (.lst ys) ∨ ∃ o, K.lookup a = some o := by
  rcases h' with (h' | ⟨o, h'⟩) | ⟨o, _, _, q, _⟩
  · exact .inl h'
  · rw [h] at h'; cases h'
  · exact .inr ⟨o, q⟩
theorem walk_list {γ : Gh} {H : Hp} {ds : List D} {x : V} (hK : N.K = X.K) (h : Rel N γ H (.lst ds) x) : ∃ a, x = .ref a ∧ (∃ xs, SqL X.K H a xs) ∧ WalkOk N γ H (Itl X.K a) ds := by
  obtain ⟨a, vs, rfl, ⟨f, h1⟩, h2⟩ := h
  refine ⟨a, rfl, ⟨vs, .inl (.inl h1)⟩, fun γ' H' k i hi => ?_, fun γ' H' k => ?_, fun γ' H' k i d hd x H2 hy => ?_⟩
  · obtain ⟨v, hv, _⟩ := h2.get (List.getElem?_eq_getElem hi)
    exact ⟨vs, v, .inl (.inl (k.fr _ _ f h1 (fun _ z => nomatch z))), hv⟩
  · exact ⟨vs, .inl (.inl (k.fr _ _ f h1 (fun _ z => nomatch z))), by rw [h2.length]; exact Nat.le_refl _⟩
  · obtain ⟨rfl, hx⟩ := hy
    obtain ⟨v, hv, hr⟩ := (h2.keep k).get hd
    have := hx vs (.inl (.inl (k.fr _ _ f h1 (fun _ z => nomatch z))))
    rw [hv] at this
    cases this
    exact .same hr
theorem walk_tup {γ : Gh} {H : Hp} {ds : List D} {x : V} (hK : N.K = X.K) (h : Rel N γ H (.tup ds) x) : ∃ a, x = .ref a ∧ (∃ xs, SqT X.K H a xs) ∧ WalkOk N γ H (Itt X.K a) ds := by
  obtain ⟨a, vs, rfl, h1, h2⟩ := h
  have sq : ∀ γ' H', Keep γ H γ' H' → SqT X.K H' a vs := fun γ' H' k => hK ▸ (h1.keep k).sq
  refine ⟨a, rfl, ⟨vs, hK ▸ h1.sq⟩, fun γ' H' k i hi => ?_, fun γ' H' k => ?_, fun γ' H' k i d hd x H2 hy => ?_⟩
  · obtain ⟨v, hv, _⟩ := h2.get (List.getElem?_eq_getElem hi)
    exact ⟨vs, v, sq _ _ k, hv⟩
  · exact ⟨vs, sq _ _ k, by rw [h2.length]; exact Nat.le_refl _⟩
  · obtain ⟨rfl, hx⟩ := hy
    obtain ⟨v, hv, hr⟩ := (h2.keep k).get hd
    have := hx vs (sq _ _ k)
    rw [hv] at this
    cases this
    exact .same hr
theorem walk_str {γ : Gh} {H : Hp} {l : List Nat} (t : Txt l) : WalkOk N γ H (Its (St l)) (l.map fun c => .str [c]) := by
  refine ⟨fun γ' H' k i hi => ?_, fun γ' H' k => ?_, fun γ' H' k i d hd x H2 hy => ?_⟩
  · rw [List.length_map] at hi
    show i < (St l).cps.size
    simpa [St] using hi
  · rw [List.length_map]
    show (St l).cps.size ≤ l.length
    simp [St]
  · obtain ⟨rfl, c, hc, rfl⟩ := hy
    rw [List.getElem?_map] at hd
    have hc : l[i]? = some c := by simpa [St] using hc
    rw [hc] at hd
    cases hd
    refine .same ⟨rfl, fun z hz => ?_⟩
    have : z = c := by simpa using hz
    subst this
    exact t z (List.mem_of_getElem? hc)
theorem rangeD_get : ∀ (n : Nat) (a : Int) (i : Nat), (rangeD n a)[i]? = if i < n then some (.int (a + i)) else none
  | 0, a, i => by simp [rangeD]
  | n + 1, a, 0 => by simp [rangeD]
  | n + 1, a, i + 1 => by
    show (rangeD n (a + 1))[i]? = _
    rw [rangeD_get n (a + 1) i]
    by_cases h : i < n
    · rw [if_pos h, if_pos (by omega)]
      have : a + 1 + (i : Int) = a + ((i + 1 : Nat) : Int) := by omega
      rw [this]
    · rw [if_neg h, if_neg (by omega)]
theorem rangeD_len (n : Nat) (a : Int) : (rangeD n a).length = n := by
  induction n generalizing a with
  | zero => rfl
  | succ n ih => show (rangeD n (a + 1)).length + 1 = _; rw [ih]
theorem walk_range {γ : Gh} {H : Hp} (n : Nat) (a : Int) : WalkOk N γ H (Itr a n) (rangeD n a) := by
  refine ⟨fun γ' H' k i hi => ?_, fun γ' H' k => ?_, fun γ' H' k i d hd x H2 hy => ?_⟩
  · rw [rangeD_len] at hi; exact hi
  · rw [rangeD_len]; exact Nat.le_refl _
  · obtain ⟨rfl, rfl⟩ := hy
    rw [rangeD_get] at hd
    split at hd
    · cases hd
      exact .same rfl
    · cases hd
theorem zipK_get : ∀ {ks : List Ky} {vs : List V} {kvs : List (Key × V)} {i : Nat} {k : Key} {v : V}, zipK ks vs = some kvs → kvs[i]? = some (k, v) → ∃ q, ks[i]? = some (.a q) ∧ k = keyK q
  | [], [], kvs, i, k, v, h, e => by cases h; simp at e
  | .a q :: ks, u :: vs, kvs, i, k, v, h, e => by
    unfold zipK at h
    cases z : zipK ks vs with
    | none => rw [z] at h; cases h
    | some r =>
      rw [z] at h
      cases h
      cases i with
      | zero => cases e; exact ⟨q, rfl, rfl⟩
      | succ i => exact zipK_get (i := i) z e
  | .t _ :: _, [], _, _, _, _, h, _ => by cases h
  | .t _ :: _, _ :: _, _, _, _, _, h, _ => by cases h
  | .a _ :: _, [], _, _, _, _, h, _ => by cases h
  | [], _ :: _, _, _, _, _, h, _ => by cases h
theorem walk_keys {γ : Gh} {H : Hp} {a : Addr} {od : Obj} {ks : List Ky} {vs : List V} {kvs : List (Key × V)} (f : γ.F a) (hD : H a = some (.frz od (.dK kvs))) (z : zipK ks vs = some kvs) (tx : ks.all txtKy = true) : WalkOk N γ H (Itk a od kvs) (ks.map Ky.d) := by
  have hl := (zipK_len z).1
  have st : ∀ γ' H', Keep γ H γ' H' → H' a = some (.frz od (.dK kvs)) := fun γ' H' k => k.fr a _ f hD (fun _ z => nomatch z)
  refine ⟨fun γ' H' k i hi => ⟨st _ _ k, by rw [List.length_map] at hi; omega⟩, fun γ' H' k => ⟨st _ _ k, by rw [List.length_map]; omega⟩, fun γ' H' k i d hd x H2 hy => ?_⟩
  obtain ⟨rfl, q, v, e1, rfl⟩ := hy
  obtain ⟨ka, e2, rfl⟩ := zipK_get z e1
  rw [List.getElem?_map, e2] at hd
  cases hd
  cases ka with
  | i n => exact .same rfl
  | s x =>
    refine .same ⟨rfl, fun c hc => ?_⟩
    have := List.all_eq_true.mp tx _ (List.mem_of_getElem? e2)
    exact of_decide_eq_true (List.all_eq_true.mp this c hc)
theorem it_ex (hK : N.K = X.K) (he : PE X e (TT' N W (RD N) md)) : PI X tg e (TT' N W (RI N) (bnd md fun d => lft (itemsX d))) := by
  have h1 := pi_list (tg := tg) he
  have h2 := pi_tup (tg := tg) he
  have h3 := pi_str (tg := tg) he
  have h4 := pi_keys (tg := tg) (pe_lockNow he)
  refine (((h1.or h2).or h3).or h4).imp fun σ H R ⟨γ, s, r, h⟩ => ?_
  have key : ∀ {d s1}, md s = some (.ok d s1) → ∀ {γ1 H1}, SR N γ1 σ H1 s1 → Post N W (RI N) γ1 σ H1 s1 (lft (itemsX d) s1) R → ∀ {items J}, itemsX d = some items → WalkOk N γ1 H1 J items → R J H1 := by
    intro d s1 em γ1 H1 r1 h1 items J ei hw
    unfold lft at h1
    rw [ei] at h1
    exact h1 γ1 H1 J r1 (Xe.refl ..) hw
  by_cases c0 : ∃ ks ds s', md s = some (.ok (.dic ks ds) s')
  · refine .inr ⟨γ, s, r, (h.bnd RI.late).mono fun x H1 ⟨d, s1, γ1, em, r1, x1, rel, h4⟩ => ?_⟩
    obtain ⟨ks, ds, s', ev⟩ := c0
    rw [em] at ev
    cases ev
    obtain ⟨a, vs, rfl, ⟨f, t, o, eo, rd⟩, rl⟩ := rel
    obtain ⟨rfl, tx, kvs, z, rfl⟩ := dicO_inv eo
    rcases rd with hD | ⟨od, hD⟩
    · refine .inr ⟨a, .dK kvs, rfl, hD, trivial, fun od => ⟨a, od, rfl, .inl ⟨kvs, upd_same, ?_⟩⟩⟩
      obtain ⟨r2, x2⟩ := r1.lock f hD od
      have h4 : Post N W (RI N) γ1 σ H1 s1 (some (.ok (ks.map Ky.d) s1)) R := h4
      exact h4 γ1 _ _ r2 x2 (walk_keys f upd_same z tx)
    · exact .inl ⟨a, od, rfl, .inl ⟨kvs, hD, key em r1 h4 rfl (walk_keys f hD z tx)⟩⟩
  · by_cases c1 : ∃ l s', md s = some (.ok (.str l) s')
    · refine .inl (.inr ⟨γ, s, r, (h.bnd RI.late).mono fun x H1 ⟨d, s1, γ1, em, r1, x1, rel, h4⟩ => ?_⟩)
      obtain ⟨l, s', ev⟩ := c1
      rw [em] at ev
      cases ev
      obtain ⟨rfl, t⟩ := rel
      exact ⟨St l, rfl, key em r1 h4 rfl (walk_str t)⟩
    · by_cases c2 : ∃ l s', md s = some (.ok (.tup l) s')
      · refine .inl (.inl (.inr ⟨γ, s, r, (h.bnd RI.late).mono fun x H1 ⟨d, s1, γ1, em, r1, x1, rel, h4⟩ => ?_⟩))
        obtain ⟨l, s', ev⟩ := c2
        rw [em] at ev
        cases ev
        obtain ⟨a, e1, e2, e3⟩ := walk_tup hK rel
        exact ⟨a, e1, e2, key em r1 h4 rfl e3⟩
      · refine .inl (.inl (.inl ⟨γ, s, r, (h.bnd RI.late).mono fun x H1 ⟨d, s1, γ1, em, r1, x1, rel, h4⟩ => ?_⟩))
        cases d with
        | lst l =>
          obtain ⟨a, e1, e2, e3⟩ := walk_list hK rel
          exact ⟨a, e1, e2, key em r1 h4 rfl e3⟩
        | str l => exact absurd ⟨l, s1, em⟩ c1
        | tup l => exact absurd ⟨l, s1, em⟩ c2
        | dic l q => exact absurd ⟨l, q, s1, em⟩ c0
        | _ => exact h4.elim
theorem it_range1 (hg : Gl X "range") (hm : X.mg "range" = none) (ha : PE X e (TT' N W (RD N) md)) (hs : notStar e = true) : PI X tg (.Call (.Name "range" p1) [e] [] pos) (TT' N W (RI N) (bnd (bnd md fun d => bnd (pur []) fun ds => pur (d :: ds)) fun ds => (match ds with
    | [.int n] => if decide (-4611686018427387904 ≤ n) && decide (n < 4611686018427387904) then pur (rangeD n.toNat 0) else stk
    | [.int a, .int b] => if decide (-4611686018427387904 ≤ a) && decide (a < 4611686018427387904) && decide (-4611686018427387904 ≤ b) && decide (b < 4611686018427387904) then pur (rangeD (b - a).toNat a) else stk
    | _ => stk))) :=
  (pi_range1 hg hm (as_cons ha as_nil hs) (star_of hs)).imp fun σ H R ⟨γ, s, r, h⟩ => ⟨γ, s, r, (h.bnd RI.late).mono fun xs H1 ⟨ds, s1, γ1, em, r1, x1, rel, h1⟩ => by
    obtain ⟨d, s2, _, em⟩ := bnd_ok em
    cases em
    obtain ⟨v, rr, e1, h2, h3⟩ := rel
    have h3 : rr = [] := h3
    subst h3
    subst e1
    cases d with
    | int n =>
      cases h2
      have h1 : Post N W (RI N) γ1 σ H1 s1 ((if (decide (-4611686018427387904 ≤ n) && decide (n < 4611686018427387904)) = true then pur (rangeD n.toNat 0) else stk) s1) R := h1
      split at h1
      · rename_i c
        obtain ⟨c1, c2⟩ := ands c
        exact ⟨n, rfl, of_decide_eq_true c1, of_decide_eq_true c2, h1 γ1 H1 _ r1 (Xe.refl ..) (walk_range _ _)⟩
      · exact h1.elim
    | _ => exact h1.elim⟩
theorem it_range2 {e2 : Expr} {md2 : M D} (hg : Gl X "range") (hm : X.mg "range" = none) (ha : PE X e (TT' N W (RD N) md)) (hb : PE X e2 (TT' N W (RD N) md2)) (hs : notStar e = true) (hs2 : notStar e2 = true) :
    PI X tg (.Call (.Name "range" p1) [e, e2] [] pos) (TT' N W (RI N) (bnd (bnd md fun d => bnd (bnd md2 fun d => bnd (pur []) fun ds => pur (d :: ds)) fun ds => pur (d :: ds)) fun ds => (match ds with
    | [.int n] => if decide (-4611686018427387904 ≤ n) && decide (n < 4611686018427387904) then pur (rangeD n.toNat 0) else stk
    | [.int a, .int b] => if decide (-4611686018427387904 ≤ a) && decide (a < 4611686018427387904) && decide (-4611686018427387904 ≤ b) && decide (b < 4611686018427387904) then pur (rangeD (b - a).toNat a) else stk
    | _ => stk))) :=
  (pi_range2 hg hm (as_cons ha (as_cons hb as_nil hs2) hs) (by rw [star_of hs, star_of hs2]; rfl) (by rw [star_of hs2]; rfl)).imp fun σ H R ⟨γ, s, r, h⟩ => ⟨γ, s, r, (h.bnd RI.late).mono fun xs H1 ⟨ds, s1, γ1, em, r1, x1, rel, h1⟩ => by
    obtain ⟨d, s2, _, em⟩ := bnd_ok em
    obtain ⟨ds2, s3, em2, em⟩ := bnd_ok em
    cases em
    obtain ⟨d2, s4, _, em2⟩ := bnd_ok em2
    cases em2
    obtain ⟨v, rr, e1, h2, v2, rr2, e2, h3, h4⟩ := rel
    have h4 : rr2 = [] := h4
    subst h4
    subst e2
    subst e1
    cases d with
    | int a =>
      cases d2 with
      | int b =>
        cases h2
        cases h3
        have h1 : Post N W (RI N) γ1 σ H1 s1 ((if (decide (-4611686018427387904 ≤ a) && decide (a < 4611686018427387904) && decide (-4611686018427387904 ≤ b) && decide (b < 4611686018427387904)) = true then pur (rangeD (b - a).toNat a) else stk) s1) R := h1
        split at h1
        · rename_i c
          obtain ⟨c, c4⟩ := ands c
          obtain ⟨c, c3⟩ := ands c
          obtain ⟨c1, c2⟩ := ands c
          exact ⟨a, b, rfl, ⟨of_decide_eq_true c1, of_decide_eq_true c2, of_decide_eq_true c3, of_decide_eq_true c4⟩, h1 γ1 H1 _ r1 (Xe.refl ..) (walk_range _ _)⟩
        · exact h1.elim
      | _ => exact h1.elim
    | _ => exact h1.elim⟩
/-! zip -/
theorem zipD_get : ∀ {xs ys : List D} {i : Nat} {d : D}, (zipD xs ys)[i]? = some d → ∃ a b, xs[i]? = some a ∧ ys[i]? = some b ∧ d = .tup [a, b]
  | [], _, i, d, h => by cases h
  | _ :: _, [], i, d, h => by cases h
  | x :: xs, y :: ys, 0, d, h => by cases h; exact ⟨x, y, rfl, rfl, rfl⟩
  | x :: xs, y :: ys, i + 1, d, h => zipD_get (xs := xs) (ys := ys) (i := i) h
theorem zipD_len : ∀ {xs ys : List D}, (zipD xs ys).length = min xs.length ys.length
  | [], _ => by simp [zipD]
  | _ :: _, [] => by simp [zipD]
  | x :: xs, y :: ys => by simp [zipD, zipD_len (xs := xs) (ys := ys)] <;> omega
theorem walkSr {γ : Gh} {H : Hp} {d : D} {items : List D} {v : V} (hK : N.K = X.K) (h : itemsD d = some items) (r : Rel N γ H d v) : ∃ (p : Sr) (vs : List V), v = p.v ∧ ∀ γ' H', Keep γ H γ' H' → p.is X.K H' vs ∧ RelL N γ' H' items vs := by
  cases d with
  | lst l =>
    cases h
    obtain ⟨a, us, rfl, ⟨f, h1⟩, h2⟩ := r
    exact ⟨.lst a, us, rfl, fun γ' H' k => ⟨.inl (.inl (k.fr _ _ f h1 (fun _ z => nomatch z))), h2.keep k⟩⟩
  | tup l =>
    cases h
    obtain ⟨a, us, rfl, h1, h2⟩ := r
    exact ⟨.tup a, us, rfl, fun γ' H' k => ⟨hK ▸ (h1.keep k).sq, h2.keep k⟩⟩
  | str l =>
    cases h
    obtain ⟨rfl, t⟩ := r
    refine ⟨.txt (St l), l.map fun c => V.str ⟨#[c]⟩, rfl, fun γ' H' k => ⟨?_, ?_⟩⟩
    · show _ = _
      simp [St]
    · induction l with
      | nil => exact RelL.nil_iff.mpr rfl
      | cons c l ih =>
        refine .cons ⟨rfl, fun z hz => ?_⟩ (ih fun z hz => t z (List.mem_cons_of_mem _ hz))
        have : z = c := by simpa using hz
        subst this
        exact t z (List.mem_cons_self ..)
  | _ => cases h
theorem walk_zipG {γ : Gh} {H : Hp} {xs ys : List D} {p q : Sr} {us ws : List V} (h : ∀ γ' H', Keep γ H γ' H' → p.is X.K H' us ∧ RelL N γ' H' xs us) (h' : ∀ γ' H', Keep γ H γ' H' → q.is X.K H' ws ∧ RelL N γ' H' ys ws) : WalkOk N γ H (ItzG X.K p q) (zipD xs ys) := by
  refine ⟨fun γ' H' k i hi => ?_, fun γ' H' k => ?_, fun γ' H' k i d hd v H2 hy => ?_⟩
  · rw [zipD_len] at hi
    obtain ⟨s1, r1⟩ := h _ _ k
    obtain ⟨s2, r2⟩ := h' _ _ k
    obtain ⟨u, hu, _⟩ := r1.get (List.getElem?_eq_getElem (show i < xs.length by omega))
    obtain ⟨w, hw, _⟩ := r2.get (List.getElem?_eq_getElem (show i < ys.length by omega))
    exact ⟨us, ws, u, w, s1, s2, hu, hw⟩
  · obtain ⟨s1, r1⟩ := h _ _ k
    obtain ⟨s2, r2⟩ := h' _ _ k
    exact ⟨us, ws, s1, s2, by rw [zipD_len, r1.length, r2.length]⟩
  · obtain ⟨T, u, w, rfl, nT, rfl, c1, c2⟩ := hy
    obtain ⟨d1, d2, e1, e2, rfl⟩ := zipD_get hd
    obtain ⟨s1, r1⟩ := h _ _ k
    obtain ⟨s2, r2⟩ := h' _ _ k
    obtain ⟨u', hu, q1⟩ := r1.get e1
    obtain ⟨w', hw, q2⟩ := r2.get e2
    have := c1 us s1
    rw [hu] at this
    cases this
    have := c2 ws s2
    rw [hw] at this
    cases this
    exact .tup nT (.cons q1 (.cons q2 (RelL.nil_iff.mpr rfl)))
theorem it_zip {e2 : Expr} {elts : List Expr} {kk : Nat} {tpos : Pos} (hK : N.K = X.K) (hg : Gl X "zip") (hm : X.mg "zip" = none) (ha : PA X [e, e2] (TT' N W (RDs N) ms)) (hs : notStar e = true) (hs2 : notStar e2 = true) :
    PI X (.Tuple elts kk tpos) (.Call (.Name "zip" p1) [e, e2] [] pos) (TT' N W (RI N) (bnd ms fun ds => lft (zipI ds))) :=
  (pi_zipG hg hm ha (star_of hs) (by rw [star_of hs2]; rfl)).imp fun σ H R ⟨γ, s, r, h⟩ => ⟨γ, s, r, (h.bnd RI.late).mono fun xs H1 ⟨ds, s1, γ1, em, r1, x1, rel, h1⟩ => by
    obtain ⟨v, ev, k⟩ := h1.lft
    unfold zipI at ev
    split at ev
    · rename_i a b
      split at ev
      · rename_i us ws ea eb
        cases ev
        obtain ⟨x, t, rfl, q1, q2⟩ := rel
        obtain ⟨y, t, rfl, q3, q4⟩ := q2
        cases (RelL.nil_iff.mp q4)
        obtain ⟨p, vs, rfl, z1⟩ := walkSr (X := X) hK ea q1
        obtain ⟨q, ws', rfl, z2⟩ := walkSr (X := X) hK eb q3
        exact ⟨p, q, vs, ws', rfl, (z1 _ _ (Keep.refl ..)).1, (z2 _ _ (Keep.refl ..)).1, k γ1 H1 _ r1 (Xe.refl ..) (walk_zipG z1 z2)⟩
      · cases ev
    · cases ev⟩
/-! enumerate -/
theorem enumD_get : ∀ {xs : List D} {n i : Nat} {d : D}, (enumD xs n)[i]? = some d → ∃ a, xs[i]? = some a ∧ d = .tup [.int ((n + i : Nat) : Int), a]
  | [], n, i, d, h => by cases h
  | x :: xs, n, 0, d, h => by cases h; exact ⟨x, rfl, rfl⟩
  | x :: xs, n, i + 1, d, h => by
    obtain ⟨a, h1, h2⟩ := enumD_get (xs := xs) (n := n + 1) (i := i) h
    exact ⟨a, h1, by rw [h2, show n + 1 + i = n + (i + 1) by omega]⟩
theorem enumD_len : ∀ {xs : List D} {n : Nat}, (enumD xs n).length = xs.length
  | [], _ => rfl
  | x :: xs, n => by show (enumD xs (n + 1)).length + 1 = _; rw [enumD_len (xs := xs)]; rfl
theorem walk_enumG {γ : Gh} {H : Hp} {xs : List D} {p : Sr} {us : List V} (h : ∀ γ' H', Keep γ H γ' H' → p.is X.K H' us ∧ RelL N γ' H' xs us) : WalkOk N γ H (ItnG X.K p) (enumD xs 0) := by
  refine ⟨fun γ' H' k i hi => ?_, fun γ' H' k => ?_, fun γ' H' k i d hd v H2 hy => ?_⟩
  · rw [enumD_len] at hi
    obtain ⟨s1, r1⟩ := h _ _ k
    obtain ⟨u, hu, _⟩ := r1.get (List.getElem?_eq_getElem hi)
    exact ⟨us, u, s1, hu⟩
  · obtain ⟨s1, r1⟩ := h _ _ k
    exact ⟨us, s1, by rw [enumD_len, r1.length]⟩
  · obtain ⟨T, u, rfl, nT, rfl, c1⟩ := hy
    obtain ⟨d1, e1, rfl⟩ := enumD_get hd
    obtain ⟨s1, r1⟩ := h _ _ k
    obtain ⟨u', hu, q1⟩ := r1.get e1
    have := c1 us s1
    rw [hu] at this
    cases this
    rw [Nat.zero_add]
    exact .tup nT (.cons rfl (.cons q1 (RelL.nil_iff.mpr rfl)))
theorem it_enum {elts : List Expr} {kk : Nat} {tpos : Pos} (hK : N.K = X.K) (hg : Gl X "enumerate") (hm : X.mg "enumerate" = none) (he : PE X e (TT' N W (RD N) md)) (hs : notStar e = true) :
    PI X (.Tuple elts kk tpos) (.Call (.Name "enumerate" p1) [e] [] pos) (TT' N W (RI N) (bnd md fun d => lft ((itemsD d).map fun xs => enumD xs 0))) :=
  (pi_enumG hg hm (as_cons he as_nil hs) (star_of hs)).imp fun σ H R ⟨γ, s, r, h⟩ => ⟨γ, s, r, by
    have h2 : Post N W (RI N) γ σ H s ((bnd (bnd md fun d => bnd (pur []) fun ds => pur (d :: ds)) fun ds => match ds with
      | [d] => lft ((itemsD d).map fun xs => enumD xs 0)
      | _ => stk) s) R := by
      unfold Kb.bnd at h ⊢
      cases e : md s with
      | none => rw [e] at h; exact h
      | some q => rw [e] at h; cases q <;> exact h
    refine (h2.bnd RI.late).mono fun xs H1 ⟨ds, s1, γ1, em, r1, x1, rel, h1⟩ => ?_
    obtain ⟨d, s2, _, em⟩ := bnd_ok em
    cases em
    obtain ⟨v, rr, e1, h3, h4⟩ := rel
    have h4 : rr = [] := h4
    subst h4
    subst e1
    obtain ⟨v, ev, k⟩ := Post.lft h1
    obtain ⟨us, eu, rfl⟩ := Option.map_some_inv ev
    obtain ⟨p, vs, rfl, z1⟩ := walkSr (X := X) hK eu h3
    exact ⟨p, vs, rfl, (z1 _ _ (Keep.refl ..)).1, k γ1 H1 _ r1 (Xe.refl ..) (walk_enumG z1)⟩⟩
/-! ### targets -/
def sets : List Nat → List V → L2.St → L2.St
  | i :: is, v :: vs, σ => sets is vs (σ.set i (some v))
  | _, _, σ => σ
def tgSlots : Tg → List Nat
  | .name i => [i]
  | .tup is => is
theorem wipe_set {σ : L2.St} {i : Nat} {x : Option V} : ∀ {vs : List Nat}, i ∈ vs → wipe (σ.set i x) vs = wipe σ vs
  | v :: vs, h => by
    unfold wipe
    by_cases hi : i ∈ vs
    · rw [wipe_set hi]
    · have e : i = v := by
        rcases List.mem_cons.mp h with z | z
        · exact z
        · exact absurd z hi
      subst e
      clear h
      have key : ∀ (us : List Nat), i ∉ us → wipe (σ.set i x) us = (wipe σ us).set i x := by
        intro us
        induction us with
        | nil => intro _; rfl
        | cons u us ih =>
          intro hu
          unfold wipe
          rw [ih (fun z => hu (List.mem_cons_of_mem _ z)), List.set_comm _ _ (fun z => hu (by rw [z]; simp))]
      rw [key vs hi, List.set_set]
theorem wipe_sets {own : List Nat} : ∀ {is : List Nat} {vs : List V} {σ : L2.St}, (∀ i ∈ is, i ∈ own) → wipe (sets is vs σ) own = wipe σ own
  | [], _, _, _ => by unfold sets; rfl
  | i :: is, [], _, _ => by unfold sets; rfl
  | i :: is, v :: vs, σ, h => by
    unfold sets
    rw [wipe_sets fun j hj => h j (List.mem_cons_of_mem _ hj), wipe_set (h i (by simp))]
theorem wipe_twice {σ : L2.St} {own : List Nat} : wipe (wipe σ own) own = wipe σ own := by
  have key : ∀ us : List Nat, (∀ i ∈ us, i ∈ own) → wipe (wipe σ us) own = wipe σ own := by
    intro us
    induction us with
    | nil => intro _; rfl
    | cons u us ih =>
      intro h
      show wipe ((wipe σ us).set u none) own = _
      rw [wipe_set (h u (by simp)), ih fun i hi => h i (List.mem_cons_of_mem _ hi)]
  exact key own fun _ h => h
/-- a value is stored at a name -/
theorem SR.setVal {γ : Gh} {σ : L2.St} {H : Hp} {s : S} (r : SR N γ σ H s) (i : Nat) {d : D} {v : V} (h : Rel N γ H d v) : SR N γ (σ.set i (some v)) H { s with sl := s.sl.set i (some (.val d)) } := by
  have at_ : ∀ (j : Nat) w, (s.sl.set i (some (.val d)))[j]? = some (some w) → (j = i ∧ w = .val d ∧ i < σ.length) ∨ (j ≠ i ∧ s.sl[j]? = some (some w)) := by
    intro j w hw
    by_cases e : j = i
    · subst e
      have hl : j < s.sl.length := by
        have := (List.getElem?_eq_some_iff.mp hw).1
        simpa using this
      rw [List.getElem?_set_self hl] at hw
      cases hw
      exact .inl ⟨rfl, rfl, by rw [← r.len]; exact hl⟩
    · rw [List.getElem?_set_ne (Ne.symm e)] at hw
      exact .inr ⟨e, hw⟩
  have ne : ∀ {j : Nat}, j ≠ i → (σ.set i (some v))[j]? = σ[j]? := fun e => List.getElem?_set_ne (Ne.symm e)
  have own : ∀ {j : Nat}, isOwn (s.sl.set i (some (.val d))) j → isOwn s.sl j ∧ j ≠ i := fun h => isOwn_set h
  refine ⟨r.hr, by simp [r.len], fun j d' h' => ?_, fun j xs h' => ?_, fun j t ks ds h' => ?_, fun j k a h1 h2 e1 e2 => ?_, fun j a h1 e1 => ?_, fun j h' => ?_⟩
  · rcases at_ j _ h' with ⟨e, e2, hl⟩ | ⟨e, h'⟩
    · cases e2
      subst e
      exact ⟨v, List.getElem?_set_self hl, h⟩
    · rw [ne e]
      exact r.val j d' h'
  · rcases at_ j _ h' with ⟨e, e2, hl⟩ | ⟨e, h'⟩
    · cases e2
    · rw [ne e]
      exact r.own j xs h'
  · rcases at_ j _ h' with ⟨e, e2, hl⟩ | ⟨e, h'⟩
    · cases e2
    · rw [ne e]
      exact r.ownd j t ks ds h'
  · obtain ⟨o1, n1⟩ := own h1
    obtain ⟨o2, n2⟩ := own h2
    rw [ne n1] at e1
    rw [ne n2] at e2
    exact r.sep j k a o1 o2 e1 e2
  · obtain ⟨o1, n1⟩ := own h1
    rw [ne n1] at e1
    exact r.nf j a o1 e1
  · rcases at_ j _ h' with ⟨e, e2, hl⟩ | ⟨e, h'⟩
    · cases e2
    · rw [ne e]
      exact r.exc j h'
theorem wr_setVal {γ : Gh} {σ : L2.St} {s : S} {i : Nat} {d : D} {v : V} {a : Addr} (h : Wr γ (σ.set i (some v)) (s.sl.set i (some (.val d))) a) : Wr γ σ s.sl a := by
  rcases h with h | ⟨j, h, e⟩
  · exact .inl h
  · obtain ⟨o, n⟩ := isOwn_set h
    rw [List.getElem?_set_ne (Ne.symm n)] at e
    exact .inr ⟨j, o, e⟩
/-- no more may be written than before -/
theorem Ext.less {γ : Gh} {H : Hp} {Wa Wb : Addr → Prop} (h : ∀ a, Wb a → Wa a) : Ext Wa γ H Wb γ H :=
  ⟨fun _ _ h => h, fun _ h => h, fun _ _ h _ _ => .inl h, fun a w => .inl (h a w), fun _ h => .inl h, fun _ h => h⟩
/-- a target's reading: the value goes to its names -/
def TGt (N : Cn) (tg : Tg) : TG := fun v σ H Q => ∃ γ s d s', SR N γ σ H s ∧ Rel N γ H d v ∧ tgD tg d s = some (.ok () s') ∧ ∀ vs, SR N γ (sets (tgSlots tg) vs σ) H s' → Xt γ σ H s γ (sets (tgSlots tg) vs σ) H s' → s'.hp = s.hp → (∀ j, isOwn s'.sl j → isOwn s.sl j ∧ j ∉ tgSlots tg) → Q (sets (tgSlots tg) vs σ) H
theorem tg_name {i : Nat} {x : Str} (hN : X.N.Nodup) (hi : X.N[i]? = some x) (hx : Loc X.env.scope x) (hf : X.fn x = true ∨ X.env.scope.names.lookup x = some .local) : PG X (.Name x pos) (TGt N (.name i)) := by
  have h := pg_name (pos := pos) hN hi hx hf
  refine ⟨fun pins s σ H v u Q I rv q => h.run pins s σ H v u Q I rv ?_⟩
  obtain ⟨γ, s, d, s', r, rel, e, k⟩ := q
  cases e
  exact k [v] (r.setVal i rel) (.less fun a => wr_setVal) rfl (fun j hj => by
    obtain ⟨h1, h2⟩ := isOwn_set hj
    exact ⟨h1, by simpa [tgSlots] using h2⟩)
/-- several names -/
def TGn (N : Cn) (is : List Nat) : TGs := fun vs σ H Q => ∃ γ s ds s', SR N γ σ H s ∧ RelL N γ H ds vs ∧ putTs is ds s = some (.ok () s') ∧ (SR N γ (sets is vs σ) H s' → Xt γ σ H s γ (sets is vs σ) H s' → s'.hp = s.hp → (∀ j, isOwn s'.sl j → isOwn s.sl j ∧ j ∉ is) → Q (sets is vs σ) H)
theorem tn_nil : PGs X [] (TGn N []) := by
  have h := pgs_nil (X := X)
  refine ⟨fun pins s σ H vs us Q I rv q => h.run pins s σ H vs us Q I rv ?_⟩
  obtain ⟨γ, s, ds, s', r, rel, e, k⟩ := q
  cases ds with
  | nil =>
    cases e
    have rel : vs = [] := rel
    subst rel
    exact ⟨rfl, k r (Ext.refl ..) rfl fun j hj => ⟨hj, by simp⟩⟩
  | cons d ds => cases e
theorem assignEach_name {x : Str} {es : List Expr} {env : Env} {p : Pos} : (assignEach (.Name x p :: es) env).map (·.2) = assign (.Name x p) env :: (assignEach es env).map (·.2) := rfl
theorem tn_cons {i : Nat} {x : Str} {is : List Nat} (hN : X.N.Nodup) (hi : X.N[i]? = some x) (hx : Loc X.env.scope x) (hf : X.fn x = true ∨ X.env.scope.names.lookup x = some .local) (ht : PGs X es (TGn N is)) : PGs X (.Name x pos :: es) (TGn N (i :: is)) := by
  have h := pgs_cons (pg_name (pos := pos) hN hi hx hf) ht assignEach_name
  refine ⟨fun pins s σ H vs us Q I rv q => h.run pins s σ H vs us Q I rv ?_⟩
  obtain ⟨γ, s, ds, s', r, rel, e, k⟩ := q
  cases ds with
  | nil => cases e
  | cons d ds =>
    obtain ⟨v, rr, e1, h1, h2⟩ := rel
    subst e1
    obtain ⟨_, s1, e2, e3⟩ := bnd_ok (show bnd (putS i (.val d)) (fun _ => putTs is ds) s = some (.ok () s') from e)
    cases e2
    refine ⟨v, rr, rfl, γ, _, ds, s', r.setVal i h1, h2, e3, fun a1 a2 a3 a4 => k a1 ((Ext.less fun a => wr_setVal).trans a2) a3 fun j hj => ?_⟩
    obtain ⟨b1, b2⟩ := a4 j hj
    obtain ⟨c1, c2⟩ := isOwn_set b1
    exact ⟨c1, by simp [c2, b2]⟩
theorem tg_tup {is : List Nat} {k : Nat} (hK : N.K = X.K) (hc : X.calm = true) (h : PGs X es (TGn N is)) (hl : es.length = is.length) (hn : ∀ e ∈ es, ∃ x p, e = .Name x p) : PG X (.Tuple es k pos) (TGt N (.tup is)) := by
  have e1 : ∀ {es : List Expr}, (∀ e ∈ es, ∃ x p, e = .Name x p) → (assignEach es X.env).length = es.length ∧ (assignEach es X.env).findIdx? (·.1) = none := by
    intro es
    induction es with
    | nil => intro _; exact ⟨rfl, rfl⟩
    | cons e es ih =>
      intro h
      obtain ⟨x, p, rfl⟩ := h e (by simp)
      obtain ⟨h1, h2⟩ := ih fun e he => h e (List.mem_cons_of_mem _ he)
      refine ⟨by show (assignEach es X.env).length + 1 = _; rw [h1]; rfl, ?_⟩
      show ((false, assign (.Name x p) X.env) :: assignEach es X.env).findIdx? (·.1) = none
      rw [List.findIdx?_cons, h2]
      rfl
  have hg := pg_tup (pos := pos) (k := k) hc h (e1 hn).1 (e1 hn).2
  refine ⟨fun pins s σ H v u Q I rv q => hg.run pins s σ H v u Q I rv ?_⟩
  obtain ⟨γ, s, d, s', r, rel, e, kk⟩ := q
  cases d with
  | tup ds =>
    obtain ⟨a, vs, rfl, h1, h2⟩ := rel
    have hlen : ∀ {is : List Nat} {ds : List D} {s s' : S}, putTs is ds s = some (.ok () s') → is.length = ds.length := by
      intro is
      induction is with
      | nil => intro ds s s' h; cases ds <;> first | rfl | cases h
      | cons i is ih =>
        intro ds s s' h
        cases ds with
        | nil => cases h
        | cons d ds =>
          obtain ⟨_, s1, _, e3⟩ := bnd_ok (show bnd (putS i (.val d)) (fun _ => putTs is ds) s = some (.ok () s') from h)
          rw [List.length_cons, List.length_cons, ih e3]
    have e : putTs is ds s = some (.ok () s') := e
    exact ⟨a, vs, rfl, hK ▸ h1.sq, by rw [hl, hlen e, h2.length], γ, s, ds, s', r, h2, e, fun a1 a2 a3 a4 => kk vs a1 a2 a3 a4⟩
  | _ => cases e
end
end Kb

set_option Elab.async false
set_option linter.all false
set_option maxRecDepth 100000
set_option maxHeartbeats 4000000
/-! KbLc: list comprehensions. -/
namespace Kb
open PySem PySem.Spec PyProof.Rows L2 TL
/-! ### slots of a block -/
theorem clr_set {l : List (Option Sl)} {i : Nat} : ∀ {own : List Nat}, i ∉ own → (clr own l)[i]? = l[i]?
  | [], _ => rfl
  | o :: own, h => by
    unfold clr
    rw [clr_set (fun z => h (List.mem_cons_of_mem _ z)), List.getElem?_set_ne (fun z => h (by rw [z]; simp))]
theorem clr_len {l : List (Option Sl)} : ∀ {own : List Nat}, (clr own l).length = l.length := by
  intro own
  induction own generalizing l with
  | nil => rfl
  | cons o own ih => unfold clr; rw [ih, List.length_set]
theorem clr_none {l : List (Option Sl)} {i : Nat} {v : Sl} (h : l[i]? ≠ some (some v)) : ∀ {own : List Nat}, (clr own l)[i]? ≠ some (some v) := by
  intro own
  induction own generalizing l with
  | nil => exact h
  | cons o own ih =>
    unfold clr
    refine ih fun z => ?_
    by_cases e : o = i
    · subst e
      by_cases hl : o < l.length
      · rw [List.getElem?_set_self hl] at z; cases z
      · rw [List.getElem?_eq_none (by simpa using hl)] at z; cases z
    · rw [List.getElem?_set_ne e] at z
      exact h z
theorem clr_some {l : List (Option Sl)} {i : Nat} {v : Sl} : ∀ {own : List Nat}, (clr own l)[i]? = some (some v) → i ∉ own ∧ l[i]? = some (some v) := by
  intro own
  induction own generalizing l with
  | nil => intro h; exact ⟨by simp, h⟩
  | cons o own ih =>
    intro h
    unfold clr at h
    obtain ⟨h1, h2⟩ := ih h
    by_cases e : o = i
    · subst e
      by_cases hl : o < l.length
      · rw [List.getElem?_set_self hl] at h2; cases h2
      · rw [List.getElem?_eq_none (by simpa using hl)] at h2; cases h2
    · rw [List.getElem?_set_ne e] at h2
      exact ⟨by simp only [List.mem_cons, not_or]; exact ⟨fun z => e z.symm, h1⟩, h2⟩
def bkv (old : List (Option Sl)) (i : Nat) : Option Sl := match old[i]? with
  | some (some (.val d)) => some (.val d)
  | _ => none
theorem bck_cons {old l : List (Option Sl)} {o : Nat} {own : List Nat} : bck old (o :: own) l = bck old own (l.set o (bkv old o)) := rfl
theorem bck_len {old : List (Option Sl)} : ∀ {own : List Nat} {l : List (Option Sl)}, (bck old own l).length = l.length := by
  intro own
  induction own with
  | nil => intro l; rfl
  | cons o own ih => intro l; rw [bck_cons, ih, List.length_set]
theorem bck_out {old : List (Option Sl)} {i : Nat} : ∀ {own : List Nat} {l : List (Option Sl)}, i ∉ own → (bck old own l)[i]? = l[i]? := by
  intro own
  induction own with
  | nil => intro l _; rfl
  | cons o own ih =>
    intro l h
    rw [bck_cons, ih (fun z => h (List.mem_cons_of_mem _ z)), List.getElem?_set_ne (fun z => h (by rw [z]; simp))]
theorem bck_in {old : List (Option Sl)} {i : Nat} {x : Option Sl} : ∀ {own : List Nat} {l : List (Option Sl)}, i ∈ own ∨ l[i]? = some (bkv old i) → (bck old own l)[i]? = some x → x = bkv old i := by
  intro own
  induction own with
  | nil =>
    intro l h e
    rcases h with h | h
    · cases h
    · have e : l[i]? = some x := e
      rw [h] at e; cases e; rfl
  | cons o own ih =>
    intro l h e
    rw [bck_cons] at e
    by_cases q : o = i
    · subst q
      by_cases hl : o < l.length
      · exact ih (.inr (by rw [List.getElem?_set_self hl])) e
      · have : (bck old own (l.set o (bkv old o)))[o]? = none := List.getElem?_eq_none (by rw [bck_len, List.length_set]; omega)
        rw [this] at e; cases e
    · refine ih ?_ e
      rcases h with h | h
      · rcases List.mem_cons.mp h with z | z
        · exact absurd z.symm q
        · exact .inl z
      · rw [List.getElem?_set_ne q]; exact .inr h
theorem bck_some {old : List (Option Sl)} {i : Nat} {v : Sl} {own : List Nat} {l : List (Option Sl)} (h : (bck old own l)[i]? = some (some v)) : (∃ d, v = .val d ∧ old[i]? = some (some (.val d))) ∨ (i ∉ own ∧ l[i]? = some (some v)) := by
  by_cases q : i ∈ own
  · left
    have e := bck_in (.inl q) h
    unfold bkv at e
    split at e
    · rename_i d hd
      cases e
      exact ⟨d, rfl, hd⟩
    · cases e
  · rw [bck_out q] at h
    exact .inr ⟨q, h⟩
theorem wipe_out {σ : L2.St} {i : Nat} : ∀ {vs : List Nat}, i ∉ vs → (wipe σ vs)[i]? = σ[i]?
  | [], _ => rfl
  | v :: vs, h => by
    unfold wipe
    rw [List.getElem?_set_ne (fun z => h (by rw [z]; simp)), wipe_out (fun z => h (List.mem_cons_of_mem _ z))]
theorem isOwn_sub {l l' : List (Option Sl)} {P : Nat → Prop} (h : ∀ i v, (∀ d, v ≠ .val d) → l'[i]? = some (some v) → P i ∧ l[i]? = some (some v)) {i : Nat} (o : isOwn l' i) : P i ∧ isOwn l i := by
  rcases o with ⟨xs, o⟩ | ⟨t, ks, vs, o⟩
  · obtain ⟨h1, h2⟩ := h i _ (by intro d z; cases z) o
    exact ⟨h1, .inl ⟨xs, h2⟩⟩
  · obtain ⟨h1, h2⟩ := h i _ (by intro d z; cases z) o
    exact ⟨h1, .inr ⟨t, ks, vs, h2⟩⟩
theorem isOwn_clr {own : List Nat} {l : List (Option Sl)} {i : Nat} (h : isOwn (clr own l) i) : i ∉ own ∧ isOwn l i := isOwn_sub (P := fun i => i ∉ own) (fun i v _ e => clr_some e) h
theorem isOwn_bck {old : List (Option Sl)} {own : List Nat} {l : List (Option Sl)} {i : Nat} (h : isOwn (bck old own l) i) : i ∉ own ∧ isOwn l i := isOwn_sub (P := fun i => i ∉ own) (fun i v nv e => by
  rcases bck_some e with ⟨d, z, _⟩ | z
  · exact absurd z (nv d)
  · exact z) h
section
variable {N : Cn}
/-- slots forgotten on both sides -/
theorem SR.clr {γ : Gh} {σ : L2.St} {H : Hp} {s : S} (r : SR N γ σ H s) (own : List Nat) : SR N γ (wipe σ own) H { s with sl := clr own s.sl } := by
  refine ⟨r.hr, by rw [wipe_length, ← r.len]; exact clr_len, fun i d h => ?_, fun i xs h => ?_, fun i t ks ds h => ?_, fun i j a h1 h2 e1 e2 => ?_, fun i a h1 e1 => ?_, fun i h => ?_⟩
  · obtain ⟨n, h⟩ := clr_some h
    rw [wipe_out n]; exact r.val i d h
  · obtain ⟨n, h⟩ := clr_some h
    rw [wipe_out n]; exact r.own i xs h
  · obtain ⟨n, h⟩ := clr_some h
    rw [wipe_out n]; exact r.ownd i t ks ds h
  · obtain ⟨n1, h1⟩ := isOwn_clr h1
    obtain ⟨n2, h2⟩ := isOwn_clr h2
    rw [wipe_out n1] at e1
    rw [wipe_out n2] at e2
    exact r.sep i j a h1 h2 e1 e2
  · obtain ⟨n1, h1⟩ := isOwn_clr h1
    rw [wipe_out n1] at e1
    exact r.nf i a h1 e1
  · obtain ⟨n, h⟩ := clr_some h
    rw [wipe_out n]; exact r.exc i h
/-- back from a block -/
theorem SR.back {γ0 γ : Gh} {σ : L2.St} {H0 H : Hp} {s0 s : S} {own : List Nat} (r0 : SR N γ0 σ H0 s0) (r : SR N γ (wipe σ own) H { s with sl := Kb.clr own s.sl }) (k : Keep γ0 H0 γ H) : SR N γ σ H { s with sl := bck s0.sl own s.sl } := by
  have inn : ∀ {i : Nat} {v : Sl}, i ∉ own → s.sl[i]? = some (some v) → (Kb.clr own s.sl)[i]? = some (some v) := fun n h => by rw [clr_set n]; exact h
  have oin : ∀ {i : Nat}, i ∉ own → isOwn s.sl i → isOwn (Kb.clr own s.sl) i := fun n h => by
    rcases h with ⟨xs, h⟩ | ⟨t, ks, vs, h⟩
    · exact .inl ⟨xs, inn n h⟩
    · exact .inr ⟨t, ks, vs, inn n h⟩
  have hl : (Kb.clr own s.sl).length = (wipe σ own).length := r.len
  rw [clr_len, wipe_length] at hl
  refine ⟨r.hr, by rw [← hl]; exact bck_len, fun i d h => ?_, fun i xs h => ?_, fun i t ks ds h => ?_, fun i j a h1 h2 e1 e2 => ?_, fun i a h1 e1 => ?_, fun i h => ?_⟩
  · rcases bck_some h with ⟨d', e, h⟩ | ⟨n, h⟩
    · cases e
      obtain ⟨v, h1, h2⟩ := r0.val i d h
      exact ⟨v, h1, h2.keep k⟩
    · have := r.val i d (inn n h)
      rwa [wipe_out n] at this
  · rcases bck_some h with ⟨d', e, h⟩ | ⟨n, h⟩
    · cases e
    · have := r.own i xs (inn n h)
      rwa [wipe_out n] at this
  · rcases bck_some h with ⟨d', e, h⟩ | ⟨n, h⟩
    · cases e
    · have := r.ownd i t ks ds (inn n h)
      rwa [wipe_out n] at this
  · obtain ⟨n1, h1⟩ := isOwn_bck h1
    obtain ⟨n2, h2⟩ := isOwn_bck h2
    refine r.sep i j a (oin n1 h1) (oin n2 h2) ?_ ?_
    · rw [wipe_out n1]; exact e1
    · rw [wipe_out n2]; exact e2
  · obtain ⟨n1, h1⟩ := isOwn_bck h1
    refine r.nf i a (oin n1 h1) ?_
    rw [wipe_out n1]; exact e1
  · rcases bck_some h with ⟨d', e, h⟩ | ⟨n, h⟩
    · cases e
    · have := r.exc i (inn n h)
      rwa [wipe_out n] at this
/-- an address that no one knows -/
structure Lone (γ : Gh) (σ : L2.St) (s : S) (D : Addr) : Prop where
  f : ¬γ.F D
  m : D ∉ γ.m
  o : ∀ i, isOwn s.sl i → σ[i]? ≠ some (some (.ref D))
theorem Lone.wr {γ : Gh} {σ : L2.St} {s : S} {D : Addr} (h : Lone γ σ s D) : ¬Wr γ σ s.sl D := by
  rintro (z | ⟨i, z, e⟩)
  · exact h.m z
  · exact h.o i z e
theorem Lone.step {γ γ' : Gh} {σ : L2.St} {s s' : S} {H H' : Hp} {D : Addr} {o : HO} (h : Lone γ σ s D) (hD : H D = some o) (ht : ∀ ps, o ≠ .tbl ps) (x : Xe γ σ H s γ' H' s') : Lone γ' σ s' D where
  f := fun z => by
    rcases x.fn D z with z | z | z
    · exact h.f z
    · exact h.wr z
    · exact z.no hD ht
  m := fun z => by
    rcases x.mn D z with z | z
    · exact h.m z
    · exact z.no hD ht
  o := fun i z => h.o i (x.os i z)
theorem tabs_upd {T : List (Addr × Str)} {H : Hp} {D : Addr} {o u : HO} (t : LamX.Tabs T H) (hD : H D = some o) (n1 : ∀ ps, o ≠ .tbl ps) (n2 : ∀ c q, o ≠ LamX.CodeO c q) : LamX.Tabs T (upd H D u) := fun p hp => by
  obtain ⟨ps, h1, h2, h3⟩ := t p hp
  have ne : p.1 ≠ D := fun z => by rw [z, hD] at h1; cases h1; exact n1 ps rfl
  refine ⟨ps, by rw [upd_ne ne]; exact h1, h2, fun pos cv hc => ?_⟩
  obtain ⟨c, e1, e2⟩ := h3 pos cv hc
  refine ⟨c, e1, ?_⟩
  have ne : c ≠ D := fun z => by rw [z, hD] at e2; cases e2; exact n2 _ _ rfl
  rw [upd_ne ne]; exact e2
theorem tabs_lst {T : List (Addr × Str)} {H : Hp} {D : Addr} {xs : List V} {u : HO} (t : LamX.Tabs T H) (hD : H D = some (.lst xs)) : LamX.Tabs T (upd H D u) := tabs_upd t hD (fun _ z => nomatch z) (fun _ _ z => nomatch z)
/-- it is written: no one sees it -/
theorem SR.upd_lone {γ : Gh} {σ : L2.St} {s : S} {H : Hp} {D : Addr} {xs ys : List V} (r : SR N γ σ H s) (l : Lone γ σ s D) (hD : H D = some (.lst xs)) : SR N γ σ (upd H D (.lst ys)) s ∧ Keep γ H γ (upd H D (.lst ys)) := by
  have k : Keep γ H γ (upd H D (.lst ys)) := ⟨fun _ _ h => h, fun _ h => h, fun a o f h _ => .inl (by
    rw [upd_ne (by rintro rfl; exact l.f f)]; exact h)⟩
  refine ⟨⟨⟨r.hr.nd, r.hr.len, fun q zs h => ?_, r.hr.nf, fun a f => ?_, tabs_lst r.hr.tabs hD, r.hr.kb.trans k, cf_upd r.hr.cf (fun _ _ z => nomatch z)⟩, r.len, fun i d h => ?_, fun i zs h => ?_, fun i t ks ds h => ?_, r.sep, r.nf, r.exc⟩, k⟩
  · obtain ⟨a, vs, h1, h2, h3⟩ := r.hr.at_ q zs h
    refine ⟨a, vs, h1, ?_, h3.keep k⟩
    rw [upd_ne (by rintro rfl; exact l.m (List.mem_of_getElem? h1))]; exact h2
  · exact fun n => r.hr.fz a f (nn_upd n (fun _ z => nomatch z)).2
  · obtain ⟨v, h1, h2⟩ := r.val i d h
    exact ⟨v, h1, h2.keep k⟩
  · obtain ⟨a, vs, h1, h2, h3⟩ := r.own i zs h
    refine ⟨a, vs, h1, ?_, h3.keep k⟩
    rw [upd_ne (by rintro rfl; exact l.o i (.inl ⟨zs, h⟩) h1)]; exact h2
  · obtain ⟨a, vs, o, h1, h2, h3, h4⟩ := r.ownd i t ks ds h
    refine ⟨a, vs, o, h1, h2, ?_, h4.keep k⟩
    rw [upd_ne (by rintro rfl; exact l.o i (.inr ⟨t, ks, ds, h⟩) h1)]; exact h3
end
section
variable {X : Cx} {N : Cn} {W : WX}
/-- nothing is raised -/
abbrev WF : WX := fun _ _ _ _ => False
abbrev turnM (tg : Tg) (mc : M Bool) (md : M D) : D → M (Option D) := fun d => bnd (tgD tg d) fun _ => bnd mc fun k => if k then bnd md fun y => pur (some y) else pur none
theorem Xe.of {γ γ' : Gh} {σ σ' : L2.St} {H H' : Hp} {s s' : S} (x : Xe γ σ' H s γ' H' s') (h : ∀ i a, isOwn s.sl i → σ'[i]? = some (some (.ref a)) → σ[i]? = some (some (.ref a))) : Xe γ σ H s γ' H' s' :=
  ⟨x.pre, x.fm, x.fr, x.mn, fun a ha => by
    rcases x.fn a ha with z | (z | ⟨i, z, e⟩) | z
    · exact .inl z
    · exact .inr (.inl (.inl z))
    · exact .inr (.inl (.inr ⟨i, z, h i a z e⟩))
    · exact .inr (.inr z), x.al, x.os⟩
/-- within the same heap: slots alone -/
theorem Xe.slots {γ : Gh} {σ : L2.St} {H : Hp} {s s' : S} (h : ∀ i, isOwn s'.sl i → isOwn s.sl i) : Xe γ σ H s γ H s' := { Xe.refl γ σ H s with os := h }
theorem Res.xe {γ : Gh} {σ : L2.St} {H : Hp} {s : S} {w : Sl} {x : V} {H' : Hp} (r : SR N γ σ H s) (h : Res N γ H w x H') : ∃ γ', SR N γ' σ H' s ∧ Xe γ σ H s γ' H' s ∧ RX N True H (Wr γ σ s.sl) γ' H' w x :=
  Res.post (Q := fun x H' => ∃ γ', SR N γ' σ H' s ∧ Xe γ σ H s γ' H' s ∧ RX N True H (Wr γ σ s.sl) γ' H' w x) r (fun γ' H' b a1 a2 a3 => ⟨γ', a1, a2, a3⟩) x H' h
theorem sets_out {i : Nat} : ∀ {is : List Nat} {vs : List V} {σ : L2.St}, i ∉ is → (sets is vs σ)[i]? = σ[i]?
  | [], _, _, _ => by unfold sets; rfl
  | j :: is, [], _, _ => by unfold sets; rfl
  | j :: is, v :: vs, σ, h => by
    unfold sets
    rw [sets_out fun z => h (List.mem_cons_of_mem _ z), List.getElem?_set_ne (by rintro rfl; simp at h)]
theorem Xe.updD {γ γ' : Gh} {σ : L2.St} {H H' : Hp} {s s' : S} {D : Addr} {o : HO} (x : Xe γ σ H s γ' H' s') (hD : H D = none) (ht : ∀ ps, o ≠ .tbl ps) : Xe γ σ H s γ' (upd H' D o) s' := by
  have ne : ∀ a u, H a = some u → a ≠ D := fun a u h z => by rw [z, hD] at h; cases h
  refine ⟨x.pre, x.fm, fun a u h n t => ?_, x.mn, x.fn, fun a h => x.al a (nn_upd h ht).2, x.os⟩
  · unfold Stl; rw [upd_ne (ne a u h)]; exact x.fr a u h n t
/-- where the loop of a comprehension is -/
def Lc (N : Cn) (γ0 : Gh) (σ : L2.St) (H0 : Hp) (s0 : S) (D : Addr) (own : List Nat) (f : Kb.D → M (Option Kb.D)) (items zs : List Kb.D) (sf : S) (i : Nat) (H : Hp) : Prop :=
  ∃ γ s ys acc r, SR N γ (wipe σ own) H { s with sl := clr own s.sl } ∧ Xe γ0 σ H0 s0 γ H { s with sl := clr own s.sl } ∧ Lone γ (wipe σ own) { s with sl := clr own s.sl } D ∧
    H D = some (.lst acc) ∧ RelL N γ H ys acc ∧ ys.length ≤ i ∧ i ≤ items.length ∧ compL (fun d => bnd (clrM own) fun _ => f d) (items.drop i) s = some (.ok r sf) ∧ zs = ys ++ r
theorem lc_turn {γ0 : Gh} {σ : L2.St} {H0 : Hp} {s0 : S} {D : Addr} {own : List Nat} {tg : Tg} {mc : M Bool} {md : M Kb.D} {items zs : List Kb.D} {sf : S} {J : L2.It} (hin : ∀ i ∈ tgSlots tg, i ∈ own) (hw : WalkOk N γ0 H0 J items) (hk : ∀ a, Wr γ0 σ s0.sl a → ¬γ0.F a) (hz : items.length ≤ line) (hD0 : H0 D = none)
    {i : Nat} {H : Hp} (h : Lc N γ0 σ H0 s0 D own (turnM tg mc md) items zs sf i H) (hi : i < items.length) {x : V} {H' : Hp} (hy : J.yld i H x H') :
    TGt N tg x (wipe σ own) H' fun σ2 H2 => wipe σ2 own = wipe σ own ∧ TT' N WF RB mc σ2 H2 fun b H3 =>
      if b = true then TT' N WF (RD N) md σ2 H3 fun y H4 => ∃ acc, H4 D = some (.lst acc) ∧ acc.length < sizeLine ∧ Lc N γ0 σ H0 s0 D own (turnM tg mc md) items zs sf (i + 1) (upd H4 D (.lst (acc ++ [y])))
      else Lc N γ0 σ H0 s0 D own (turnM tg mc md) items zs sf (i + 1) H3 := by
  obtain ⟨γ, s, ys, acc, r, r1, x1, l1, hD, hr, hyl, hil, hc, hzs⟩ := h
  have k1 : Keep γ0 H0 γ H := x1.ext.keep hk
  rw [List.drop_eq_getElem_cons hi] at hc
  obtain ⟨o, sa, h1, hc⟩ := bnd_ok (show bnd (bnd (clrM own) fun _ => turnM tg mc md items[i]) (fun o => bnd (compL (fun d => bnd (clrM own) fun _ => turnM tg mc md d) (items.drop (i + 1))) fun ys => pur (match o with
    | some y => y :: ys
    | none => ys)) s = some (.ok r sf) from hc)
  obtain ⟨r', sb, h2, hc⟩ := bnd_ok hc
  cases hc
  obtain ⟨_, sc, h3, h1⟩ := bnd_ok h1
  cases h3
  obtain ⟨_, s1, ht, h1⟩ := bnd_ok h1
  obtain ⟨k, s2, hm, h1⟩ := bnd_ok h1
  have hd : items[i]? = some items[i] := List.getElem?_eq_getElem hi
  obtain ⟨γ1, r2, x2, rel⟩ := (hw.yld γ H k1 i _ hd x H' hy).xe r1
  have l2 := l1.step hD (fun _ z => nomatch z) x2
  have hD2 : H' D = some (.lst acc) := (x2.fr D _ hD l1.m (fun _ z => nomatch z)).eq (fun _ z => nomatch z)
  have hr2 := hr.keep (r1.keepE x2)
  refine ⟨γ1, _, items[i], s1, r2, rel, ht, fun vs r3 x3 hp ow => ⟨by rw [wipe_sets hin, wipe_twice], γ1, s1, r3, ?_⟩⟩
  have x3' : Xe γ1 (wipe σ own) H' { s with sl := clr own s.sl } γ1 H' s1 := Xe.slots fun j hj => (ow j hj).1
  have back : ∀ (j : Nat) a, isOwn s1.sl j → (sets (tgSlots tg) vs (wipe σ own))[j]? = some (some (.ref a)) → (wipe σ own)[j]? = some (some (.ref a)) := fun j a hj e => by
    rw [sets_out (ow j hj).2] at e; exact e
  have wback : ∀ (j : Nat) (a : Addr), (wipe σ own)[j]? = some (some (V.ref a)) → σ[j]? = some (some (.ref a)) := fun j a e => (wipe_some e).1
  rw [hm]
  intro γ2 H2 b r4 x4 eb
  have eb : k = b := eb
  subst eb
  have l3 : Lone γ1 (wipe σ own) s1 D := l2.step hD2 (fun _ z => nomatch z) x3'
  have x4' := x4.of back
  have l4 : Lone γ2 (wipe σ own) s2 D := l3.step hD2 (fun _ z => nomatch z) x4'
  have hD4 : H2 D = some (.lst acc) := (x4.fr D _ hD2 l3.m (fun _ z => nomatch z)).eq (fun _ z => nomatch z)
  have hr4 := hr2.keep (r3.keepE x4)
  have xx : Xe γ0 σ H0 s0 γ2 H2 s2 := x1.trans ((x2.of fun j a _ => wback j a).trans ((x3'.of fun j a _ => wback j a).trans (x4'.of fun j a _ => wback j a)))
  have clx : ∀ {γ' : Gh} {H' : Hp} {s' : S}, Xe γ0 σ H0 s0 γ' H' s' → Xe γ0 σ H0 s0 γ' H' { s' with sl := clr own s'.sl } := fun x => { x with os := fun j hj => x.os j (isOwn_clr hj).2 }
  have clo : ∀ {γ' : Gh} {s' : S}, Lone γ' (wipe σ own) s' D → Lone γ' (wipe σ own) { s' with sl := clr own s'.sl } D := fun l => ⟨l.f, l.m, fun j hj => l.o j (isOwn_clr hj).2⟩
  have clsr : ∀ {γ' : Gh} {H' : Hp} {s' : S}, SR N γ' (sets (tgSlots tg) vs (wipe σ own)) H' s' → SR N γ' (wipe σ own) H' { s' with sl := clr own s'.sl } := fun r => by
    have := r.clr own
    rw [wipe_sets hin, wipe_twice] at this
    exact this
  cases k with
  | false =>
    rw [if_neg Bool.false_ne_true] at h1 ⊢
    cases h1
    exact ⟨γ2, _, ys, acc, r', clsr r4, clx xx, clo l4, hD4, hr4, by omega, hi, h2, hzs⟩
  | true =>
    rw [if_pos rfl] at h1 ⊢
    obtain ⟨yd, s3, he, h1⟩ := bnd_ok h1
    cases h1
    refine ⟨γ2, s2, r4, ?_⟩
    rw [he]
    intro γ3 H3 y r5 x5 rel5
    have x5' := x5.of fun j a hj => back j a (x4.os j hj)
    have l5 : Lone γ3 (wipe σ own) sa D := l4.step hD4 (fun _ z => nomatch z) x5'
    have hD5 : H3 D = some (.lst acc) := (x5.fr D _ hD4 l4.m (fun _ z => nomatch z)).eq (fun _ z => nomatch z)
    have hr5 := hr4.keep (r4.keepE x5)
    have xx5 := xx.trans (x5'.of fun j a _ => wback j a)
    obtain ⟨r6, k6⟩ := (clsr r5).upd_lone (clo l5) hD5 (ys := acc ++ [y])
    have x6 := (clx xx5).updD (o := .lst (acc ++ [y])) hD0 (fun _ z => nomatch z)
    refine ⟨acc, hD5, ?_, γ3, _, ys ++ [yd], acc ++ [y], r', r6, x6, clo l5, upd_same, RelL.keep k6 (hr5.append (RelL.cons rel5 (RelL.nil_iff.mpr rfl))), by simp; omega, hi, h2, ?_⟩
    · rw [← hr5.length, line_eq]; omega
    · rw [hzs]; simp
theorem lc_imp {own : List Nat} {tg : Tg} {mi : M (List Kb.D)} {mc : M Bool} {md : M Kb.D} {σ : L2.St} {H : Hp} {Q : VK} (hin : ∀ i ∈ tgSlots tg, i ∈ own)
    (h : TT' N W (RX N True) (bnd mi fun items => blk own items (turnM tg mc md)) σ H Q) : tLc (TT' N W (RI N) mi) (TGt N tg) (TT' N WF RB mc) (TT' N WF (RD N) md) own σ H Q := by
  obtain ⟨γ, s, r, h⟩ := h
  refine ⟨γ, s, r, (h.bnd RX.late).mono fun J H1 ⟨items, s1, γ1, em, r1, x1, hw, h1⟩ D hD => ?_⟩
  have hw : WalkOk N γ1 H1 J items := hw
  unfold blk at h1
  dsimp only at h1
  split at h1
  · rename_i hz
    split at h1
    · rename_i zs sf hc
      refine ⟨fun i m Hh => m = items.length - i ∧ Lc N γ1 σ H1 s1 D own (turnM tg mc md) items zs sf i Hh, ⟨items.length, by simp, ?_⟩, ?_⟩
      · have nm : D ∉ γ1.m := fun z => by
          obtain ⟨vs, e⟩ := r1.hr.m_at z
          rw [hD] at e
          cases e
        have lone : Lone γ1 σ s1 D := ⟨fun z => r1.hr.fz D z (.of hD), nm, fun i hi e => r1.own_at hi e (.of hD)⟩
        have r2 := r1.upd_new (o := .lst []) hD (fun _ z => nomatch z) (fun _ _ z => nomatch z) γ1.F (fun a => ⟨.inl, fun h => h.elim id fun z => z.2 ▸ z.1⟩)
        exact ⟨γ1, s1, [], [], zs, r2.1.clr own, { (Xe.refl γ1 σ H1 s1).updD (o := .lst []) hD (fun _ z => nomatch z) with os := fun j hj => (isOwn_clr hj).2 }, ⟨lone.f, lone.m, fun i hi e => lone.o i (isOwn_clr hi).2 (wipe_some e).1⟩, upd_same, rfl, Nat.le_refl _, Nat.zero_le _, hc, rfl⟩
      · rintro i m Hh ⟨rfl, l⟩
        have l0 := l
        obtain ⟨γ, s, ys, acc, rr, a1, a2, a3, a4, a5, a6, a7, a8, a9⟩ := l0
        have kk : Keep γ1 H1 γ Hh := a2.ext.keep r1.nfw
        by_cases hi : i < items.length
        · refine .inr ⟨hw.go γ Hh kk i hi, fun H' => Lc N γ1 σ H1 s1 D own (turnM tg mc md) items zs sf (i + 1) H', fun H' l' => ⟨items.length - (i + 1), by omega, rfl, l'⟩, fun x H' hy => lc_turn hin hw r1.nfw hz hD l hi hy⟩
        · obtain rfl : i = items.length := by omega
          refine .inl ⟨hw.stop γ Hh kk, ?_⟩
          rw [List.drop_length] at a8
          cases a8
          have rb := r1.back a1 kk
          refine h1 γ Hh (.ref D) rb { a2 with os := fun j hj => ?_ } ?_
          · obtain ⟨n, hj⟩ := isOwn_bck hj
            refine a2.os j ?_
            rcases hj with ⟨xs, hj⟩ | ⟨t, ks, vs, hj⟩
            · exact .inl ⟨xs, by show (clr own _)[j]? = _; rw [clr_set n]; exact hj⟩
            · exact .inr ⟨t, ks, vs, by show (clr own _)[j]? = _; rw [clr_set n]; exact hj⟩
          · rw [a9, List.append_nil]
            exact ⟨D, acc, rfl, a4, a5, a3.f, a3.m, .inr (.of hD), fun _ => .of hD⟩
    · exact h1.elim
  · exact h1.elim
variable {elt tgE iter : Expr} {ifs : List Expr} {scope : Scope} {own : List (Str × Nat)} {pos : Pos} {mi : M (List D)} {mc : M Bool} {md : M D} {tg : Tg}
/-- what serves a comprehension's block -/
structure BlkS (X : Cx) (N : Cn) (scope : Scope) (tgE : Expr) (ifs : List Expr) (elt : Expr) (tg : Tg) (mc : M Bool) (md : M D) : Prop where
  g : ∀ (s : Shared) (H : Hp) (C : Addr) (cl : List (Str × Addr)) (fp : List Addr), PG (X.blk s H scope (compEnvC scope cl C X.env) fp) tgE (TGt N tg)
  t : ∀ (s : Shared) (H : Hp) (C : Addr) (cl : List (Str × Addr)) (fp : List Addr), PTs (X.blk s H scope (compEnvC scope cl C X.env) fp) ifs (TT' N WF RB mc)
  e : ∀ (s : Shared) (H : Hp) (C : Addr) (cl : List (Str × Addr)) (fp : List Addr), PE (X.blk s H scope (compEnvC scope cl C X.env) fp) elt (TT' N WF (RD N) md)
theorem ex_comp (hc : X.calm = true) (hN : X.N.Nodup) (hi : PI X tgE iter (TT' N W (RI N) mi)) (ok : BlkOk X.N X.env.scope scope own) (b : BlkS X N scope tgE ifs elt tg mc md) (hin : ∀ i ∈ tgSlots tg, i ∈ own.map (·.2)) (hs : ∀ x, foldedSetIterable iter X.env x = pure x) :
    PE X (.ListComp elt [⟨tgE, iter, ifs, 0⟩] scope pos) (TT' N W (RX N True) (bnd mi fun items => blk (own.map (·.2)) items (turnM tg mc md))) :=
  (pe_lc (pos := pos) hc hN hi ok b.g b.t b.e hs).imp fun σ H Q h => lc_imp hin h
theorem ts_no : PTs X [] (TT' N W RB (pur true)) := by
  have h := pts_nil (X := X)
  refine ⟨fun pins s σ H Q I q => h.run pins s σ H Q I ?_⟩
  exact q.pur fun _ _ _ => rfl
end
end Kb

set_option Elab.async false
set_option linter.all false
set_option maxRecDepth 100000
set_option maxHeartbeats 4000000
/-! KbSt: statements. -/
namespace Kb
open PySem PySem.Spec PyProof.Rows L2 TL
def PostS (N : Cn) (W : WX) (D : Ends) (γ : Gh) (σ : L2.St) (H : Hp) (s : S) (r : Option (Rs Fl)) : Prop := match r with
  | some (.ok .nx s') => ∀ γ' σ' H', SR N γ' σ' H' s' → Xt γ σ H s γ' σ' H' s' → D.nx σ' H'
  | some (.ok .bk s') => ∀ γ' σ' H', SR N γ' σ' H' s' → Xt γ σ H s γ' σ' H' s' → D.bk σ' H'
  | some (.ok .ct s') => ∀ γ' σ' H', SR N γ' σ' H' s' → Xt γ σ H s γ' σ' H' s' → D.ct σ' H'
  | some (.ok (.rt v) s') => ∀ γ' σ' H' x, SR N γ' σ' H' s' → Xt γ σ H s γ' σ' H' s' → RX N False H (Wr γ σ s.sl) γ' H' v x → D.rt x H'
  | some (.exn q fs s') => ∀ γ' σ' H', SR N γ' σ' H' s' → Xt γ σ H s γ' σ' H' s' → Air N W σ' q fs H'
  | none => False
def TS' (N : Cn) (W : WX) (m : M Fl) : TS := fun D σ H => ∃ γ s, SR N γ σ H s ∧ PostS N W D γ σ H s (m s)
section
variable {X : Cx} {N : Cn} {W : WX} {D : Ends} {e e1 e2 e3 : Expr} {es rest : List Expr} {pos p1 p2 : Pos} {m m1 m2 m3 : M Sl} {md : M Kb.D} {ms : M (List Kb.D)} {mss : M (List Sl)} {mf mg : M Fl} {fr f1 f2 f3 : Prop}
theorem PostS.later {γ γ1 : Gh} {σ σ1 : L2.St} {H H1 : Hp} {s s1 : S} {r : Option (Rs Fl)} (h : PostS N W D γ σ H s r) (x : Xt γ σ H s γ1 σ1 H1 s1) : PostS N W D γ1 σ1 H1 s1 r := by
  cases r with
  | none => exact h
  | some r =>
    cases r with
    | exn q fs s' => exact fun γ' σ' H' a b => h γ' σ' H' a (x.trans b)
    | ok f s' =>
      cases f with
      | nx => exact fun γ' σ' H' a b => h γ' σ' H' a (x.trans b)
      | bk => exact fun γ' σ' H' a b => h γ' σ' H' a (x.trans b)
      | ct => exact fun γ' σ' H' a b => h γ' σ' H' a (x.trans b)
      | rt v => exact fun γ' σ' H' y a b c => h γ' σ' H' y a (x.trans b) (RX.late _ _ _ _ _ _ _ _ x.al x.wr c)
theorem PostS.bnd {α β : Type} {R : RelT α β} {γ : Gh} {σ : L2.St} {H : Hp} {s : S} {m : M α} {f : α → M Fl} (h : PostS N W D γ σ H s (Kb.bnd m f s)) :
    Post N W R γ σ H s (m s) fun b H1 => ∃ a s1 γ1, m s = some (.ok a s1) ∧ SR N γ1 σ H1 s1 ∧ Xe γ σ H s γ1 H1 s1 ∧ R H (Wr γ σ s.sl) γ1 H1 a b ∧ PostS N W D γ1 σ H1 s1 (f a s1) := by
  unfold Kb.bnd at h
  cases e : m s with
  | none => rw [e] at h; exact h
  | some r =>
    rw [e] at h
    cases r with
    | ok a s1 => exact fun γ1 H1 b h1 h2 h3 => ⟨a, s1, γ1, rfl, h1, h2, h3, h.later h2.ext⟩
    | exn q fs s1 => exact h
theorem _root_.L2.PS.imp {st : Stmt} {t t' : TS} (h : PS X st t) (k : ∀ D σ H, t' D σ H → t D σ H) : PS X st t' := ⟨fun pins s σ H D I q => h.run pins s σ H D I (k _ _ _ q)⟩
theorem _root_.L2.PSs.imp {st : List Stmt} {t t' : TS} (h : PSs X st t) (k : ∀ D σ H, t' D σ H → t D σ H) : PSs X st t' := ⟨fun pins s σ H D I q => h.run pins s σ H D I (k _ _ _ q)⟩
theorem _root_.L2.PS.or {st : Stmt} {t t' : TS} (h : PS X st t) (h' : PS X st t') : PS X st (fun D σ H => t D σ H ∨ t' D σ H) := ⟨fun pins s σ H D I q => q.elim (h.run pins s σ H D I) (h'.run pins s σ H D I)⟩
/-! ### small ones -/
theorem st_pass : PS X (.Pass pos) (TS' N W (pur .nx)) := ps_pass.imp fun D σ H ⟨γ, s, r, h⟩ => h γ σ H r (Ext.refl ..)
theorem st_brk : PS X (.Break pos) (TS' N W (pur .bk)) := ps_break.imp fun D σ H ⟨γ, s, r, h⟩ => h γ σ H r (Ext.refl ..)
theorem st_cnt : PS X (.Continue pos) (TS' N W (pur .ct)) := ps_continue.imp fun D σ H ⟨γ, s, r, h⟩ => h γ σ H r (Ext.refl ..)
theorem st_retN : PS X (.Return none pos) (TS' N W (pur (.rt (.val .non)))) := ps_retN.imp fun D σ H ⟨γ, s, r, h⟩ => h γ σ H .non r (Ext.refl ..) rfl
theorem st_ret (he : PE X e (TT' N W (RX N fr) m)) : PS X (.Return (some e) pos) (TS' N W (bnd m fun v => pur (.rt v))) := (ps_ret he).imp fun D σ H ⟨γ, s, r, h⟩ => ⟨γ, s, r, by
  unfold Kb.bnd at h
  cases e : m s with
  | none => rw [e] at h; exact h
  | some q =>
    rw [e] at h
    cases q with
    | exn q fs s1 => exact h
    | ok v s1 => exact fun γ1 H1 b r1 x1 rel => h γ1 σ H1 b r1 x1.ext (rel.weak False.elim)⟩
theorem st_expr (he : PE X e (TT' N W (RX N fr) m)) (hs : swapsWith e none pos.line X.env = pure false) : PS X (.Expr e pos) (TS' N W (bnd m fun _ => pur .nx)) := (ps_expr he hs).imp fun D σ H ⟨γ, s, r, h⟩ =>
  ⟨γ, s, r, (h.bnd (R := RX N fr)).mono fun b H1 ⟨a, s1, γ1, em, r1, x1, rel, h1⟩ => h1 γ1 σ H1 r1 (Ext.refl ..)⟩
theorem st_doc {x : Str} {j : Nat} : PS X (.Expr (.Constant (.str x) j p1) pos) (TS' N W (pur .nx)) := ps_doc.imp fun D σ H ⟨γ, s, r, h⟩ => h γ σ H r (Ext.refl ..)
theorem st_if {a b : List Stmt} {mt : M Bool} {ma mb : M Fl} (hc : PT X e (TT' N W RB mt)) (ha : PSs X a (TS' N W ma)) (hb : PSs X b (TS' N W mb)) : PS X (.If e a b pos) (TS' N W (bnd mt fun k => if k then ma else mb)) :=
  (ps_if hc ha hb).imp fun D σ H ⟨γ, s, r, h⟩ => ⟨γ, s, r, (h.bnd (R := RB)).mono fun k H1 ⟨k', s1, γ1, em, r1, x1, ek, h1⟩ => by
    have ek : k' = k := ek
    subst ek
    cases k' with
    | true => exact iteT ⟨γ1, s1, r1, h1⟩
    | false => exact iteF ⟨γ1, s1, r1, h1⟩⟩
/-! ### blocks -/
abbrev seqM (m1 m2 : M Fl) : M Fl := bnd m1 fun r => match r with
  | .nx => m2
  | r => pur r
theorem seq_imp {m1 m2 : M Fl} {D : Ends} {σ : L2.St} {H : Hp} (h : TS' N W (seqM m1 m2) D σ H) : tSeq (TS' N W m1) (TS' N W m2) D σ H := by
  obtain ⟨γ, s, r, h⟩ := h
  refine ⟨γ, s, r, ?_⟩
  unfold seqM Kb.bnd at h
  cases e : m1 s with
  | none => rw [e] at h; exact h
  | some q =>
    rw [e] at h
    cases q with
    | exn q fs s1 => exact h
    | ok f s1 =>
      cases f with
      | nx => exact fun γ1 σ1 H1 r1 x1 => ⟨γ1, s1, r1, PostS.later h x1⟩
      | bk => exact h
      | ct => exact h
      | rt v => exact h
theorem ss_nil : PSs X [] (TS' N W (pur .nx)) := pss_nil.imp fun D σ H ⟨γ, s, r, h⟩ => h γ σ H r (Ext.refl ..)
theorem ss_cons {st : Stmt} {ss : List Stmt} {m1 m2 : M Fl} (h1 : PS X st (TS' N W m1)) (h2 : PSs X ss (TS' N W m2)) : PSs X (st :: ss) (TS' N W (seqM m1 m2)) := (pss_cons h1 h2).imp fun D σ H h => seq_imp h
/-! ### stores -/
def isO (v : Sl) : Prop := ∀ d, v ≠ .val d
/-- what is put at a slot, told without the start -/
def Put (N : Cn) (γ : Gh) (H : Hp) : Sl → V → Prop
  | .exc, _ => False
  | .val d, v => Rel N γ H d v
  | .own xs, v => ∃ a vs, v = .ref a ∧ H a = some (.lst vs) ∧ RelL N γ H xs vs ∧ ¬γ.F a ∧ a ∉ γ.m
  | .ownd t ks ds, v => ∃ a vs o, v = .ref a ∧ dicO t ks vs = some o ∧ H a = some o ∧ RelL N γ H ds vs ∧ ¬γ.F a ∧ a ∉ γ.m
theorem RX.put {H : Hp} {V : Addr → Prop} {γ' : Gh} {H' : Hp} {v : Sl} {x : L2.V} (h : RX N fr H V γ' H' v x) : Put N γ' H' v x := by
  cases v with
  | val d => exact h
  | own xs => obtain ⟨a, vs, h1, h2, h3, h4, h5, _⟩ := h; exact ⟨a, vs, h1, h2, h3, h4, h5⟩
  | ownd t ks ds => obtain ⟨a, vs, o, h1, h2, h3, h4, h5, h6, _⟩ := h; exact ⟨a, vs, o, h1, h2, h3, h4, h5, h6⟩
  | exc => first | exact False.elim h | exact False.elim rel | exact False.elim h1 | exact False.elim q | exact False.elim h2 | cases hv
theorem isOwn_put {l : List (Option Sl)} {i j : Nat} {v : Sl} (h : isOwn (l.set i (some v)) j) : (j = i ∧ isO v) ∨ (j ≠ i ∧ isOwn l j) := by
  by_cases e : j = i
  · subst e
    refine .inl ⟨rfl, fun d z => ?_⟩
    subst z
    exact (isOwn_set h).2 rfl
  · refine .inr ⟨e, ?_⟩
    rcases h with ⟨xs, h⟩ | ⟨t, ks, vs, h⟩
    · rw [List.getElem?_set_ne (Ne.symm e)] at h; exact .inl ⟨xs, h⟩
    · rw [List.getElem?_set_ne (Ne.symm e)] at h; exact .inr ⟨t, ks, vs, h⟩
theorem SR.put {γ : Gh} {σ : L2.St} {H : Hp} {s : S} (r : SR N γ σ H s) (i : Nat) {v : Sl} {x : V} (h : Put N γ H v x) (fresh : isO v → ∀ j, j ≠ i → isOwn s.sl j → σ[j]? ≠ some (some x)) :
    SR N γ (σ.set i (some x)) H { s with sl := s.sl.set i (some v) } := by
  have at_ : ∀ (j : Nat) w, (s.sl.set i (some v))[j]? = some (some w) → (j = i ∧ w = v ∧ i < σ.length) ∨ (j ≠ i ∧ s.sl[j]? = some (some w)) := by
    intro j w hw
    by_cases e : j = i
    · subst e
      have hl : j < s.sl.length := by
        have := (List.getElem?_eq_some_iff.mp hw).1
        simpa using this
      rw [List.getElem?_set_self hl] at hw
      cases hw
      exact .inl ⟨rfl, rfl, by rw [← r.len]; exact hl⟩
    · rw [List.getElem?_set_ne (Ne.symm e)] at hw
      exact .inr ⟨e, hw⟩
  have ne : ∀ {j : Nat}, j ≠ i → (σ.set i (some x))[j]? = σ[j]? := fun e => List.getElem?_set_ne (Ne.symm e)
  have me : ∀ {y : Option V}, (σ.set i (some x))[i]? = some y → y = some x := fun {y} e => by
    by_cases hl : i < σ.length
    · rw [List.getElem?_set_self hl] at e; cases e; rfl
    · rw [List.getElem?_eq_none (by simpa using hl)] at e; cases e
  refine ⟨r.hr, by simp [r.len], fun j d' h' => ?_, fun j xs h' => ?_, fun j t ks ds h' => ?_, fun j k a h1 h2 e1 e2 => ?_, fun j a h1 e1 => ?_, fun j h' => ?_⟩
  · rcases at_ j _ h' with ⟨e, e2, hl⟩ | ⟨e, h'⟩
    · subst e2
      subst e
      exact ⟨x, List.getElem?_set_self hl, h⟩
    · rw [ne e]
      exact r.val j d' h'
  · rcases at_ j _ h' with ⟨e, e2, hl⟩ | ⟨e, h'⟩
    · subst e2
      subst e
      obtain ⟨a, vs, rfl, h2, h3, _⟩ := h
      exact ⟨a, vs, List.getElem?_set_self hl, h2, h3⟩
    · rw [ne e]
      exact r.own j xs h'
  · rcases at_ j _ h' with ⟨e, e2, hl⟩ | ⟨e, h'⟩
    · subst e2
      subst e
      obtain ⟨a, vs, o, rfl, h2, h3, h4, _⟩ := h
      exact ⟨a, vs, o, List.getElem?_set_self hl, h2, h3, h4⟩
    · rw [ne e]
      exact r.ownd j t ks ds h'
  · rcases isOwn_put h1 with ⟨n1, o1⟩ | ⟨n1, o1⟩ <;> rcases isOwn_put h2 with ⟨n2, o2⟩ | ⟨n2, o2⟩
    · rw [n1, n2]
    · subst n1
      rw [ne n2] at e2
      have := me e1
      exact absurd (by rw [e2, this]) (fresh o1 k n2 o2)
    · subst n2
      rw [ne n1] at e1
      have := me e2
      exact absurd (by rw [e1, this]) (fresh o2 j n1 o1)
    · rw [ne n1] at e1
      rw [ne n2] at e2
      exact r.sep j k a o1 o2 e1 e2
  · rcases isOwn_put h1 with ⟨n1, o1⟩ | ⟨n1, o1⟩
    · subst n1
      have := me e1
      cases this
      cases v with
      | val d => exact absurd rfl (o1 d)
      | own xs => obtain ⟨a', vs, e, _, _, h4, h5⟩ := h; cases e; exact ⟨h4, h5⟩
      | ownd t ks ds => obtain ⟨a', vs, o, e, _, _, _, h4, h5⟩ := h; cases e; exact ⟨h4, h5⟩
      | exc => first | exact False.elim h | exact False.elim rel | exact False.elim h1 | exact False.elim q | exact False.elim h2 | cases hv
    · rw [ne n1] at e1
      exact r.nf j a o1 e1
  · rcases at_ j _ h' with ⟨e, e2, hl⟩ | ⟨e, h'⟩
    · subst e2
      exact h.elim
    · rw [ne e]
      exact r.exc j h'
/-- more may be written: what was made since -/
theorem Ext.wide {Wa Wb Wc : Addr → Prop} {γ γ' : Gh} {H H' : Hp} (x : Ext Wa γ H Wb γ' H') (h : ∀ a, Wc a → Wb a ∨ Wa a ∨ Nn H a) : Ext Wa γ H Wc γ' H' :=
  ⟨x.pre, x.fm, x.fr, fun a ha => (h a ha).elim (x.wr a) id, x.fn, x.al⟩
theorem wr_put {γ : Gh} {σ : L2.St} {s : S} {i : Nat} {v : Sl} {x : V} {a : Addr} (h : Wr γ (σ.set i (some x)) (s.sl.set i (some v)) a) : Wr γ σ s.sl a ∨ (isO v ∧ x = .ref a) := by
  rcases h with h | ⟨j, h, e⟩
  · exact .inl (.inl h)
  · rcases isOwn_put h with ⟨n, o⟩ | ⟨n, o⟩
    · subst n
      by_cases hl : j < σ.length
      · rw [List.getElem?_set_self hl] at e; cases e; exact .inr ⟨o, rfl⟩
      · rw [List.getElem?_eq_none (by simpa using hl)] at e; cases e
    · rw [List.getElem?_set_ne (Ne.symm n)] at e
      exact .inl (.inr ⟨j, o, e⟩)
/-- of a fresh value: where it lies nothing stood -/
theorem RX.new {H : Hp} {V : Addr → Prop} {γ' : Gh} {H' : Hp} {v : Sl} {a : Addr} (h : RX N True H V γ' H' v (.ref a)) (o : isO v) : Nn H a := by
  cases v with
  | val d => exact absurd rfl (o d)
  | own xs => obtain ⟨a', vs, e, _, _, _, _, _, h7⟩ := h; cases e; exact h7 trivial
  | ownd t ks ds => obtain ⟨a', vs, o', e, _, _, _, _, _, _, h8⟩ := h; cases e; exact h8 trivial
  | exc => first | exact False.elim h | exact False.elim rel | exact False.elim h1 | exact False.elim q | exact False.elim h2 | cases hv
theorem RX.isRef {H : Hp} {V : Addr → Prop} {γ' : Gh} {H' : Hp} {v : Sl} {x : L2.V} (h : RX N fr H V γ' H' v x) (o : isO v) : ∃ a, x = .ref a := by
  cases v with
  | val d => exact absurd rfl (o d)
  | own xs => obtain ⟨a', vs, e, _⟩ := h; exact ⟨a', e⟩
  | ownd t ks ds => obtain ⟨a', vs, o', e, _⟩ := h; exact ⟨a', e⟩
  | exc => first | exact False.elim h | exact False.elim rel | exact False.elim h1 | exact False.elim q | exact False.elim h2 | cases hv
/-- a fresh value is put at a slot -/
theorem put_fresh {γ γ1 : Gh} {σ : L2.St} {H H1 : Hp} {s s1 : S} {v : Sl} {x : V} (i : Nat) (r : SR N γ σ H s) (r1 : SR N γ1 σ H1 s1) (x1 : Xe γ σ H s γ1 H1 s1) (h : RX N True H (Wr γ σ s.sl) γ1 H1 v x) :
    SR N γ1 (σ.set i (some x)) H1 { s1 with sl := s1.sl.set i (some v) } ∧ Xt γ σ H s γ1 (σ.set i (some x)) H1 { s1 with sl := s1.sl.set i (some v) } := by
  refine ⟨r1.put i h.put fun o j _ hj e => ?_, x1.ext.wide fun a ha => ?_⟩
  · obtain ⟨a, rfl⟩ := h.isRef o
    exact r.own_at (x1.os j hj) e (h.new o)
  · rcases wr_put ha with z | ⟨o, rfl⟩
    · exact .inl z
    · exact .inr (.inr (h.new o))
theorem set_post {i : Nat} {γ : Gh} {σ : L2.St} {H : Hp} {s : S} (r : SR N γ σ H s) (h : PostS N W D γ σ H s (Kb.bnd m (fun v => Kb.bnd (putS i v) fun _ => pur .nx) s)) : Post N W (RX N True) γ σ H s (m s) fun x H1 => D.nx (σ.set i (some x)) H1 := by
  unfold Kb.bnd at h
  cases e : m s with
  | none => rw [e] at h; exact h
  | some q =>
    rw [e] at h
    cases q with
    | exn q fs s1 => exact h
    | ok v s1 =>
      intro γ1 H1 b r1 x1 rel
      obtain ⟨r2, x2⟩ := put_fresh i r r1 x1 rel
      exact h γ1 _ H1 r2 x2
theorem st_set {i : Nat} {x : Str} (hN : X.N.Nodup) (hi : X.N[i]? = some x) (hx : Loc X.env.scope x) (hf : X.fn x = true ∨ X.env.scope.names.lookup x = some .local) (he : PE X e (TT' N W (RX N True) m)) (hs : swapsWith e (some (.Name x p1)) pos.line X.env = pure false) :
    PS X (.Assign [.Name x p1] e pos) (TS' N W (bnd m fun v => bnd (putS i v) fun _ => pur .nx)) :=
  (ps_set hN hi hx he hs hf).imp fun D σ H ⟨γ, s, r, h⟩ => ⟨γ, s, r, set_post r h⟩
theorem binD_iadd {a b : Kb.D} {w : Sl} (h : binD .iadd a b = some w) : ∃ i j, a = .int i ∧ b = .int j ∧ w = .val (.int (i + j)) := by
  cases a <;> cases b <;> first
    | (cases h; exact ⟨_, _, rfl, rfl, rfl⟩)
    | cases h
theorem st_aug {i : Nat} {x : Str} (hN : X.N.Nodup) (hi : X.N[i]? = some x) (hx : Loc X.env.scope x) (hf : X.fn x = true ∨ X.env.scope.names.lookup x = some .local) (he : PE X e (TT' N W (RX N f1) m)) :
    PS X (.AugAssign (.Name x p1) .Add e pos) (TS' N W (bnd (bnd (getS i) fun a => bnd m fun b => lft (binD .iadd a.d b.d)) fun v => bnd (putS i v) fun _ => pur .nx)) :=
  (ps_aug hN hi hx he ip_add hf).imp fun D σ H ⟨γ, s, r, h⟩ => by
    have h2 := set_post r h
    unfold Kb.bnd at h2
    unfold getS at h2
    split at h2
    · rename_i v s' ev
      split at ev
      · cases ev
      · rename_i v' nx hs
        cases ev
        obtain ⟨x, h1, rel⟩ := r.slot hs nx
        refine ⟨x, h1, γ, s, r, (Post.bnd (R := RX N f1) RX.late (f := fun b => lft (binD .iadd v.d b.d)) h2).mono fun y H1 ⟨b, s1, γ1, _, r1, x1, rel2, h3⟩ => ?_⟩
        obtain ⟨w, ew, k⟩ := h3.lft
        obtain ⟨m1, n1, ea, eb, rfl⟩ := binD_iadd ew
        have rx : x = .int m1 := by
          cases v with
          | val d =>
            obtain rfl : d = .int m1 := ea
            cases rel
            rfl
          | _ => cases ea
        have ry : y = .int n1 := by
          have q := rel2.rr
          rw [eb] at q
          cases q
          rfl
        exact ⟨m1, n1, rx, ry, k γ1 H1 (.int (m1 + n1)) r1 (Xe.refl ..) rfl⟩
      · cases ev
    · rename_i ev
      split at ev
      · cases ev
      · cases ev
      · cases ev
    · exact h2.elim
theorem st_setLc {i : Nat} {y : Str} {elt tgE iter : Expr} {ifs : List Expr} {scope : Scope} {own : List (Str × Nat)} {mi : M (List Kb.D)} {mc : M Bool} {tg : Tg} (hc : X.calm = true) (hN : X.N.Nodup) (hy : X.N[i]? = some y) (hyl : X.env.scope.names.lookup y = some .local)
    (hsw : swapsWith (.ListComp elt [⟨tgE, iter, ifs, 0⟩] scope p2) (some (.Name y p1)) pos.line X.env = pure true) (hi : PI X tgE iter (TT' N W (RI N) mi)) (ok : BlkOk X.N X.env.scope scope own) (b : BlkS X N scope tgE ifs elt tg mc md) (hin : ∀ i ∈ tgSlots tg, i ∈ own.map (·.2)) (hs : ∀ x, foldedSetIterable iter X.env x = pure x) :
    PS X (.Assign [.Name y p1] (.ListComp elt [⟨tgE, iter, ifs, 0⟩] scope p2) pos) (TS' N W (bnd (bnd mi fun items => blk (own.map (·.2)) items (turnM tg mc md)) fun v => bnd (putS i v) fun _ => pur .nx)) :=
  (ps_setLc hc hN hy hyl hsw hi ok b.g b.t b.e hs).imp fun D σ H ⟨γ, s, r, h⟩ => lc_imp hin ⟨γ, s, r, set_post r h⟩
end
end Kb

set_option Elab.async false
set_option linter.all false
set_option maxRecDepth 100000
set_option maxHeartbeats 4000000
/-! KbSt2: stores of several names, into lists and dicts; lists that grow. -/
namespace Kb
open PySem PySem.Spec PyProof.Rows L2 TL
section
variable {N : Cn}
/-! ### writes -/
/-- a slot's value is forgotten -/
theorem drop_some {l : List (Option Sl)} {i j : Nat} {v : Sl} (h : (l.set i none)[j]? = some (some v)) : j ≠ i ∧ l[j]? = some (some v) := clr_some (own := [i]) h |>.imp_left fun z => by simpa using z
theorem isOwn_drop {l : List (Option Sl)} {i j : Nat} (h : isOwn (l.set i none) j) : j ≠ i ∧ isOwn l j := isOwn_sub (P := fun j => j ≠ i) (fun j v _ e => drop_some e) h
theorem SR.drop {γ : Gh} {σ : L2.St} {H : Hp} {s : S} (r : SR N γ σ H s) (i : Nat) : SR N γ σ H { s with sl := s.sl.set i none } := by
  refine ⟨r.hr, by simp [r.len], fun j d h => r.val j d (drop_some h).2, fun j xs h => r.own j xs (drop_some h).2, fun j t ks ds h => r.ownd j t ks ds (drop_some h).2, fun j k a h1 h2 => r.sep j k a (isOwn_drop h1).2 (isOwn_drop h2).2, fun j a h => r.nf j a (isOwn_drop h).2, fun j h => r.exc j (drop_some h).2⟩
theorem SR.upd_lone' {γ : Gh} {σ : L2.St} {s : S} {H : Hp} {D : Addr} {o u : HO} (r : SR N γ σ H s) (l : Lone γ σ s D) (hD : H D = some o) (n1 : ∀ ps, o ≠ .tbl ps) (n2 : ∀ c q, o ≠ LamX.CodeO c q) (hu : ∀ ps, u ≠ .tbl ps) (hv : ∀ c q, u ≠ LamX.CodeO c q) : SR N γ σ (upd H D u) s ∧ Keep γ H γ (upd H D u) := by
  have k : Keep γ H γ (upd H D u) := ⟨fun _ _ h => h, fun _ h => h, fun a o f h _ => .inl (by
    rw [upd_ne (by rintro rfl; exact l.f f)]; exact h)⟩
  refine ⟨⟨⟨r.hr.nd, r.hr.len, fun q zs h => ?_, r.hr.nf, fun a f => ?_, tabs_upd r.hr.tabs hD n1 n2, r.hr.kb.trans k, cf_upd r.hr.cf hv⟩, r.len, fun i d h => ?_, fun i zs h => ?_, fun i t ks ds h => ?_, r.sep, r.nf, r.exc⟩, k⟩
  · obtain ⟨a, vs, h1, h2, h3⟩ := r.hr.at_ q zs h
    refine ⟨a, vs, h1, ?_, h3.keep k⟩
    rw [upd_ne (by rintro rfl; exact l.m (List.mem_of_getElem? h1))]; exact h2
  · exact fun n => r.hr.fz a f (nn_upd n hu).2
  · obtain ⟨v, h1, h2⟩ := r.val i d h
    exact ⟨v, h1, h2.keep k⟩
  · obtain ⟨a, vs, h1, h2, h3⟩ := r.own i zs h
    refine ⟨a, vs, h1, ?_, h3.keep k⟩
    rw [upd_ne (by rintro rfl; exact l.o i (.inl ⟨zs, h⟩) h1)]; exact h2
  · obtain ⟨a, vs, o, h1, h2, h3, h4⟩ := r.ownd i t ks ds h
    refine ⟨a, vs, o, h1, h2, ?_, h4.keep k⟩
    rw [upd_ne (by rintro rfl; exact l.o i (.inr ⟨t, ks, ds, h⟩) h1)]; exact h3
theorem set_self {α : Type} {l : List α} {i : Nat} {x : α} (h : l[i]? = some x) : l.set i x = l := by
  apply List.ext_getElem?
  intro j
  by_cases e : i = j
  · subst e
    have hl := (List.getElem?_eq_some_iff.mp h).1
    rw [List.getElem?_set_self hl, h]
  · rw [List.getElem?_set_ne e]
/-- what a slot's own list, dict becomes -/
def Own (N : Cn) (γ : Gh) (H : Hp) (o : HO) : Sl → Prop
  | .val _ => False
  | .exc => False
  | .own xs => ∃ vs, o = .lst vs ∧ RelL N γ H xs vs
  | .ownd t ks ds => ∃ vs, dicO t ks vs = some o ∧ RelL N γ H ds vs
theorem SR.write {γ : Gh} {σ : L2.St} {H : Hp} {s : S} {i : Nat} {a : Addr} {o u : HO} {v : Sl} (r : SR N γ σ H s) (ho : isOwn s.sl i) (e : σ[i]? = some (some (.ref a))) (hD : H a = some o) (n1 : ∀ ps, o ≠ .tbl ps) (n2 : ∀ c q, o ≠ LamX.CodeO c q) (h : Own N γ H u v) :
    SR N γ σ (upd H a u) { s with sl := s.sl.set i (some v) } ∧ Xt γ σ H s γ σ (upd H a u) { s with sl := s.sl.set i (some v) } := by
  obtain ⟨nf, nm⟩ := r.nf i a ho e
  have lone : Lone γ σ { s with sl := s.sl.set i none } a := ⟨nf, nm, fun j hj ej => by
    obtain ⟨n, hj⟩ := isOwn_drop hj
    exact n (r.sep j i a hj ho ej e)⟩
  have hu : ∀ ps, u ≠ .tbl ps := by
    cases v with
    | val d => exact h.elim
    | own xs => obtain ⟨vs, rfl, h⟩ := h; exact fun _ z => nomatch z
    | ownd t ks ds => obtain ⟨vs, h1, h⟩ := h; exact dicO_ne h1
    | exc => exact h.elim
  have hv : ∀ c q, u ≠ LamX.CodeO c q := by
    cases v with
    | val d => exact h.elim
    | own xs => obtain ⟨vs, rfl, h⟩ := h; exact fun _ _ z => nomatch z
    | ownd t ks ds => obtain ⟨vs, h1, h⟩ := h; exact dicO_nc h1
    | exc => exact h.elim
  obtain ⟨r2, k2⟩ := (r.drop i).upd_lone' (u := u) lone hD n1 n2 hu hv
  have hp : Put N γ (upd H a u) v (.ref a) := by
    cases v with
    | val d => exact h.elim
    | own xs => obtain ⟨vs, rfl, h⟩ := h; exact ⟨a, vs, rfl, upd_same, h.keep k2, nf, nm⟩
    | ownd t ks ds => obtain ⟨vs, h1, h⟩ := h; exact ⟨a, vs, u, rfl, h1, upd_same, h.keep k2, nf, nm⟩
    | exc => first | exact False.elim h | exact False.elim rel | exact False.elim h1 | exact False.elim q | exact False.elim h2 | cases hv
  have r3 := r2.put i hp fun _ j _ hj => lone.o j hj
  rw [set_self e] at r3
  have e3 : ({ s with sl := (s.sl.set i none).set i (some v) } : S) = { s with sl := s.sl.set i (some v) } := by rw [List.set_set]
  have r3 : SR N γ σ (upd H a u) { s with sl := (s.sl.set i none).set i (some v) } := r3
  rw [e3] at r3
  refine ⟨r3, fun _ _ h => h, fun _ h => h, fun b w hb n t => ?_, fun b hb => .inl ?_, fun _ h => .inl h, fun b hb => (nn_upd hb hu).2⟩
  · refine .inl ?_
    rw [upd_ne (by rintro rfl; exact n (.inr ⟨i, ho, e⟩))]; exact hb
  · rcases hb with z | ⟨j, hj, ej⟩
    · exact .inl z
    · rcases isOwn_put hj with ⟨rfl, _⟩ | ⟨_, hj⟩
      · exact .inr ⟨j, ho, ej⟩
      · exact .inr ⟨j, hj, ej⟩
/-- one of the heap's things is written -/
theorem SR.writeH {γ : Gh} {σ : L2.St} {H : Hp} {s : S} {k : Nat} {a : Addr} {xs : List Kb.D} {vs : List V} (r : SR N γ σ H s) (ea : γ.m[k]? = some a) (h : RelL N γ H xs vs) :
    SR N γ σ (upd H a (.lst vs)) { s with hp := s.hp.set k (.lst xs) } ∧ Xt γ σ H s γ σ (upd H a (.lst vs)) { s with hp := s.hp.set k (.lst xs) } := by
  have am := List.mem_of_getElem? ea
  have nf := r.hr.nf a am
  obtain ⟨us, hD⟩ := r.hr.m_at am
  have kk : Keep γ H γ (upd H a (.lst vs)) := ⟨fun _ _ h => h, fun _ h => h, fun b o f h _ => .inl (by
    rw [upd_ne (by rintro rfl; exact nf f)]; exact h)⟩
  have inj : ∀ (q : Nat) b, γ.m[q]? = some b → q ≠ k → b ≠ a := fun q b e n z => by
    subst z
    exact n ((List.getElem?_inj (List.getElem?_eq_some_iff.mp e).1 r.hr.nd).mp (by rw [e, ea]))
  refine ⟨⟨⟨r.hr.nd, by simp [r.hr.len], fun q zs hq => ?_, r.hr.nf, fun b f => ?_, tabs_lst r.hr.tabs hD, r.hr.kb.trans kk, cf_upd r.hr.cf (fun _ _ z => nomatch z)⟩, r.len, fun i d h => ?_, fun i zs h => ?_, fun i t ks ds h => ?_, r.sep, r.nf, r.exc⟩, ?_⟩
  · have hq : (s.hp.set k (.lst xs))[q]? = some (.lst zs) := hq
    by_cases e : q = k
    · subst e
      have hl : q < s.hp.length := by rw [← r.hr.len]; exact (List.getElem?_eq_some_iff.mp ea).1
      rw [List.getElem?_set_self hl] at hq
      cases hq
      exact ⟨a, vs, ea, upd_same, h.keep kk⟩
    · rw [List.getElem?_set_ne (Ne.symm e)] at hq
      obtain ⟨b, ws, h1, h2, h3⟩ := r.hr.at_ q zs hq
      exact ⟨b, ws, h1, by rw [upd_ne (inj q b h1 e)]; exact h2, h3.keep kk⟩
  · exact fun n => r.hr.fz b f (nn_upd n (fun _ z => nomatch z)).2
  · obtain ⟨v, h1, h2⟩ := r.val i d h
    exact ⟨v, h1, h2.keep kk⟩
  · obtain ⟨b, ws, h1, h2, h3⟩ := r.own i zs h
    refine ⟨b, ws, h1, ?_, h3.keep kk⟩
    rw [upd_ne (by rintro rfl; exact (r.nf i b (.inl ⟨zs, h⟩) h1).2 am)]; exact h2
  · obtain ⟨b, ws, o, h1, h2, h3, h4⟩ := r.ownd i t ks ds h
    refine ⟨b, ws, o, h1, h2, ?_, h4.keep kk⟩
    rw [upd_ne (by rintro rfl; exact (r.nf i b (.inr ⟨t, ks, ds, h⟩) h1).2 am)]; exact h3
  · refine ⟨fun _ _ h => h, fun _ h => h, fun b w hb n t => ?_, fun b hb => .inl hb, fun _ h => .inl h, fun b hb => (nn_upd hb (fun _ z => nomatch z)).2⟩
    · refine .inl ?_
      rw [upd_ne (by rintro rfl; exact n (.inl am))]; exact hb
/-! ### dicts that grow -/
theorem RelL.setV {γ : Gh} {H : Hp} {d : Kb.D} {v : V} (k : Ky) (h : Rel N γ H d v) : ∀ {ks : List Ky} {ds : List Kb.D} {vs : List V}, RelL N γ H ds vs → RelL N γ H (Kb.setV k d ks ds) (Kb.setV k v ks vs)
  | [], ds, vs, _ => by unfold Kb.setV; exact RelL.nil_iff.mpr rfl
  | q :: ks, [], _, r => by cases r; unfold Kb.setV; exact RelL.nil_iff.mpr rfl
  | q :: ks, d0 :: ds, _, ⟨u, rr, e, h1, h2⟩ => by
    subst e
    unfold Kb.setV
    refine RelL.cons ?_ (RelL.setV k h h2)
    by_cases c : k = q
    · rw [if_pos c, if_pos c]; exact h
    · rw [if_neg c, if_neg c]; exact h1
theorem RelL.putV {γ : Gh} {H : Hp} {d : Kb.D} {v : V} {k : Ky} {ks : List Ky} {ds : List Kb.D} {vs : List V} (h : Rel N γ H d v) (r : RelL N γ H ds vs) : RelL N γ H (Kb.putV k d ks ds) (Kb.putV k v ks vs) := by
  unfold Kb.putV
  split
  · exact r.setV k h
  · exact r.append (RelL.cons h (RelL.nil_iff.mpr rfl))
theorem zipK_setV {k : Ka} {v : V} : ∀ {ks : List Ky} {vs : List V} {kvs : List (Key × V)}, zipK ks vs = some kvs → zipK ks (setV (.a k) v ks vs) = some (kvs.map fun kv => if kv.1 = keyK k then (kv.1, v) else kv)
  | [], [], _, h => by cases h; rfl
  | [], _ :: _, _, h => by cases h
  | .a q :: ks, [], _, h => by cases h
  | .t q :: ks, [], _, h => by cases h
  | .t q :: ks, _ :: _, _, h => by cases h
  | .a q :: ks, u :: vs, kvs, h => by
    unfold zipK at h
    cases e : zipK ks vs with
    | none => rw [e] at h; cases h
    | some r =>
      rw [e] at h
      cases h
      unfold setV zipK
      rw [zipK_setV e, List.map_cons]
      by_cases c : k = q
      · subst c
        rw [if_pos rfl, if_pos rfl]
      · rw [if_neg (fun z => c (by cases z; rfl)), if_neg (fun z => c (keyK_inj z).symm)]
theorem zipK_app {k : Ka} {v : V} : ∀ {ks : List Ky} {vs : List V} {kvs : List (Key × V)}, zipK ks vs = some kvs → zipK (ks ++ [.a k]) (vs ++ [v]) = some (kvs ++ [(keyK k, v)])
  | [], [], _, h => by cases h; rfl
  | [], _ :: _, _, h => by cases h
  | .a q :: ks, [], _, h => by cases h
  | .t q :: ks, [], _, h => by cases h
  | .t q :: ks, _ :: _, _, h => by cases h
  | .a q :: ks, u :: vs, kvs, h => by
    unfold zipK at h
    cases e : zipK ks vs with
    | none => rw [e] at h; cases h
    | some r =>
      rw [e] at h
      cases h
      rw [List.cons_append, List.cons_append]
      unfold zipK
      rw [zipK_app e]
      rfl
theorem zipK_has {k : Ka} : ∀ {ks : List Ky} {vs : List V} {kvs : List (Key × V)}, zipK ks vs = some kvs → (kvs.any fun kv => decide (kv.1 = keyK k)) = has (.a k) ks := fun {ks vs kvs} h => by
  rw [valV_any, zipK_val k h]
  exact lookV_some (.a k) (by rw [(zipK_len h).1, (zipK_len h).2])
theorem zipK_put {k : Ka} {v : V} {ks : List Ky} {vs : List V} {kvs : List (Key × V)} (h : zipK ks vs = some kvs) : zipK (Kb.putK (.a k) ks) (Kb.putV (.a k) v ks vs) = some (L2.putK kvs (keyK k) v) := by
  unfold Kb.putK Kb.putV L2.putK
  rw [zipK_has h]
  by_cases c : has (.a k) ks = true
  · rw [if_pos c, if_pos c, if_pos c]; exact zipK_setV h
  · rw [if_neg c, if_neg c, if_neg c]; exact zipK_app h
theorem keyD_txt {γ : Gh} {H : Hp} {d : D} {k : Ky} {x : V} (ek : keyD d = some k) (rx : Rel N γ H d x) : txtKy k = true := by
  cases d with
  | int i => cases ek; rfl
  | str s =>
    cases ek
    exact List.all_eq_true.mpr fun c hc => decide_eq_true (rx.2 c hc)
  | _ => cases ek
theorem txt_put {k : Ky} {ks : List Ky} (c : ks.all txtKy = true) (h : txtKy k = true) : (Kb.putK k ks).all txtKy = true := by
  unfold Kb.putK
  split
  · exact c
  · rw [List.all_append, c]
    simp [h]
theorem dic_put {γ : Gh} {H : Hp} {a : Addr} {t : Bool} {ks : List Ky} {vs : List V} {o : HO} {d dv : Kb.D} {k : Ky} {x v : V} (h : dicO t ks vs = some o) (hD : H a = some o) (ek : keyD d = some k) (et : k.isT = t) (rx : Rel N γ H d x) (hz : ks.length < line) :
    ∃ u, DPut H a x v (upd H a u) ∧ dicO t (Kb.putK k ks) (Kb.putV k v ks vs) = some u := by
  obtain ⟨q, rfl, rfl⟩ := keyD_v ek rx
  have et : false = t := et
  subst et
  obtain ⟨_, c, kvs, e, rfl⟩ := dicO_inv h
  exact ⟨_, DPut.k hD (by rw [← (zipK_len e).1, line_eq]; exact hz), dicO_of (zipK_put e) (txt_put c (keyD_txt ek rx))⟩
end
section
variable {X : Cx} {N : Cn} {W : WX} {e e1 e2 e3 : Expr} {es rest : List Expr} {pos p1 p2 p3 : Pos} {m m1 m2 m3 : M Sl} {md mi : M Kb.D} {ms : M (List Kb.D)} {mss : M (List Sl)} {mf mg : M Fl} {fr f1 f2 f3 : Prop}
/-! ### several stores at once -/
def RXl (N : Cn) (H : Hp) (W : Addr → Prop) (γ' : Gh) (H' : Hp) : List Sl → List V → Prop
  | [], vs => vs = []
  | e :: es, vs => ∃ v r, vs = v :: r ∧ RX N True H W γ' H' e v ∧ (isO e → ∀ (j : Nat) e', es[j]? = some e' → isO e' → r[j]? ≠ some v) ∧ RXl N H W γ' H' es r
def RXs (N : Cn) : RelT (List Sl) (List V) := RXl N
theorem RXl.late {H H1 : Hp} {W0 W1 : Addr → Prop} {γ' : Gh} {H' : Hp} (al : ∀ x, Nn H1 x → Nn H x) (wr : ∀ x, W1 x → W0 x ∨ Nn H x) : ∀ {a : List Sl} {b : List V}, RXl N H1 W1 γ' H' a b → RXl N H W0 γ' H' a b
  | [], _, h => h
  | e :: es, _, ⟨v, r, e1, h1, h2, h3⟩ => ⟨v, r, e1, RX.late _ _ _ _ _ _ _ _ al wr h1, h2, RXl.late al wr h3⟩
theorem RXs.late : Late (RXs N) := fun _ _ _ _ _ _ _ _ al wr h => RXl.late al wr h
theorem RXl.new {H : Hp} {W0 : Addr → Prop} {γ' : Gh} {H' : Hp} : ∀ {a : List Sl} {b : List V}, RXl N H W0 γ' H' a b → ∀ (j : Nat) e x, a[j]? = some e → isO e → b[j]? = some (.ref x) → Nn H x
  | [], _, h, j, e, x, e1, _, _ => by simp at e1
  | e0 :: es, _, ⟨v, r, q, h1, h2, h3⟩, 0, e, x, e1, o, e2 => by
    subst q
    simp at e1 e2
    subst e1
    subst e2
    exact h1.new o
  | e0 :: es, _, ⟨v, r, q, h1, h2, h3⟩, j + 1, e, x, e1, o, e2 => by
    subst q
    exact RXl.new h3 j e x (by simpa using e1) o (by simpa using e2)
/-- a fresh value outlives what is reckoned after it -/
theorem RX.live {γ γ1 γ2 : Gh} {σ : L2.St} {H H1 H2 : Hp} {s s1 s2 : S} {v : Sl} {x : V} (r : SR N γ σ H s) (x1 : Xe γ σ H s γ1 H1 s1) (r1 : SR N γ1 σ H1 s1) (x2 : Xe γ1 σ H1 s1 γ2 H2 s2) (h : RX N True H (Wr γ σ s.sl) γ1 H1 v x) : RX N True H (Wr γ σ s.sl) γ2 H2 v x := by
  have k := r1.keepE x2
  have nf : ∀ (a : Addr) o, H1 a = some o → (∀ ps, o ≠ .tbl ps) → ¬γ1.F a → a ∉ γ1.m → Nn H a → ¬γ2.F a ∧ a ∉ γ2.m := fun a o hD ht n1 n2 hn => by
    refine ⟨fun z => ?_, fun z => ?_⟩
    · rcases x2.fn a z with z | (z | ⟨j, hj, ej⟩) | z
      · exact n1 z
      · exact n2 z
      · exact r.own_at (x1.os j hj) ej hn
      · exact z.no hD ht
    · rcases x2.mn a z with z | z
      · exact n2 z
      · exact z.no hD ht
  cases v with
  | val d => exact Rel.keep k h
  | own xs =>
    obtain ⟨a, vs, h1, h2, h3, h4, h5, h6, h7⟩ := h
    obtain ⟨q1, q2⟩ := nf a _ h2 (fun _ z => nomatch z) h4 h5 (h7 trivial)
    exact ⟨a, vs, h1, (x2.fr a _ h2 h5 (fun _ z => nomatch z)).eq (fun _ z => nomatch z), h3.keep k, q1, q2, h6, h7⟩
  | ownd t ks ds =>
    obtain ⟨a, vs, o, h1, h2, h3, h4, h5, h6, h7, h8⟩ := h
    obtain ⟨q1, q2⟩ := nf a _ h3 (dicO_ne h2) h5 h6 (h8 trivial)
    exact ⟨a, vs, o, h1, h2, (x2.fr a _ h3 h6 (dicO_ne h2)).own q1, h4.keep k, q1, q2, h7, h8⟩
  | exc => first | exact False.elim h | exact False.elim rel | exact False.elim h1 | exact False.elim q | exact False.elim h2 | cases hv
theorem RX.there {H : Hp} {W0 : Addr → Prop} {γ' : Gh} {H' : Hp} {v : Sl} {a : Addr} (h : RX N fr H W0 γ' H' v (.ref a)) (o : isO v) : ¬Nn H' a := by
  cases v with
  | val d => exact absurd rfl (o d)
  | own xs => obtain ⟨a', vs, e, h2, _⟩ := h; cases e; exact fun n => n.lst h2
  | ownd t ks ds => obtain ⟨a', vs, o', e, h3, h2, _⟩ := h; cases e; exact fun n => n.no h2 (dicO_ne h3)
  | exc => first | exact False.elim h | exact False.elim rel | exact False.elim h1 | exact False.elim q | exact False.elim h2 | cases hv
theorem cs_nil : PA X [] (TT' N W (RXs N) (pur [])) := pa_nil.imp fun σ H Q h => h.pur fun _ _ _ => rfl
theorem cs_cons (he : PE X e (TT' N W (RX N True) m)) (hs : PA X es (TT' N W (RXs N) mss)) (hn : notStar e = true) : PA X (e :: es) (TT' N W (RXs N) (bnd m fun d => bnd mss fun ds => pur (d :: ds))) :=
  (pa_cons he hs (star_of hn)).imp fun σ H Q ⟨γ, s, r, h⟩ => ⟨γ, s, r, by
    unfold Kb.bnd at h
    cases em : m s with
    | none => rw [em] at h; exact h
    | some q =>
      rw [em] at h
      cases q with
      | exn q fs s1 => exact h
      | ok d s1 =>
        intro γ1 H1 x r1 x1 rel
        refine ⟨γ1, s1, r1, ?_⟩
        dsimp only at h
        cases em2 : mss s1 with
        | none => rw [em2] at h; exact h
        | some q2 =>
          rw [em2] at h
          cases q2 with
          | exn q fs s2 => exact fun γ' σ' H' a1 a2 => h γ' σ' H' a1 (x1.ext.trans a2)
          | ok ds s2 =>
            intro γ2 H2 xs r2 x2 rel2
            refine h γ2 H2 (x :: xs) r2 (x1.trans x2) ⟨x, xs, rfl, RX.live r x1 r1 x2 rel, fun o j e' e1 o' e2 => ?_, RXl.late x1.al x1.ext.wr rel2⟩
            obtain ⟨a, rfl⟩ := rel.isRef o
            exact rel.there o (RXl.new rel2 j e' a e1 o' e2)⟩
theorem puts {γ : Gh} {H H0 : Hp} {W0 : Addr → Prop} : ∀ {is : List Nat} {es : List Sl} {vs : List V} {σ : L2.St} {s s' : S}, SR N γ σ H s → RXl N H0 W0 γ H es vs → (∀ (j : Nat) e x, es[j]? = some e → isO e → vs[j]? = some x → ∀ k, isOwn s.sl k → σ[k]? ≠ some (some x)) → putOs is es s = some (.ok () s') →
    SR N γ (sets is vs σ) H s' ∧ s'.hp = s.hp ∧ ∀ a, Wr γ (sets is vs σ) s'.sl a → Wr γ σ s.sl a ∨ Nn H0 a
  | [], [], _, σ, s, s', r, h, _, e => by
    cases e
    have h : _ = [] := h
    subst h
    unfold sets
    exact ⟨r, rfl, fun a h => .inl h⟩
  | [], _ :: _, _, _, _, _, _, _, _, e => by cases e
  | _ :: _, [], _, _, _, _, _, _, _, e => by cases e
  | i :: is, e0 :: es, _, σ, s, s', r, ⟨v, rr, q, h1, h2, h3⟩, fresh, e => by
    subst q
    obtain ⟨_, s1, e1, e⟩ := bnd_ok (show bnd (putS i e0) (fun _ => putOs is es) s = some (.ok () s') from e)
    cases e1
    have r1 := r.put i h1.put fun o j _ hj => fresh 0 e0 v rfl o rfl j hj
    obtain ⟨r2, hp, hw⟩ := puts r1 h3 (fun j e' x ej o ex k hk => by
      rcases isOwn_put hk with ⟨rfl, o'⟩ | ⟨n, hk⟩
      · intro z
        by_cases hl : k < σ.length
        · rw [List.getElem?_set_self hl] at z
          cases z
          exact h2 o' j e' ej o ex
        · rw [List.getElem?_eq_none (by simpa using hl)] at z; cases z
      · rw [List.getElem?_set_ne (Ne.symm n)]
        exact fresh (j + 1) e' x (by simpa using ej) o (by simpa using ex) k hk) e
    unfold sets
    refine ⟨r2, hp, fun a ha => ?_⟩
    rcases hw a ha with z | z
    · rcases wr_put z with z | ⟨o, rfl⟩
      · exact .inl z
      · exact .inr (h1.new o)
    · exact .inr z
theorem putOs_exn : ∀ {is : List Nat} {es : List Sl} {s s' : S} {q : Nat} {fs : List Kb.D}, putOs is es s ≠ some (.exn q fs s')
  | [], [], _, _, _, _, e => by cases e
  | [], _ :: _, _, _, _, _, e => by cases e
  | _ :: _, [], _, _, _, _, e => by cases e
  | i :: is, v :: vs, s, s', q, fs, e => by
    have e : putOs is vs { s with sl := s.sl.set i (some v) } = some (.exn q fs s') := e
    exact putOs_exn e
abbrev parM (is : List Nat) (mss : M (List Sl)) : M Fl := bnd mss fun vs => bnd (putOs is vs) fun _ => pur .nx
theorem par_post {is : List Nat} {D : Ends} {γ : Gh} {σ : L2.St} {H : Hp} {s : S} (r : SR N γ σ H s) (h : PostS N W D γ σ H s (parM is mss s)) : Post N W (RXs N) γ σ H s (mss s) fun vs H1 => (∃ es s1, mss s = some (.ok es s1) ∧ es.length = vs.length ∧ is.length = es.length) ∧ D.nx (sets is vs σ) H1 := by
  unfold parM Kb.bnd at h
  cases em : mss s with
  | none => rw [em] at h; exact h
  | some q =>
    rw [em] at h
    cases q with
    | exn q fs s1 => exact h
    | ok es s1 =>
      intro γ1 H1 vs r1 x1 rel
      dsimp only at h
      cases ep : putOs is es s1 with
      | none => rw [ep] at h; exact h.elim
      | some q =>
        rw [ep] at h
        cases q with
        | exn q fs s2 => exact absurd ep putOs_exn
        | ok u s2 =>
          obtain ⟨r2, hp, hw⟩ := puts r1 rel (fun j e x ej o ex k hk ek => by
            have : ∃ a, x = .ref a := by
              rcases hk with ⟨xs, hk⟩ | ⟨t, ks, ds, hk⟩
              · obtain ⟨a, vs, e1, _⟩ := r1.own k xs hk
                rw [e1] at ek; cases ek; exact ⟨a, rfl⟩
              · obtain ⟨a, vs, o, e1, _⟩ := r1.ownd k t ks ds hk
                rw [e1] at ek; cases ek; exact ⟨a, rfl⟩
            obtain ⟨a, rfl⟩ := this
            exact r.own_at (x1.os k hk) ek (RXl.new rel j e a ej o ex)) ep
          refine ⟨⟨es, s1, rfl, ?_, ?_⟩, h γ1 _ H1 r2 (x1.ext.wide fun a ha => (hw a ha).elim .inl fun z => .inr (.inr z))⟩
          · have : ∀ {es : List Sl} {vs : List V}, RXl N H (Wr γ σ s.sl) γ1 H1 es vs → es.length = vs.length := by
              intro es
              induction es with
              | nil => intro vs h; have h : vs = [] := h; subst h; rfl
              | cons e es ih => intro vs ⟨v, r, q, _, _, h3⟩; subst q; simp [ih h3]
            exact this rel
          · have : ∀ {is : List Nat} {es : List Sl} {s s' : S}, putOs is es s = some (.ok () s') → is.length = es.length := by
              intro is
              induction is with
              | nil => intro es s s' h; cases es <;> first | rfl | cases h
              | cons i is ih =>
                intro es s s' h
                cases es with
                | nil => cases h
                | cons e es =>
                  obtain ⟨_, s1, _, h⟩ := bnd_ok (show bnd (putS i e) (fun _ => putOs is es) s = some (.ok () s') from h)
                  simp [ih h]
            exact this ep
theorem st_par2 {i j : Nat} {x y : Str} {px py pt pt2 : Pos} {kt k2 : Nat} (hc : X.calm = true) (hN : X.N.Nodup) (hi : X.N[i]? = some x) (hj : X.N[j]? = some y) (hij : i ≠ j)
    (hx : X.env.scope.names.lookup x = some .local) (hy : X.env.scope.names.lookup y = some .local) (ha : PA X [e1, e2] (TT' N W (RXs N) mss))
    (hw : swappedStores [.Tuple [.Name x px, .Name y py] kt pt] (.Tuple [e1, e2] k2 pt2) X.env = pure (some [x, y])) :
    PS X (.Assign [.Tuple [.Name x px, .Name y py] kt pt] (.Tuple [e1, e2] k2 pt2) pos) (TS' N W (parM [i, j] mss)) :=
  (ps_par hc hN hi hj hij hx hy ha hw).imp fun D σ H ⟨γ, s, r, h⟩ => ⟨γ, s, r, (par_post r h).mono fun vs H1 ⟨⟨es, s1, _, l1, l2⟩, h1⟩ => by
    rw [← l2] at l1
    match vs, l1 with
    | [v, w], _ => exact ⟨v, w, rfl, h1⟩⟩
theorem st_par3 {i j l : Nat} {x y z : Str} {px py pz pt pt2 : Pos} {kt k2 : Nat} (hc : X.calm = true) (hN : X.N.Nodup) (hi : X.N[i]? = some x) (hj : X.N[j]? = some y) (hl : X.N[l]? = some z) (hij : i ≠ j) (hil : i ≠ l) (hjl : j ≠ l)
    (hx : X.env.scope.names.lookup x = some .local) (hy : X.env.scope.names.lookup y = some .local) (hz : X.env.scope.names.lookup z = some .local) (ha : PA X [e1, e2, e3] (TT' N W (RXs N) mss))
    (hw : swappedStores [.Tuple [.Name x px, .Name y py, .Name z pz] kt pt] (.Tuple [e1, e2, e3] k2 pt2) X.env = pure (some [x, y, z])) :
    PS X (.Assign [.Tuple [.Name x px, .Name y py, .Name z pz] kt pt] (.Tuple [e1, e2, e3] k2 pt2) pos) (TS' N W (parM [i, j, l] mss)) :=
  (ps_par3 hc hN hi hj hl hij hil hjl hx hy hz ha hw).imp fun D σ H ⟨γ, s, r, h⟩ => ⟨γ, s, r, (par_post r h).mono fun vs H1 ⟨⟨es, s1, _, l1, l2⟩, h1⟩ => by
    rw [← l2] at l1
    match vs, l1 with
    | [u, v, w], _ => exact ⟨u, v, w, rfl, h1⟩⟩
end
end Kb

set_option Elab.async false
set_option linter.all false
set_option maxRecDepth 100000
set_option maxHeartbeats 4000000
/-! KbDc: dicts made by comprehensions. -/
namespace L2
open PySem PySem.Spec PyProof.Rows
variable {X : Cx}
theorem sw_trueD {kx vx : Expr} {gs : List Comprehension} {scope : Scope} {pos py : Pos} {y : Str} {l : Nat} {env : Env} (hk : env.scope.kind = .function) (hy : env.scope.names.lookup y = some .local) (hl : (py.line == pos.line) = true)
    (ha : (scope.names.any fun (n, k) => n == y && (k == .local || k == .cell)) = false) : swapsWith (.DictComp kx vx gs scope pos) (some (.Name y py)) l env = pure true := by
  have ky : env.kindOf y = some .local := hy
  have hb : env.blockKind = .function := by unfold Env.blockKind; rw [hk]; rfl
  unfold swapsWith
  simp only [hb, ky, ha, Expr.pos, hl]
  rfl
theorem ps_setDc {i : Nat} {y : Str} {py : Pos} {kx vx tg iter : Expr} {ifs : List Expr} {scope : Scope} {own : List (Str × Nat)} {pos spos : Pos} {wi : TI} {g : TG} {tt : TT} {tk tv : TE} (hc : X.calm = true) (hN : X.N.Nodup) (hy : X.N[i]? = some y) (hyl : X.env.scope.names.lookup y = some .local)
    (hsw : swapsWith (.DictComp kx vx [⟨tg, iter, ifs, 0⟩] scope pos) (some (.Name y py)) spos.line X.env = pure true) (hi : PI X tg iter wi) (ok : BlkOk X.N X.env.scope scope own)
    (hg : ∀ (s : Shared) (H : Hp) (C : Addr) (cl : List (Str × Addr)) (fp : List Addr), PG (X.blk s H scope (compEnvC scope cl C X.env) fp) tg g) (ht : ∀ (s : Shared) (H : Hp) (C : Addr) (cl : List (Str × Addr)) (fp : List Addr), PTs (X.blk s H scope (compEnvC scope cl C X.env) fp) ifs tt)
    (hk : ∀ (s : Shared) (H : Hp) (C : Addr) (cl : List (Str × Addr)) (fp : List Addr), PE (X.blk s H scope (compEnvC scope cl C X.env) fp) kx tk)
    (he : ∀ (s : Shared) (H : Hp) (C : Addr) (cl : List (Str × Addr)) (fp : List Addr), PE (X.blk s H scope (compEnvC scope cl C X.env) fp) vx tv) (hs : ∀ x, foldedSetIterable iter X.env x = pure x) :
    PS X (.Assign [.Name y py] (.DictComp kx vx [⟨tg, iter, ifs, 0⟩] scope pos) spos) (tAsg (tDc wi g tt tk tv (own.map (·.2))) (gName i)) := by
  refine ⟨fun pins s σ H D I h => ?_⟩
  rw [exec_Assign_Name_used _ _ _ _ hsw]
  refine wpAny_bind (wpAny_standAt (wpAny_bind ?_))
  show wpAny _ X.A (do let _ ← comprehension (.DictComp kx vx [⟨tg, iter, ifs, 0⟩] scope pos) scope X.env (firstIterPos [⟨tg, iter, ifs, 0⟩] pos) newDict false (eval iter X.env) (some (assign (.Name y py) X.env))) _ _ s
  have h : tDc wi g tt tk tv (own.map (·.2)) σ H (fun x H1 => gName i x σ H1 D.nx) := h
  refine wpAny_bind (thn (dc_core (Qf := fun _ s' => SP X pins D .next s') hc hN I hi ok hg ht hk he hs h fun L C s' m H' I' q hn f => ?_) fun _ s' hq => wpAny_pure (wpAny_pure hq))
  show wpAny _ _ (assign (.Name y py) X.env (.ref L)) _ _ _
  refine wpAny_assign_Name (store_ok2 (v := V.ref L) I' hN hy (.inl hyl) rfl (fun s2 I2 ⟨a, sb, ha⟩ => ?_) (.inr hyl))
  obtain ⟨f0, f1, f2, f3, f4, f5⟩ := f
  have haC : C ≠ a := by
    rcases ha with z | z
    · rw [z]; exact f1
    · exact fun e => f4 y a z e.symm
  refine ⟨m, hn.sameBut sb haC, fun h3 sb3 => ?_⟩
  exact ⟨_, H', I2.turned (t' := s2.toks) (fun b o hb e => (sb3.2 b hb).trans e) f0 f1 f3 f4 f5, q⟩
end L2
namespace Kb
open PySem PySem.Spec PyProof.Rows L2 TL
section
variable {X : Cx} {N : Cn} {W : WX}
/-- a pair of an entry -/
abbrev pairM (mk mv : M Kb.D) : M Kb.D := bnd mk fun x => bnd mv fun y => pur (Kb.D.tup [x, y])
def Dc (N : Cn) (γ0 : Gh) (σ : L2.St) (H0 : Hp) (s0 : S) (D : Addr) (own : List Nat) (f : Kb.D → M (Option Kb.D)) (items : List Kb.D) (w : Sl) (sf : S) (i : Nat) (H : Hp) : Prop :=
  ∃ γ s ks vs ws kvs r, SR N γ (wipe σ own) H { s with sl := clr own s.sl } ∧ Xe γ0 σ H0 s0 γ H { s with sl := clr own s.sl } ∧ Lone γ (wipe σ own) { s with sl := clr own s.sl } D ∧
    H D = some (.dK kvs) ∧ zipK ks ws = some kvs ∧ ks.all txtKy = true ∧ RelL N γ H vs ws ∧ ks.length ≤ i ∧ i ≤ items.length ∧ compL (fun d => bnd (clrM own) fun _ => f d) (items.drop i) s = some (.ok r sf) ∧ dicP r ks vs = some w
theorem dc_turn {γ0 : Gh} {σ : L2.St} {H0 : Hp} {s0 : S} {D : Addr} {own : List Nat} {tg : Tg} {mc : M Bool} {mk mv : M Kb.D} {items : List Kb.D} {w : Sl} {sf : S} {J : L2.It} (hin : ∀ i ∈ tgSlots tg, i ∈ own) (hw : WalkOk N γ0 H0 J items) (hk : ∀ a, Wr γ0 σ s0.sl a → ¬γ0.F a) (hz : items.length ≤ line) (hD0 : H0 D = none)
    {i : Nat} {H : Hp} (h : Dc N γ0 σ H0 s0 D own (turnM tg mc (pairM mk mv)) items w sf i H) (hi : i < items.length) {x : V} {H' : Hp} (hy : J.yld i H x H') :
    TGt N tg x (wipe σ own) H' fun σ2 H2 => wipe σ2 own = wipe σ own ∧ TT' N WF RB mc σ2 H2 fun b H3 =>
      if b = true then TT' N WF (RD N) mk σ2 H3 fun y H4 => TT' N WF (RD N) mv σ2 H4 fun z H5 => ∃ kvs k, y = kV k ∧ H5 D = some (.dK kvs) ∧ kvs.length < sizeLine ∧ Dc N γ0 σ H0 s0 D own (turnM tg mc (pairM mk mv)) items w sf (i + 1) (upd H5 D (.dK (L2.putK kvs k z)))
      else Dc N γ0 σ H0 s0 D own (turnM tg mc (pairM mk mv)) items w sf (i + 1) H3 := by
  obtain ⟨γ, s, ks, vs0, ws, kvs, r, r1, x1, l1, hD, hzk, htx, hr, hyl, hil, hc, hdp⟩ := h
  have k1 : Keep γ0 H0 γ H := x1.ext.keep hk
  rw [List.drop_eq_getElem_cons hi] at hc
  obtain ⟨o, sa, h1, hc⟩ := bnd_ok (show bnd (bnd (clrM own) fun _ => turnM tg mc (pairM mk mv) items[i]) (fun o => bnd (compL (fun d => bnd (clrM own) fun _ => turnM tg mc (pairM mk mv) d) (items.drop (i + 1))) fun ys => pur (match o with
    | some y => y :: ys
    | none => ys)) s = some (.ok r sf) from hc)
  obtain ⟨r', sb, h2, hc⟩ := bnd_ok hc
  cases hc
  obtain ⟨_, sc, h3, h1⟩ := bnd_ok h1
  cases h3
  obtain ⟨_, s1, ht, h1⟩ := bnd_ok h1
  obtain ⟨k, s2, hm, h1⟩ := bnd_ok h1
  have hd : items[i]? = some items[i] := List.getElem?_eq_getElem hi
  obtain ⟨γ1, r2, x2, rel⟩ := (hw.yld γ H k1 i _ hd x H' hy).xe r1
  have l2 := l1.step hD (fun _ z => nomatch z) x2
  have dk : ∀ {γa : Gh} {Ha Hb : Hp} {σa : L2.St} {sa' sb' : S} {γb : Gh}, Lone γa σa sa' D → SR N γb σa Hb sb' → Xe γa σa Ha sa' γb Hb sb' → Ha D = some (.dK kvs) → Hb D = some (.dK kvs) := fun {γa Ha Hb σa sa' sb' γb} la rb xx e => (xx.fr D _ e la.m (fun _ z => nomatch z)).own fun z => (la.step e (fun _ z => nomatch z) xx).f z
  have hD2 : H' D = some (.dK kvs) := dk l1 r2 x2 hD
  have hr2 := hr.keep (r1.keepE x2)
  refine ⟨γ1, _, items[i], s1, r2, rel, ht, fun vs r3 x3 hp ow => ⟨by rw [wipe_sets hin, wipe_twice], γ1, s1, r3, ?_⟩⟩
  have x3' : Xe γ1 (wipe σ own) H' { s with sl := clr own s.sl } γ1 H' s1 := Xe.slots fun j hj => (ow j hj).1
  have back : ∀ (j : Nat) a, isOwn s1.sl j → (sets (tgSlots tg) vs (wipe σ own))[j]? = some (some (.ref a)) → (wipe σ own)[j]? = some (some (.ref a)) := fun j a hj e => by
    rw [sets_out (ow j hj).2] at e; exact e
  have wback : ∀ (j : Nat) (a : Addr), (wipe σ own)[j]? = some (some (V.ref a)) → σ[j]? = some (some (.ref a)) := fun j a e => (wipe_some e).1
  rw [hm]
  intro γ2 H2 b r4 x4 eb
  have eb : k = b := eb
  subst eb
  have l3 : Lone γ1 (wipe σ own) s1 D := l2.step hD2 (fun _ z => nomatch z) x3'
  have x4' := x4.of back
  have l4 : Lone γ2 (wipe σ own) s2 D := l3.step hD2 (fun _ z => nomatch z) x4'
  have hD4 : H2 D = some (.dK kvs) := (x4.fr D _ hD2 l3.m (fun _ z => nomatch z)).own l4.f
  have hr4 := hr2.keep (r3.keepE x4)
  have xx : Xe γ0 σ H0 s0 γ2 H2 s2 := x1.trans ((x2.of fun j a _ => wback j a).trans ((x3'.of fun j a _ => wback j a).trans (x4'.of fun j a _ => wback j a)))
  have clx : ∀ {γ' : Gh} {H' : Hp} {s' : S}, Xe γ0 σ H0 s0 γ' H' s' → Xe γ0 σ H0 s0 γ' H' { s' with sl := clr own s'.sl } := fun x => { x with os := fun j hj => x.os j (isOwn_clr hj).2 }
  have clo : ∀ {γ' : Gh} {s' : S}, Lone γ' (wipe σ own) s' D → Lone γ' (wipe σ own) { s' with sl := clr own s'.sl } D := fun l => ⟨l.f, l.m, fun j hj => l.o j (isOwn_clr hj).2⟩
  have clsr : ∀ {γ' : Gh} {H' : Hp} {s' : S}, SR N γ' (sets (tgSlots tg) vs (wipe σ own)) H' s' → SR N γ' (wipe σ own) H' { s' with sl := clr own s'.sl } := fun r => by
    have := r.clr own
    rw [wipe_sets hin, wipe_twice] at this
    exact this
  cases k with
  | false =>
    rw [if_neg Bool.false_ne_true] at h1 ⊢
    cases h1
    exact ⟨γ2, _, ks, vs0, ws, kvs, r', clsr r4, clx xx, clo l4, hD4, hzk, htx, hr4, by omega, hi, h2, hdp⟩
  | true =>
    rw [if_pos rfl] at h1 ⊢
    obtain ⟨yd, s3, he, h1⟩ := bnd_ok h1
    cases h1
    obtain ⟨ka, s4, hka, he⟩ := bnd_ok he
    obtain ⟨kb, s5, hkb, he⟩ := bnd_ok he
    cases he
    refine ⟨γ2, s2, r4, ?_⟩
    rw [hka]
    intro γ3 H3 y r5 x5 rel5
    have x5' := x5.of fun j a hj => back j a (x4.os j hj)
    have l5 : Lone γ3 (wipe σ own) s4 D := l4.step hD4 (fun _ z => nomatch z) x5'
    have hD5 : H3 D = some (.dK kvs) := (x5.fr D _ hD4 l4.m (fun _ z => nomatch z)).own l5.f
    have hr5 := hr4.keep (r4.keepE x5)
    have xx5 := xx.trans (x5'.of fun j a _ => wback j a)
    refine ⟨γ3, s4, r5, ?_⟩
    rw [hkb]
    intro γ4 H4 z r6 x6 rel6
    have x6' := x6.of fun j a hj => back j a (x4.os j (x5.os j hj))
    have l6 : Lone γ4 (wipe σ own) sa D := l5.step hD5 (fun _ z => nomatch z) x6'
    have hD6 : H4 D = some (.dK kvs) := (x6.fr D _ hD5 l5.m (fun _ z => nomatch z)).own l6.f
    have hr6 := hr5.keep (r5.keepE x6)
    have xx6 := xx5.trans (x6'.of fun j a _ => wback j a)
    have rel5 : Rel N γ4 H4 ka y := Rel.keep (r5.keepE x6) rel5
    have hdp : (match keyD ka with
      | some q => dicP r' (Kb.putK q ks) (Kb.putV q kb ks vs0)
      | none => none) = some w := hdp
    cases ek : keyD ka with
    | none => rw [ek] at hdp; cases hdp
    | some q =>
      rw [ek] at hdp
      have tk := keyD_txt ek rel5
      obtain ⟨kk, rfl, rfl⟩ := keyD_v ek rel5
      have zp := zipK_put (k := kk) (v := z) hzk
      obtain ⟨r7, k7⟩ := (clsr r6).upd_lone' (clo l6) hD6 (fun _ z => nomatch z) (fun _ _ z => nomatch z) (u := .dK (L2.putK kvs (keyK kk) z)) (fun _ z => nomatch z) (fun _ _ z => nomatch z)
      have x7 := (clx xx6).updD (o := .dK (L2.putK kvs (keyK kk) z)) hD0 (fun _ z => nomatch z)
      have kl := (zipK_len hzk).1
      refine ⟨kvs, keyK kk, rfl, hD6, by rw [← kl, line_eq]; omega, γ4, _, _, _, _, _, r', r7, x7, clo l6, upd_same, zp, txt_put htx tk, RelL.keep k7 (hr6.putV rel6), ?_, hi, h2, hdp⟩
      unfold Kb.putK
      split
      · omega
      · simp; omega
theorem dc_imp {own : List Nat} {tg : Tg} {mi : M (List Kb.D)} {mc : M Bool} {mk mv : M Kb.D} {σ : L2.St} {H : Hp} {Q : VK} (hin : ∀ i ∈ tgSlots tg, i ∈ own)
    (h : TT' N W (RX N True) (bnd mi fun items => blkD own items (turnM tg mc (pairM mk mv))) σ H Q) : tDc (TT' N W (RI N) mi) (TGt N tg) (TT' N WF RB mc) (TT' N WF (RD N) mk) (TT' N WF (RD N) mv) own σ H Q := by
  obtain ⟨γ, s, r, h⟩ := h
  refine ⟨γ, s, r, (h.bnd RX.late).mono fun J H1 ⟨items, s1, γ1, em, r1, x1, hw, h1⟩ D hD => ?_⟩
  have hw : WalkOk N γ1 H1 J items := hw
  unfold blkD blk at h1
  dsimp only at h1
  split at h1
  · rename_i ps0 s0 hb
    split at hb
    · rename_i hz
      split at hb
      · rename_i zs sf hc
        cases hb
        split at h1
        · rename_i w hdp
          refine ⟨fun i m Hh => m = items.length - i ∧ Dc N γ1 σ H1 s1 D own (turnM tg mc (pairM mk mv)) items w sf i Hh, ⟨items.length, by simp, ?_⟩, ?_⟩
          · have nm : D ∉ γ1.m := fun z => by
              obtain ⟨vs, e⟩ := r1.hr.m_at z
              rw [hD] at e
              cases e
            have lone : Lone γ1 σ s1 D := ⟨fun z => r1.hr.fz D z (.of hD), nm, fun i hi e => r1.own_at hi e (.of hD)⟩
            have r2 := r1.upd_new (o := .dK []) hD (fun _ z => nomatch z) (fun _ _ z => nomatch z) γ1.F (fun a => ⟨.inl, fun h => h.elim id fun z => z.2 ▸ z.1⟩)
            exact ⟨γ1, s1, [], [], [], [], _, r2.1.clr own, { (Xe.refl γ1 σ H1 s1).updD (o := .dK []) hD (fun _ z => nomatch z) with os := fun j hj => (isOwn_clr hj).2 }, ⟨lone.f, lone.m, fun i hi e => lone.o i (isOwn_clr hi).2 (wipe_some e).1⟩, upd_same, rfl, rfl, rfl, Nat.le_refl _, Nat.zero_le _, hc, hdp⟩
          · rintro i m Hh ⟨rfl, l⟩
            have l0 := l
            obtain ⟨γ, s, ks, vs, ws, kvs, rr, a1, a2, a3, a4, a5, a6, a7, a8, a9, a10, a11⟩ := l0
            have kk : Keep γ1 H1 γ Hh := a2.ext.keep r1.nfw
            by_cases hi : i < items.length
            · refine .inr ⟨hw.go γ Hh kk i hi, fun H' => Dc N γ1 σ H1 s1 D own (turnM tg mc (pairM mk mv)) items w sf (i + 1) H', fun H' l' => ⟨items.length - (i + 1), by omega, rfl, l'⟩, fun x H' hy => dc_turn hin hw r1.nfw hz hD l hi hy⟩
            · obtain rfl : i = items.length := by omega
              refine .inl ⟨hw.stop γ Hh kk, ?_⟩
              rw [List.drop_length] at a10
              cases a10
              cases a11
              have rb := r1.back a1 kk
              refine h1 γ Hh (.ref D) rb { a2 with os := fun j hj => ?_ } ?_
              · obtain ⟨n, hj⟩ := isOwn_bck hj
                refine a2.os j ?_
                rcases hj with ⟨xs, hj⟩ | ⟨t, ks, vs, hj⟩
                · exact .inl ⟨xs, by show (clr own _)[j]? = _; rw [clr_set n]; exact hj⟩
                · exact .inr ⟨t, ks, vs, by show (clr own _)[j]? = _; rw [clr_set n]; exact hj⟩
              · exact ⟨D, ws, .dK kvs, rfl, dicO_of a5 a6, a4, a7, a3.f, a3.m, .inr (.of hD), fun _ => .of hD⟩
        · exact h1.elim
      · cases hb
    · cases hb
  · exact h1.elim
/-- what serves a dict comprehension's block -/
structure BlkD (X : Cx) (N : Cn) (scope : Scope) (tgE : Expr) (ifs : List Expr) (kx vx : Expr) (tg : Tg) (mc : M Bool) (mk mv : M Kb.D) : Prop where
  g : ∀ (s : Shared) (H : Hp) (C : Addr) (cl : List (Str × Addr)) (fp : List Addr), PG (X.blk s H scope (compEnvC scope cl C X.env) fp) tgE (TGt N tg)
  t : ∀ (s : Shared) (H : Hp) (C : Addr) (cl : List (Str × Addr)) (fp : List Addr), PTs (X.blk s H scope (compEnvC scope cl C X.env) fp) ifs (TT' N WF RB mc)
  k : ∀ (s : Shared) (H : Hp) (C : Addr) (cl : List (Str × Addr)) (fp : List Addr), PE (X.blk s H scope (compEnvC scope cl C X.env) fp) kx (TT' N WF (RD N) mk)
  v : ∀ (s : Shared) (H : Hp) (C : Addr) (cl : List (Str × Addr)) (fp : List Addr), PE (X.blk s H scope (compEnvC scope cl C X.env) fp) vx (TT' N WF (RD N) mv)
theorem st_setDc {i : Nat} {y : Str} {kx vx tgE iter : Expr} {ifs : List Expr} {scope : Scope} {own : List (Str × Nat)} {mi : M (List Kb.D)} {mc : M Bool} {mk mv : M Kb.D} {tg : Tg} {p1 p2 pos : Pos} (hc : X.calm = true) (hN : X.N.Nodup) (hy : X.N[i]? = some y) (hyl : X.env.scope.names.lookup y = some .local)
    (hsw : swapsWith (.DictComp kx vx [⟨tgE, iter, ifs, 0⟩] scope p2) (some (.Name y p1)) pos.line X.env = pure true) (hi : PI X tgE iter (TT' N W (RI N) mi)) (ok : BlkOk X.N X.env.scope scope own) (b : BlkD X N scope tgE ifs kx vx tg mc mk mv) (hin : ∀ i ∈ tgSlots tg, i ∈ own.map (·.2)) (hs : ∀ x, foldedSetIterable iter X.env x = pure x) :
    PS X (.Assign [.Name y p1] (.DictComp kx vx [⟨tgE, iter, ifs, 0⟩] scope p2) pos) (TS' N W (bnd (bnd mi fun items => blkD (own.map (·.2)) items (turnM tg mc (pairM mk mv))) fun v => bnd (putS i v) fun _ => pur .nx)) :=
  (ps_setDc hc hN hy hyl hsw hi ok b.g b.t b.k b.v hs).imp fun D σ H ⟨γ, s, r, h⟩ => dc_imp hin ⟨γ, s, r, set_post r h⟩
end
end Kb

set_option Elab.async false
set_option linter.all false
set_option maxRecDepth 100000
set_option maxHeartbeats 4000000
/-! KbSt3: stores by targets, into lists and dicts; loops. -/
namespace Kb
open PySem PySem.Spec PyProof.Rows L2 TL
section
variable {X : Cx} {N : Cn} {W : WX} {e e1 e2 e3 : Expr} {es rest : List Expr} {pos p1 p2 p3 : Pos} {m m1 m2 m3 : M Sl} {md mi : M Kb.D} {ms : M (List Kb.D)} {mss : M (List Sl)} {mf mg : M Fl} {fr f1 f2 f3 : Prop}
theorem putTs_exn : ∀ {is : List Nat} {es : List Kb.D} {s s' : S} {q : Nat} {fs : List Kb.D}, putTs is es s ≠ some (.exn q fs s')
  | [], [], _, _, _, _, e => by cases e
  | [], _ :: _, _, _, _, _, e => by cases e
  | _ :: _, [], _, _, _, _, e => by cases e
  | i :: is, v :: vs, s, s', q, fs, e => by
    have e : putTs is vs { s with sl := s.sl.set i (some (.val v)) } = some (.exn q fs s') := e
    exact putTs_exn e
theorem tgD_exn {tg : Tg} {d : Kb.D} {s s' : S} {q : Nat} {fs : List Kb.D} : tgD tg d s ≠ some (.exn q fs s') := by
  intro e
  cases tg with
  | name i => cases e
  | tup is =>
    cases d with
    | tup ds => exact putTs_exn e
    | _ => cases e
theorem tgD_hp {tg : Tg} {d : Kb.D} {γ : Gh} {σ : L2.St} {H : Hp} {s : S} {D : Ends} {v : V} (r : SR N γ σ H s) (rel : Rel N γ H d v) (h : PostS N W D γ σ H s (bnd (tgD tg d) (fun _ => pur .nx) s)) : TGt N tg v σ H D.nx := by
  unfold Kb.bnd at h
  cases e : tgD tg d s with
  | none => rw [e] at h; exact h.elim
  | some q =>
    rw [e] at h
    cases q with
    | exn q fs s2 => exact absurd e tgD_exn
    | ok u s' => exact ⟨γ, s, d, s', r, rel, e, fun vs a1 a2 _ _ => h γ _ H a1 a2⟩
/-- target = a value -/
theorem st_asg {tgE : Expr} {tg : Tg} (he : PE X e (TT' N W (RD N) md)) (hg : PG X tgE (TGt N tg)) (hs : swapsWithSole [tgE] e pos.line X.env = pure false) (hw : swappedStores [tgE] e X.env = pure none) (h1 : (assignEach [tgE] X.env).map (·.2) = [assign tgE X.env]) :
    PS X (.Assign [tgE] e pos) (TS' N W (bnd md fun d => bnd (tgD tg d) fun _ => pur .nx)) :=
  (ps_asg he hg hs hw h1).imp fun D σ H ⟨γ, s, r, h⟩ => ⟨γ, s, r, (h.bnd (R := RD N)).mono fun x H1 ⟨d, s1, γ1, em, r1, x1, rel, h1⟩ => tgD_hp r1 rel h1⟩
/-! ### into lists, dicts -/
theorem _root_.L2.PSet.or {t t' : TSet} (h : PSet X t) (h' : PSet X t') : PSet X (fun o i v H Q => t o i v H Q ∨ t' o i v H Q) := by
  intro pins s σ H o i v ov iv u Q I r1 r2 r3 q
  rcases q with q | q
  · exact h pins s σ H o i v ov iv u Q I r1 r2 r3 q
  · exact h' pins s σ H o i v ov iv u Q I r1 r2 r3 q
theorem bnd_getS {β : Type} {v : Nat} {f : Sl → M β} {s : S} : Kb.bnd (getS v) f s = match s.sl[v]? with
    | some (some .exc) => none
    | some (some w) => f w s
    | _ => none := by
  unfold getS Kb.bnd
  dsimp only
  cases s.sl[v]? with
  | none => rfl
  | some o =>
    cases o with
    | none => rfl
    | some w => cases w <;> rfl
abbrev setIxF (v : Nat) (md mi : M Kb.D) : M Fl := bnd md fun d => bnd (getS v) fun _ => bnd mi fun y => bnd (setIxM v y d) fun _ => pur .nx
theorem st_setIx {v : Nat} {x : Str} {ip : Pos} (hu : X.A.units + 1 < cLine) (hi : X.N[v]? = some x) (hv : Vis X.env.scope x) (hd : (x == ("__debug__" : Str)) = false) (hcd : (x == ("__classdict__" : Str)) = false)
    (he : PE X e (TT' N W (RD N) md)) (hix : PE X e2 (TT' N W (RD N) mi)) (hn : notSlice e2 = true)
    (hs : swapsWithSole [.Subscript (.Name x p1) e2 ip] e pos.line X.env = pure false) : PS X (.Assign [.Subscript (.Name x p1) e2 ip] e pos) (TS' N W (setIxF v md mi)) := by
  have hset := (set_list (X := X)).or (set_dict hu)
  have hg := pg_sub (pos := ip) (pe_var (pos := p1) hi hv hd hcd) hix hset (by
    intro u
    cases e2 <;> first | rfl | cases hn)
  refine (ps_asg (pos := pos) he hg hs (by
    unfold swappedStores
    rfl) (by rfl)).imp fun D σ H ⟨γ, s, r, h⟩ => ⟨γ, s, r, (h.bnd (R := RD N)).mono fun x H1 ⟨d, s1, γ1, em, r1, x1, rel, h1⟩ => ?_⟩
  -- the list
  have h1 : PostS N W D γ1 σ H1 s1 (Kb.bnd (getS v) (fun _ => bnd mi fun y => bnd (setIxM v y d) fun _ => pur .nx) s1) := h1
  rw [bnd_getS] at h1
  cases hs1 : s1.sl[v]? with
  | none => rw [hs1] at h1; exact h1.elim
  | some o =>
    rw [hs1] at h1
    cases o with
    | none => exact h1.elim
    | some w =>
      have nx : w ≠ .exc := by
        rintro rfl
        exact h1
      have h1 : PostS N W D γ1 σ H1 s1 (Kb.bnd mi (fun y => bnd (setIxM v y d) fun _ => pur .nx) s1) := by
        cases w <;> first | exact h1 | exact absurd rfl nx
      obtain ⟨xv, ev, _⟩ := r1.slot hs1 nx
      have h1 : PostS N W D γ1 σ H1 s1 (Kb.bnd mi (fun y => bnd (setIxM v y d) fun _ => pur .nx) s1) := h1
      refine ⟨xv, ev, γ1, s1, r1, (h1.bnd (R := RD N)).mono fun y H2 ⟨i, s2, γ2, em2, r2, x2, rel2, h2⟩ => ?_⟩
      have rel := Rel.keep (r1.keepE x2) rel
      unfold Kb.bnd setIxM at h2
      dsimp only at h2
      cases hs2 : s2.sl[v]? with
      | none => rw [hs2] at h2; exact h2.elim
      | some o =>
        rw [hs2] at h2
        cases o with
        | none => exact h2.elim
        | some w2 =>
          cases w2 with
          | val dd =>
            cases dd with
            | ref k =>
              dsimp only at h2
              cases hh : s2.hp[k]? with
              | none => rw [hh] at h2; exact h2.elim
              | some ob =>
                rw [hh] at h2
                cases ob with
                | lst xs =>
                  cases i with
                  | int j =>
                    dsimp only at h2
                    cases hj : ixOf xs.length j with
                    | none => rw [hj] at h2; exact h2.elim
                    | some n =>
                      rw [hj] at h2
                      obtain ⟨v1, e3, a, e4, e5⟩ := r2.val v _ hs2
                      rw [ev] at e3
                      cases e3
                      obtain ⟨a', vs, g1, g2, g3⟩ := r2.hr.at_ k xs hh
                      rw [e5] at g1
                      cases g1
                      have rel2 : y = .int j := rel2
                      subst rel2
                      obtain ⟨r3, x3⟩ := r2.writeH e5 (g3.set n rel)
                      exact .inl ⟨a, vs, j, n, e4, rfl, g2, by rw [← g3.length, ← ixOf_ix]; exact hj, h2 γ2 σ _ r3 x3⟩
                  | _ => exact h2.elim
            | _ => exact h2.elim
          | own xs =>
            cases i with
            | int j =>
              dsimp only at h2
              cases hj : ixOf xs.length j with
              | none => rw [hj] at h2; exact h2.elim
              | some n =>
                rw [hj] at h2
                obtain ⟨a, vs, e3, g2, g3⟩ := r2.own v _ hs2
                rw [ev] at e3
                cases e3
                have rel2 : y = .int j := rel2
                subst rel2
                obtain ⟨r3, x3⟩ := r2.write (u := .lst (vs.set n x)) (v := .own (xs.set n d)) (.inl ⟨xs, hs2⟩) ev g2 (fun _ z => nomatch z) (fun _ _ z => nomatch z) ⟨_, rfl, g3.set n rel⟩
                exact .inl ⟨a, vs, j, n, rfl, rfl, g2, by rw [← g3.length, ← ixOf_ix]; exact hj, h2 γ2 σ _ r3 x3⟩
            | _ => exact h2.elim
          | ownd t ks ds =>
            dsimp only at h2
            cases hk : keyD i with
            | none => rw [hk] at h2; exact h2.elim
            | some k =>
              rw [hk] at h2
              dsimp only at h2
              by_cases c1 : k.isT = t
              · rw [if_pos c1] at h2
                by_cases c2 : ks.length < line
                · rw [if_pos c2] at h2
                  obtain ⟨a, vs, o, e3, g1, g2, g3⟩ := r2.ownd v t ks ds hs2
                  rw [ev] at e3
                  cases e3
                  obtain ⟨u, q1, q2⟩ := dic_put (dv := d) (v := x) g1 g2 hk c1 rel2 c2
                  obtain ⟨r3, x3⟩ := r2.write (u := u) (v := .ownd t (Kb.putK k ks) (Kb.putV k d ks ds)) (.inr ⟨t, ks, ds, hs2⟩) ev g2 (dicO_ne g1) (dicO_nc g1) ⟨_, q2, RelL.putV rel g3⟩
                  exact .inr ⟨a, _, rfl, q1, h2 γ2 σ _ r3 x3⟩
                · rw [if_neg c2] at h2; exact h2.elim
              · rw [if_neg c1] at h2; exact h2.elim
          | exc => first | exact False.elim h | exact False.elim rel | exact False.elim h1 | exact False.elim q | exact False.elim h2 | cases hv
/-! ### lists that grow -/
theorem bnd_assoc {α β δ : Type} {m : M α} {f : α → M β} {g : β → M δ} : Kb.bnd (Kb.bnd m f) g = Kb.bnd m fun a => Kb.bnd (f a) g := by
  funext s
  unfold Kb.bnd
  cases m s with
  | none => rfl
  | some r => cases r <;> rfl
abbrev mutF (mt : Mt) (v : Nat) (ms : M (List Kb.D)) : M Sl := bnd (ownL v) fun _ => bnd ms fun ds => mutS mt v ds
def PostMu (N : Cn) (W : WX) (γ : Gh) (σ : L2.St) (H : Hp) (s : S) (r : Option (Rs Sl)) (Q : VK) : Prop := match r with
  | some (.ok w s') => ∀ γ' H' x, SR N γ' σ H' s' → Xt γ σ H s γ' σ H' s' → Rel N γ' H' w.d x → Q x H'
  | some (.exn q fs s') => ∀ γ' σ' H', SR N γ' σ' H' s' → Xt γ σ H s γ' σ' H' s' → Air N W σ' q fs H'
  | none => False
def TMu (N : Cn) (W : WX) (m : M Sl) : TE := fun σ H Q => ∃ γ s, SR N γ σ H s ∧ PostMu N W γ σ H s (m s) Q
theorem PostMu.later {γ γ1 : Gh} {σ : L2.St} {H H1 : Hp} {s s1 : S} {r : Option (Rs Sl)} {Q : VK} (h : PostMu N W γ σ H s r Q) (x : Xt γ σ H s γ1 σ H1 s1) : PostMu N W γ1 σ H1 s1 r Q := by
  cases r with
  | none => exact h
  | some r =>
    cases r with
    | exn q fs s' => exact fun γ' σ' H' a b => h γ' σ' H' a (x.trans b)
    | ok f s' => exact fun γ' H' y a b c => h γ' H' y a (x.trans b) c
theorem PostMu.bnd {α β : Type} {R : RelT α β} {γ : Gh} {σ : L2.St} {H : Hp} {s : S} {m : M α} {f : α → M Sl} {Q : VK} (h : PostMu N W γ σ H s (Kb.bnd m f s) Q) :
    Post N W R γ σ H s (m s) fun b H1 => ∃ a s1 γ1, m s = some (.ok a s1) ∧ SR N γ1 σ H1 s1 ∧ Xe γ σ H s γ1 H1 s1 ∧ R H (Wr γ σ s.sl) γ1 H1 a b ∧ PostMu N W γ1 σ H1 s1 (f a s1) Q := by
  unfold Kb.bnd at h
  cases e : m s with
  | none => rw [e] at h; exact h
  | some r =>
    rw [e] at h
    cases r with
    | ok a s1 => exact fun γ1 H1 b h1 h2 h3 => ⟨a, s1, γ1, rfl, h1, h2, h3, h.later h2.ext⟩
    | exn q fs s1 => exact h
theorem bnd_ownL {β : Type} {v : Nat} {f : Unit → M β} {s : S} : Kb.bnd (ownL v) f s = match s.sl[v]? with
    | some (some (.own _)) => f () s
    | _ => none := by
  unfold ownL Kb.bnd
  dsimp only
  cases s.sl[v]? with
  | none => rfl
  | some o =>
    cases o with
    | none => rfl
    | some w => cases w <;> rfl
/-- the start of a growing list's method -/
theorem mu_start {mt : Mt} {v : Nat} {γ : Gh} {σ : L2.St} {H : Hp} {s : S} {Q : VK} (r : SR N γ σ H s) (h : PostMu N W γ σ H s (mutF mt v ms s) Q) : ∃ a vs, σ[v]? = some (some (.ref a)) ∧ H a = some (.lst vs) ∧ PostMu N W γ σ H s (Kb.bnd ms (fun ds => mutS mt v ds) s) Q := by
  unfold mutF at h
  rw [bnd_ownL] at h
  split at h
  · rename_i xs hs
    obtain ⟨a, vs, e1, e2, _⟩ := r.own v xs hs
    exact ⟨a, vs, e1, e2, h⟩
  · exact h.elim
theorem mu_at {mt : Mt} {v : Nat} {ds : List Kb.D} {γ : Gh} {σ : L2.St} {H : Hp} {s : S} {a : Addr} {Q : VK} (r : SR N γ σ H s) (ea : σ[v]? = some (some (.ref a))) (h : PostMu N W γ σ H s (mutS mt v ds s) Q) :
    ∃ xs vs, s.sl[v]? = some (some (.own xs)) ∧ H a = some (.lst vs) ∧ RelL N γ H xs vs := by
  unfold mutS at h
  split at h
  · rename_i xs hs
    obtain ⟨b, vs, e1, e2, e3⟩ := r.own v xs hs
    rw [ea] at e1
    cases e1
    exact ⟨xs, vs, hs, e2, e3⟩
  · exact h.elim
theorem mu_append {v : Nat} {x : Str} {ap : Pos} (hi : X.N[v]? = some x) (hv : Vis X.env.scope x) (hd : (x == ("__debug__" : Str)) = false) (hcd : (x == ("__classdict__" : Str)) = false) (he : PE X e (TT' N W (RD N) md)) (hl : (ap.endLine == pos.line) = true) (hs : notStar e = true) :
    PE X (.Call (.Attribute (.Name x p1) "append" ap) [e] [] pos) (TMu N W (mutF .append v (bnd md fun d => bnd (pur []) fun ds => pur (d :: ds)))) := by
  refine (pe_bm (apos := ap) (cpos := pos) PySem.F.plainAttrs_list PySem.F.slot_list_append PySem.F.type_list_append mt_append (pe_var (pos := p1) hi hv hd hcd) (as_cons he as_nil hs) (base_of rfl) (few1 hs) hl (star_of hs) (by rfl)).imp fun σ H Q ⟨γ, s, r, h⟩ => ?_
  obtain ⟨a, vs, e1, e2, h⟩ := mu_start r h
  refine ⟨.ref a, e1, .inl ⟨rfl, vs, .inl (.inl e2)⟩, γ, s, r, (h.bnd (R := RDs N)).mono fun ys H1 ⟨ds, s1, γ1, em, r1, x1, rel, h1⟩ => ?_⟩
  obtain ⟨xs, us, g1, g2, g3⟩ := mu_at r1 e1 h1
  obtain ⟨d, s2, _, em⟩ := bnd_ok em
  cases em
  obtain ⟨y, rr, e3, rel, e4⟩ := rel
  have e4 : rr = [] := e4
  subst e4
  subst e3
  unfold mutS at h1
  rw [g1] at h1
  dsimp only at h1
  split at h1
  · rename_i hz
    obtain ⟨r3, x3⟩ := r1.write (u := .lst (us ++ [y])) (v := .own (xs ++ [d])) (.inl ⟨xs, g1⟩) e1 g2 (fun _ z => nomatch z) (fun _ _ z => nomatch z) ⟨_, rfl, g3.append (RelL.cons rel (RelL.nil_iff.mpr rfl))⟩
    exact ⟨a, us, y, rfl, rfl, g2, by rw [← g3.length, line_eq]; exact hz, h1 γ1 _ .non r3 x3 rfl⟩
  · exact h1.elim
theorem mu_extend {v : Nat} {x : Str} {ap : Pos} (hi : X.N[v]? = some x) (hv : Vis X.env.scope x) (hd : (x == ("__debug__" : Str)) = false) (hcd : (x == ("__classdict__" : Str)) = false) (he : PE X e (TT' N W (RD N) md)) (hl : (ap.endLine == pos.line) = true) (hs : notStar e = true) :
    PE X (.Call (.Attribute (.Name x p1) "extend" ap) [e] [] pos) (TMu N W (mutF .extend v (bnd md fun d => bnd (pur []) fun ds => pur (d :: ds)))) := by
  refine (pe_bm (apos := ap) (cpos := pos) PySem.F.plainAttrs_list PySem.F.slot_list_extend PySem.F.type_list_extend mt_extend (pe_var (pos := p1) hi hv hd hcd) (as_cons he as_nil hs) (base_of rfl) (few1 hs) hl (star_of hs) (by rfl)).imp fun σ H Q ⟨γ, s, r, h⟩ => ?_
  obtain ⟨a, vs, e1, e2, h⟩ := mu_start r h
  refine ⟨.ref a, e1, .inl ⟨rfl, vs, .inl (.inl e2)⟩, γ, s, r, (h.bnd (R := RDs N)).mono fun ys H1 ⟨ds, s1, γ1, em, r1, x1, rel, h1⟩ => ?_⟩
  obtain ⟨xs, us, g1, g2, g3⟩ := mu_at r1 e1 h1
  obtain ⟨d, s2, _, em⟩ := bnd_ok em
  cases em
  obtain ⟨y, rr, e3, rel, e4⟩ := rel
  have e4 : rr = [] := e4
  subst e4
  subst e3
  unfold mutS at h1
  rw [g1] at h1
  cases d with
  | lst zs =>
    dsimp only at h1
    split at h1
    · rename_i hz
      obtain ⟨b, ws, rfl, ⟨_, hb⟩, hw⟩ := rel
      obtain ⟨r3, x3⟩ := r1.write (u := .lst (us ++ ws)) (v := .own (xs ++ zs)) (.inl ⟨xs, g1⟩) e1 g2 (fun _ z => nomatch z) (fun _ _ z => nomatch z) ⟨_, rfl, g3.append hw⟩
      exact ⟨a, b, us, ws, rfl, rfl, g2, hb, by rw [← g3.length, ← hw.length, line_eq]; exact hz, h1 γ1 _ .non r3 x3 rfl⟩
    · exact h1.elim
  | _ => exact h1.elim
theorem mu_pop {v : Nat} {x : Str} {ap : Pos} (hi : X.N[v]? = some x) (hv : Vis X.env.scope x) (hd : (x == ("__debug__" : Str)) = false) (hcd : (x == ("__classdict__" : Str)) = false) (hl : (ap.endLine == pos.line) = true) :
    PE X (.Call (.Attribute (.Name x p1) "pop" ap) [] [] pos) (TMu N W (mutF .pop v (pur []))) := by
  refine (pe_bm0 (apos := ap) (cpos := pos) PySem.F.plainAttrs_list PySem.F.slot_list_pop PySem.F.type_list_pop mt_pop (pe_var (pos := p1) hi hv hd hcd) (base_of rfl) hl).imp fun σ H Q ⟨γ, s, r, h⟩ => ?_
  obtain ⟨a, vs, e1, e2, h⟩ := mu_start r h
  have h1 : PostMu N W γ σ H s (mutS .pop v [] s) Q := h
  obtain ⟨xs, us, g1, g2, g3⟩ := mu_at r e1 h1
  refine ⟨.ref a, e1, .inl ⟨rfl, vs, .inl (.inl e2)⟩, ?_⟩
  unfold mutS at h1
  rw [g1] at h1
  dsimp only at h1
  split at h1
  · rename_i d hz
    obtain ⟨y, hy, rel⟩ := g3.getLast? hz
    obtain ⟨r3, x3⟩ := r.write (u := .lst us.dropLast) (v := .own xs.dropLast) (.inl ⟨xs, g1⟩) e1 g2 (fun _ z => nomatch z) (fun _ _ z => nomatch z) ⟨_, rfl, g3.dropLast⟩
    have nf := r.nf v a (.inl ⟨xs, g1⟩) e1
    have kk : Keep γ H γ (upd H a (.lst us.dropLast)) := ⟨fun _ _ h => h, fun _ h => h, fun b o f h _ => .inl (by
      rw [upd_ne (by rintro rfl; exact nf.1 f)]; exact h)⟩
    exact ⟨a, us, y, rfl, rfl, g2, hy, h1 γ _ y r3 x3 (Rel.keep kk rel)⟩
  · exact h1.elim
theorem PostMu.post {γ : Gh} {σ : L2.St} {H : Hp} {s : S} {m : M Sl} {f : Sl → M Fl} {D : Ends} (h : PostS N W D γ σ H s (Kb.bnd m f s)) : PostMu N W γ σ H s (m s) fun b H1 => ∃ a s1 γ1, SR N γ1 σ H1 s1 ∧ Rel N γ1 H1 a.d b ∧ PostS N W D γ1 σ H1 s1 (f a s1) := by
  unfold Kb.bnd at h
  cases e : m s with
  | none => rw [e] at h; exact h
  | some r =>
    rw [e] at h
    cases r with
    | ok a s1 => exact fun γ1 H1 b h1 h2 h3 => ⟨a, s1, γ1, h1, h3, h.later h2⟩
    | exn q fs s1 => exact h
theorem PostMu.mono {γ : Gh} {σ : L2.St} {H : Hp} {s : S} {r : Option (Rs Sl)} {Q Q' : VK} (h : PostMu N W γ σ H s r Q) (k : ∀ b H', Q b H' → Q' b H') : PostMu N W γ σ H s r Q' := by
  cases r with
  | none => exact h
  | some r =>
    cases r with
    | ok a s' => exact fun γ' H' b h1 h2 h3 => k _ _ (h γ' H' b h1 h2 h3)
    | exn q fs s' => exact h
theorem st_mut (he : PE X e (TMu N W m)) (hs : swapsWith e none pos.line X.env = pure false) : PS X (.Expr e pos) (TS' N W (bnd m fun _ => pur .nx)) :=
  (ps_expr he hs).imp fun D σ H ⟨γ, s, r, h⟩ => ⟨γ, s, r, (PostMu.post h).mono fun b H1 ⟨a, s1, γ1, r1, rel, h1⟩ => h1 γ1 σ H1 r1 (Ext.refl ..)⟩
theorem st_mutT {tgE : Expr} {tg : Tg} (he : PE X e (TMu N W m)) (hg : PG X tgE (TGt N tg)) (hs : swapsWithSole [tgE] e pos.line X.env = pure false) (hw : swappedStores [tgE] e X.env = pure none) (h1 : (assignEach [tgE] X.env).map (·.2) = [assign tgE X.env]) :
    PS X (.Assign [tgE] e pos) (TS' N W (bnd m fun r => bnd (tgD tg r.d) fun _ => pur .nx)) :=
  (ps_asg he hg hs hw h1).imp fun D σ H ⟨γ, s, r, h⟩ => ⟨γ, s, r, (PostMu.post h).mono fun b H1 ⟨a, s1, γ1, r1, rel, h1⟩ => tgD_hp r1 rel h1⟩
end
end Kb

set_option Elab.async false
set_option linter.all false
set_option maxRecDepth 100000
set_option maxHeartbeats 4000000
/-! KbSt4: loops, errors. -/
namespace Kb
open PySem PySem.Spec PyProof.Rows L2 TL
section
variable {X : Cx} {N : Cn} {W : WX} {e e1 e2 e3 : Expr} {es rest : List Expr} {pos p1 p2 p3 : Pos} {m m1 m2 m3 : M Sl} {md : M Kb.D} {mi : M (List Kb.D)} {mb : M Fl} {mt : M Bool} {fr f1 f2 f3 : Prop}
theorem st_for {tgE iter : Expr} {tg : Tg} {body : List Stmt} (hp : PassesOwn (model X.prog X.w) X.A X.env X.xe) (hc : X.calm = true) (hi : PI X tgE iter (TT' N W (RI N) mi)) (hg : PG X tgE (TGt N tg)) (hb : PSs X body (TS' N W mb)) (hs : ∀ x, foldedSetIterable iter X.env x = pure x) :
    PS X (.For tgE iter body [] pos) (TS' N W (bnd mi fun items => forL (fun d => bnd (tgD tg d) fun _ => mb) items)) :=
  (ps_for hp hc hi hg hb hs).imp fun D σ H ⟨γ, s, r, h⟩ => ⟨γ, s, r, (h.bnd (R := RI N)).mono fun J H1 ⟨items, s1, γ1, em, r1, x1, hw, h1⟩ => by
    have hw : WalkOk N γ1 H1 J items := hw
    refine ⟨fun i m σ' H' => m = items.length - i ∧ i ≤ items.length ∧ ∃ γ s, SR N γ σ' H' s ∧ Keep γ1 H1 γ H' ∧ PostS N W D γ σ' H' s (forL (fun d => bnd (tgD tg d) fun _ => mb) (items.drop i) s), ⟨items.length, by simp, Nat.zero_le _, γ1, s1, r1, Keep.refl .., h1⟩, ?_⟩
    rintro i m σ2 H2 ⟨rfl, hi, γ2, s2, r2, k2, h2⟩
    by_cases hlt : i < items.length
    · refine .inr ⟨hw.go γ2 H2 k2 i hlt, fun σ' H' => i + 1 ≤ items.length ∧ ∃ γ s, SR N γ σ' H' s ∧ Keep γ1 H1 γ H' ∧ PostS N W D γ σ' H' s (forL (fun d => bnd (tgD tg d) fun _ => mb) (items.drop (i + 1)) s), fun σ' H' hN => ⟨items.length - (i + 1), by omega, rfl, hN⟩, fun x H3 hy => ?_⟩
      rw [List.drop_eq_getElem_cons hlt] at h2
      have hd : items[i]? = some items[i] := List.getElem?_eq_getElem hlt
      obtain ⟨γ3, r3, x3, rel⟩ := (hw.yld γ2 H2 k2 i _ hd x H3 hy).xe r2
      have h3 := PostS.later h2 x3.ext
      have k3 := k2.trans (r2.keepE x3)
      have h3 : PostS N W D γ3 σ2 H3 s2 (Kb.bnd (Kb.bnd (tgD tg items[i]) fun _ => mb) (fun q => match q with
        | .nx => forL (fun d => bnd (tgD tg d) fun _ => mb) (items.drop (i + 1))
        | .ct => forL (fun d => bnd (tgD tg d) fun _ => mb) (items.drop (i + 1))
        | .bk => pur .nx
        | .rt v => pur (.rt v)) s2) := h3
      rw [bnd_assoc] at h3
      unfold Kb.bnd at h3
      cases et : tgD tg items[i] s2 with
      | none => rw [et] at h3; exact h3.elim
      | some q =>
        rw [et] at h3
        cases q with
        | exn q fs s3 => exact absurd et tgD_exn
        | ok u s3 =>
          refine ⟨γ3, s2, items[i], s3, r3, rel, et, fun vs r4 x4 _ _ => ⟨γ3, s3, r4, ?_⟩⟩
          have h4 := PostS.later h3 x4
          have k4 := k3.trans (r3.keep x4)
          dsimp only at h4
          cases eb : mb s3 with
          | none => rw [eb] at h4; exact h4.elim
          | some q =>
            rw [eb] at h4
            cases q with
            | exn q fs s5 => exact h4
            | ok f s5 =>
              cases f with
              | nx => exact fun γ' σ' H' r5 x5 => ⟨hlt, γ', s5, r5, k4.trans (r4.keep x5), PostS.later h4 x5⟩
              | ct => exact fun γ' σ' H' r5 x5 => ⟨hlt, γ', s5, r5, k4.trans (r4.keep x5), PostS.later h4 x5⟩
              | bk => exact h4
              | rt v => exact h4
    · obtain rfl : i = items.length := by omega
      refine .inl ⟨hw.stop γ2 H2 k2, ?_⟩
      rw [List.drop_length] at h2
      exact h2 γ2 σ2 H2 r2 (Ext.refl ..)⟩
theorem st_while {body : List Stmt} (hp : PassesOwn (model X.prog X.w) X.A X.env X.xe) (hc : PT X e (TT' N W RB mt)) (hb : PSs X body (TS' N W mb)) (k : Nat) : PS X (.While e body [] pos) (TS' N W (whileL mt mb k)) :=
  (ps_while hp hc hb).imp fun D σ H ⟨γ, s, r, h⟩ => by
    refine ⟨fun n σ' H' => ∃ γ s, SR N γ σ' H' s ∧ PostS N W D γ σ' H' s (whileL mt mb n s), ⟨k, γ, s, r, h⟩, ?_⟩
    rintro n σ1 H1 ⟨γ1, s1, r1, h1⟩
    cases n with
    | zero => exact h1.elim
    | succ n =>
      have h1 : PostS N W D γ1 σ1 H1 s1 (Kb.bnd mt (fun k => if k then Kb.bnd mb (fun r => (match r with
        | .nx => whileL mt mb n
        | .ct => whileL mt mb n
        | .bk => pur .nx
        | .rt v => pur (.rt v))) else pur .nx) s1) := h1
      refine ⟨γ1, s1, r1, (h1.bnd (R := RB)).mono fun b H2 ⟨b', s2, γ2, em, r2, x2, eb, h2⟩ => ?_⟩
      have eb : b' = b := eb
      subst eb
      cases b' with
      | false =>
        rw [if_neg Bool.false_ne_true] at h2 ⊢
        exact h2 γ2 σ1 H2 r2 (Ext.refl ..)
      | true =>
        rw [if_pos rfl] at h2 ⊢
        refine ⟨fun σ' H' => ∃ γ s, SR N γ σ' H' s ∧ PostS N W D γ σ' H' s (whileL mt mb n s), fun σ' H' h => ⟨n, Nat.lt_succ_self n, h⟩, γ2, s2, r2, ?_⟩
        unfold Kb.bnd at h2
        cases eb : mb s2 with
        | none => rw [eb] at h2; exact h2.elim
        | some q =>
          rw [eb] at h2
          cases q with
          | exn q fs s5 => exact h2
          | ok f s5 =>
            cases f with
            | nx => exact fun γ' σ' H' r5 x5 => ⟨γ', s5, r5, PostS.later h2 x5⟩
            | ct => exact fun γ' σ' H' r5 x5 => ⟨γ', s5, r5, PostS.later h2 x5⟩
            | bk => exact h2
            | rt v => exact h2
/-! ### errors -/
/-- X() -/
theorem pmk_own0 {C : Addr} {bmB : List Value} {B newId initId : String} {x : Str} {p : Pos} (F : ExcBaseFacts B newId initId bmB) (q : PySem.W.excIn X.K C bmB newId = true) (gC : X.mg x = some (.ref C)) (kC : PySem.W.keepIn X.K (.ref C) = true) (r : Raises X (.ref C)) (hg : Gl X x)
    (hdb : (x == ("__debug__" : Str)) = false) : PMk X (.Call (.Name x p) [] [] pos) (fun _ H Q => Q (.ref C) none H) := by
  intro pins s σ H Q I h
  refine wpAny_Call_Name_kw (ld_glob I hg gC ?_ hdb)
  refine PySem.W.callWith_K0 I.kIn kC ?_
  show wpAny _ _ (call (.ref C) []) _ _ _
  obtain ⟨bm, N, nm, qn, bs, hdct, sn, sub, ab, col, dd, k0, k1, k2, k3, k5, mN, hC, hN, hni, T⟩ := exc_obj I.kIn q
  refine wpAny_call_exc_subT F T hC hN hni (fun h' e hm => ?_) (by show 0 ≤ sizeLine; rw [sizeLine_eq]; omega)
  exact mk_of I hm r h (I.hok.gone hm.new)
theorem st_raise {q : Nat} {t : L2.St → Hp → XK → Prop} (hc : X.calm = true) (tk : Takes X W) (he : PMk X e t) (ht : ∀ σ H Q, Q (.ref (N.cls q)) none H → t σ H Q) : PS X (.Raise (some e) none pos) (TS' N W (bnd (pur []) fun ds s => some (.exn q ds s))) :=
  (ps_raise hc tk he).imp fun D σ H ⟨γ, s, r, h⟩ => ht σ H _ (by
    have h : PostS N W D γ σ H s (some (.exn q [] s)) := h
    exact (h γ σ H r (Ext.refl ..)).2)
end
section
variable {N : Cn} {γ : Gh} {H : Hp}
/-! ### except suites -/
/-- the same written part, the same world -/
abbrev Cn.re (N : Cn) (c : Nat → Addr) (t : List (Addr × Str)) (b : Nat → Option Addr) (g : Gh) (h : Hp) : Cn := ⟨N.K, N.w, c, t, b, g, h⟩
mutual
theorem Rel.re {c : Nat → Addr} {t : List (Addr × Str)} {b : Nat → Option Addr} {g : Gh} {h' : Hp} : ∀ {d : Kb.D} {v : V}, Rel N γ H d v → Rel (N.re c t b g h') γ H d v
  | .non, _, h => h
  | .bl _, _, h => h
  | .int _, _, h => h
  | .str _, _, h => h
  | .tup ds, _, ⟨a, vs, e, h, r⟩ => ⟨a, vs, e, h, RelL.re r⟩
  | .lst ds, _, ⟨a, vs, e, h, r⟩ => ⟨a, vs, e, h, RelL.re r⟩
  | .dic ks ds, _, ⟨a, vs, e, h, r⟩ => ⟨a, vs, e, h, RelL.re r⟩
  | .set _, _, h => h
  | .ref q, _, h => h
  | .scr ns, _, h => h
  | .kdic ks ds, _, ⟨a, vs, e, h, r⟩ => ⟨a, vs, e, h, RelL.re r⟩
theorem RelL.re {c : Nat → Addr} {t : List (Addr × Str)} {b : Nat → Option Addr} {g : Gh} {h' : Hp} : ∀ {ds : List Kb.D} {vs : List V}, RelL N γ H ds vs → RelL (N.re c t b g h') γ H ds vs
  | [], _, h => h
  | d :: ds, _, ⟨v, r, e, h, t⟩ => ⟨v, r, e, Rel.re h, RelL.re t⟩
end
abbrev Cn.ex (N : Cn) (b : Nat → Option Addr) : Cn := { N with exa := b }
abbrev Cn.at (N : Cn) (i : Nat) (a : Addr) : Cn := N.ex fun j => if j = i then some a else N.exa j
theorem Rel.exa {b : Nat → Option Addr} {d : Kb.D} {v : V} (h : Rel N γ H d v) : Rel (N.ex b) γ H d v := Rel.re h
theorem RelL.exa {b : Nat → Option Addr} {d : List Kb.D} {v : List V} (h : RelL N γ H d v) : RelL (N.ex b) γ H d v := RelL.re h
theorem Rel.exb {b : Nat → Option Addr} {d : Kb.D} {v : V} (h : Rel (N.ex b) γ H d v) : Rel N γ H d v := Rel.re (N := N.ex b) h
theorem RelL.exb {b : Nat → Option Addr} {d : List Kb.D} {v : List V} (h : RelL (N.ex b) γ H d v) : RelL N γ H d v := RelL.re (N := N.ex b) h
theorem RX.exb {fr : Prop} {b : Nat → Option Addr} {H0 : Hp} {W0 : Addr → Prop} {v : Sl} {x : V} (h : RX (N.ex b) fr H0 W0 γ H v x) : RX N fr H0 W0 γ H v x := by
  cases v with
  | val d => exact Rel.exb h
  | own xs => obtain ⟨a, vs, h1, h2, h3, h4⟩ := h; exact ⟨a, vs, h1, h2, h3.exb, h4⟩
  | ownd t ks ds => obtain ⟨a, vs, o, h1, h2, h3, h4, h5⟩ := h; exact ⟨a, vs, o, h1, h2, h3, h4.exb, h5⟩
  | exc => exact h
theorem HR.exa {b : Nat → Option Addr} {hp : List Ob} (r : HR N γ H hp) : HR (N.ex b) γ H hp :=
  ⟨r.nd, r.len, fun k xs h => let ⟨a, vs, h1, h2, h3⟩ := r.at_ k xs h; ⟨a, vs, h1, h2, h3.exa⟩, r.nf, r.fz, r.tabs, r.kb, r.cf⟩
theorem HR.exb {b : Nat → Option Addr} {hp : List Ob} (r : HR (N.ex b) γ H hp) : HR N γ H hp := HR.exa (N := N.ex b) (b := N.exa) r
theorem exc_some {l : List (Option Sl)} {i j : Nat} {v : Sl} (h : (l.set i (some .exc))[j]? = some (some v)) : (j = i ∧ v = .exc) ∨ (j ≠ i ∧ l[j]? = some (some v)) := by
  by_cases e : j = i
  · subst e
    by_cases hl : j < l.length
    · rw [List.getElem?_set_self hl] at h; cases h; exact .inl ⟨rfl, rfl⟩
    · rw [List.getElem?_eq_none (by simpa using hl)] at h; cases h
  · rw [List.getElem?_set_ne (Ne.symm e)] at h
    exact .inr ⟨e, h⟩
theorem isOwn_exc {l : List (Option Sl)} {i j : Nat} (h : isOwn (l.set i (some .exc)) j) : j ≠ i ∧ isOwn l j := by
  rcases h with ⟨xs, h⟩ | ⟨t, ks, vs, h⟩
  · rcases exc_some h with ⟨_, e⟩ | ⟨n, h⟩
    · cases e
    · exact ⟨n, .inl ⟨xs, h⟩⟩
  · rcases exc_some h with ⟨_, e⟩ | ⟨n, h⟩
    · cases e
    · exact ⟨n, .inr ⟨t, ks, vs, h⟩⟩
theorem SR.enter {σ : L2.St} {s : S} {i : Nat} {a : Addr} (r : SR N γ σ H s) : SR (N.at i a) γ (σ.set i (some (.ref a))) H { s with sl := s.sl.set i (some .exc) } := by
  have ne : ∀ {j : Nat}, j ≠ i → (σ.set i (some (V.ref a)))[j]? = σ[j]? := fun e => List.getElem?_set_ne (Ne.symm e)
  refine ⟨r.hr.exa, by simp [r.len], fun j d h => ?_, fun j xs h => ?_, fun j t ks ds h => ?_, fun j k b h1 h2 e1 e2 => ?_, fun j b h1 e1 => ?_, fun j h => ?_⟩
  · rcases exc_some h with ⟨_, e⟩ | ⟨n, h⟩
    · cases e
    · obtain ⟨v, h1, h2⟩ := r.val j d h
      exact ⟨v, by rw [ne n]; exact h1, h2.exa⟩
  · rcases exc_some h with ⟨_, e⟩ | ⟨n, h⟩
    · cases e
    · obtain ⟨b, vs, h1, h2, h3⟩ := r.own j xs h
      exact ⟨b, vs, by rw [ne n]; exact h1, h2, h3.exa⟩
  · rcases exc_some h with ⟨_, e⟩ | ⟨n, h⟩
    · cases e
    · obtain ⟨b, vs, o, h1, h2, h3, h4⟩ := r.ownd j t ks ds h
      exact ⟨b, vs, o, by rw [ne n]; exact h1, h2, h3, h4.exa⟩
  · obtain ⟨n1, h1⟩ := isOwn_exc h1
    obtain ⟨n2, h2⟩ := isOwn_exc h2
    rw [ne n1] at e1
    rw [ne n2] at e2
    exact r.sep j k b h1 h2 e1 e2
  · obtain ⟨n1, h1⟩ := isOwn_exc h1
    rw [ne n1] at e1
    exact r.nf j b h1 e1
  · rcases exc_some h with ⟨e, _⟩ | ⟨n, h⟩
    · subst e
      have hl : j < s.sl.length := by
        have := (List.getElem?_eq_some_iff.mp h).1
        simpa using this
      exact ⟨a, if_pos rfl, List.getElem?_set_self (by rw [← r.len]; exact hl)⟩
    · obtain ⟨b, e, e2⟩ := r.exc j h
      exact ⟨b, (if_neg n).trans e, by rw [ne n]; exact e2⟩
theorem SR.leave {σ : L2.St} {s : S} {i : Nat} {a : Addr} (r : SR (N.at i a) γ σ H s) : SR N γ (σ.set i none) H { s with sl := s.sl.set i none } := by
  have ne : ∀ {j : Nat}, j ≠ i → (σ.set i none)[j]? = σ[j]? := fun e => List.getElem?_set_ne (Ne.symm e)
  refine ⟨r.hr.exb, by simp [r.len], fun j d h => ?_, fun j xs h => ?_, fun j t ks ds h => ?_, fun j k b h1 h2 e1 e2 => ?_, fun j b h1 e1 => ?_, fun j h => ?_⟩
  · obtain ⟨n, h⟩ := drop_some h
    obtain ⟨v, h1, h2⟩ := r.val j d h
    exact ⟨v, by rw [ne n]; exact h1, h2.exb⟩
  · obtain ⟨n, h⟩ := drop_some h
    obtain ⟨b, vs, h1, h2, h3⟩ := r.own j xs h
    exact ⟨b, vs, by rw [ne n]; exact h1, h2, h3.exb⟩
  · obtain ⟨n, h⟩ := drop_some h
    obtain ⟨b, vs, o, h1, h2, h3, h4⟩ := r.ownd j t ks ds h
    exact ⟨b, vs, o, by rw [ne n]; exact h1, h2, h3, h4.exb⟩
  · obtain ⟨n1, h1⟩ := isOwn_drop h1
    obtain ⟨n2, h2⟩ := isOwn_drop h2
    rw [ne n1] at e1
    rw [ne n2] at e2
    exact r.sep j k b h1 h2 e1 e2
  · obtain ⟨n1, h1⟩ := isOwn_drop h1
    rw [ne n1] at e1
    exact r.nf j b h1 e1
  · obtain ⟨n, h⟩ := drop_some h
    obtain ⟨b, e, e2⟩ := r.exc j h
    exact ⟨b, (if_neg n).symm.trans e, by rw [ne n]; exact e2⟩
end
section
variable {X : Cx} {N : Cn} {W : WX} {D : Ends} {pos : Pos}
theorem wr_enter {γ : Gh} {σ : L2.St} {s : S} {i : Nat} {a b : Addr} (h : Wr γ (σ.set i (some (.ref a))) (s.sl.set i (some .exc)) b) : Wr γ σ s.sl b := by
  rcases h with h | ⟨j, h, e⟩
  · exact .inl h
  · obtain ⟨n, h⟩ := isOwn_exc h
    rw [List.getElem?_set_ne (Ne.symm n)] at e
    exact .inr ⟨j, h, e⟩
theorem wr_leave {γ : Gh} {σ : L2.St} {s : S} {i : Nat} {b : Addr} (h : Wr γ (σ.set i none) (s.sl.set i none) b) : Wr γ σ s.sl b := by
  rcases h with h | ⟨j, h, e⟩
  · exact .inl h
  · obtain ⟨n, h⟩ := isOwn_drop h
    rw [List.getElem?_set_ne (Ne.symm n)] at e
    exact .inr ⟨j, h, e⟩
/-- the suite's run, told of what the try wishes -/
theorem suite_post {i : Nat} {a : Addr} {γ γ' : Gh} {σ σ' : L2.St} {H H' : Hp} {s s1 : S} {r : Option (Rs Fl)} (r1 : SR N γ' σ' H' s1) (x1 : Xt γ σ H s γ' σ' H' s1)
    (h : PostS N W D γ σ H s (match r with
      | some (.ok r s2) => some (.ok r (drop1 (some i) s2))
      | _ => none)) :
    PostS (N.at i a) WF { nx := fun σ' H' => D.nx (σ'.set i none) H', rt := D.rt, bk := fun σ' H' => D.bk (σ'.set i none) H', ct := fun σ' H' => D.ct (σ'.set i none) H' } γ' (σ'.set i (some (.ref a))) H' (enter1 (some i) s1) r := by
  have xe : Xt γ' σ' H' s1 γ' (σ'.set i (some (.ref a))) H' (enter1 (some i) s1) := Ext.less fun _ => wr_enter
  have go : ∀ {γ2 : Gh} {σ2 : L2.St} {H2 : Hp} {s2 : S}, Xt γ' (σ'.set i (some (.ref a))) H' (enter1 (some i) s1) γ2 σ2 H2 s2 → Xt γ σ H s γ2 (σ2.set i none) H2 (drop1 (some i) s2) := fun x2 =>
    x1.trans (xe.trans (x2.trans (Ext.less fun _ => wr_leave)))
  cases r with
  | none => exact h
  | some q =>
    cases q with
    | exn q fs s2 => exact h.elim
    | ok f s2 =>
      cases f with
      | nx => exact fun γ2 σ2 H2 r2 x2 => h γ2 _ H2 r2.leave (go x2)
      | bk => exact fun γ2 σ2 H2 r2 x2 => h γ2 _ H2 r2.leave (go x2)
      | ct => exact fun γ2 σ2 H2 r2 x2 => h γ2 _ H2 r2.leave (go x2)
      | rt v => exact fun γ2 σ2 H2 x r2 x2 rel => h γ2 _ H2 x r2.leave (go x2) (RX.late _ _ _ _ _ _ _ _ x1.al x1.wr (RX.late _ _ _ _ _ _ _ _ xe.al xe.wr rel.exb))
theorem st_try_as {x n : Str} {c : Value} {k i : Nat} {body suite : List Stmt} {b₀ : Stmt} {np pos' : Pos} {mb : M Fl} {ms : Nat → List Kb.D → M Fl} {sub : Nat → Nat → Bool}
    (hs : X.stack = X.env :: X.outer) (hf : X.env.frame = some X.env.locals) (hN : X.N.Nodup) (hi : X.N[i]? = some n) (hln : X.env.kindOf n = some .local) (hc : Names X x c) (tk : Takes X W) (hsub : ∀ q, PySem.W.exmOne X.K (.ref (N.cls q)) c = some (sub q k))
    (hb : ∀ (W : WX) (pn : List (Addr × Obj)) (xe : Value → Shared → Prop), Takes (X.tr pn xe) W → PassesOwn (model X.prog X.w) X.A X.env xe → PSs (X.tr pn xe) body (TS' N W mb))
    (hsu : ∀ (q : Nat) (a : Addr) (oe : Obj) (pn : List (Addr × Obj)), Zc (.ref (N.cls q)) none oe → (∃ vs, oe.data = .fields vs) → PSs (X.suite a ((a, oe) :: pn)) (b₀ :: suite) (TS' (N.at i a) WF (ms q []))) :
    PS X (.Try body [.ExceptHandler (some (.Name x np)) (some n) (b₀ :: suite) pos'] [] [] pos) (TS' N W (tryM sub mb k (some i) ms)) := by
  refine (ps_try_as (pos := pos) (pos' := pos') (np := np) (ts := fun a cls d D σ H => ∃ q, cls = .ref (N.cls q) ∧ d = none ∧ TS' (N.at i a) WF (ms q []) D σ H) hs hf hN hi hln hc tk hb (fun a oe cls d pn hz hd => ?_)).imp fun D σ H ⟨γ, s, r, h⟩ => ?_
  · refine ⟨fun pins s σ H D I ⟨q, e, ed, h⟩ => ?_⟩
    subst e
    subst ed
    exact (hsu q a oe pn hz hd).run pins s σ H D I h
  · refine ⟨γ, s, r, ?_⟩
    unfold tryM at h
    cases e : mb s with
    | none => rw [e] at h; exact h
    | some q =>
      rw [e] at h
      cases q with
      | ok f s1 => cases f <;> exact h
      | exn q fs s1 =>
        dsimp only at h
        intro γ1 σ1 H1 r1 x1
        by_cases c1 : sub q k = true
        · rw [if_pos c1] at h
          by_cases c2 : fs.isEmpty = true
          · rw [if_pos c2] at h
            cases fs with
            | cons _ _ => cases c2
            | nil => exact ⟨rfl, true, by rw [hsub, c1], fun _ a _ => ⟨q, rfl, rfl, γ1, _, r1.enter, suite_post r1 x1 h⟩, fun z => nomatch z⟩
          · rw [if_neg c2] at h; exact h.elim
        · rw [if_neg c1] at h
          obtain ⟨z1, z2⟩ := h γ1 σ1 H1 r1 x1
          exact ⟨z1, false, by rw [hsub]; simpa using c1, fun z => (nomatch z), fun _ => z2⟩
theorem st_try_only {x : Str} {c : Value} {k : Nat} {body suite : List Stmt} {b₀ : Stmt} {np pos' : Pos} {mb : M Fl} {ms : Nat → List Kb.D → M Fl} {sub : Nat → Nat → Bool}
    (hs : X.stack = X.env :: X.outer) (hf : X.env.frame = some X.env.locals) (hc : Names X x c) (tk : Takes X W) (hsub : ∀ q, PySem.W.exmOne X.K (.ref (N.cls q)) c = some (sub q k))
    (hb : ∀ (W : WX) (pn : List (Addr × Obj)) (xe : Value → Shared → Prop), Takes (X.tr pn xe) W → PassesOwn (model X.prog X.w) X.A X.env xe → PSs (X.tr pn xe) body (TS' N W mb))
    (hsu : ∀ (q : Nat) (a : Addr) (oe : Obj) (pn : List (Addr × Obj)), Zc (.ref (N.cls q)) none oe → (∃ vs, oe.data = .fields vs) → PSs (X.suite a ((a, oe) :: pn)) (b₀ :: suite) (TS' N WF (ms q []))) :
    PS X (.Try body [.ExceptHandler (some (.Name x np)) none (b₀ :: suite) pos'] [] [] pos) (TS' N W (tryM sub mb k none ms)) := by
  refine (ps_try_only (pos := pos) (pos' := pos') (np := np) (ts := fun a cls d D σ H => ∃ q, cls = .ref (N.cls q) ∧ d = none ∧ TS' N WF (ms q []) D σ H) hs hf hc tk hb (fun a oe cls d pn hz hd => ?_)).imp fun D σ H ⟨γ, s, r, h⟩ => ?_
  · refine ⟨fun pins s σ H D I ⟨q, e, ed, h⟩ => ?_⟩
    subst e
    subst ed
    exact (hsu q a oe pn hz hd).run pins s σ H D I h
  · refine ⟨γ, s, r, ?_⟩
    unfold tryM at h
    cases e : mb s with
    | none => rw [e] at h; exact h
    | some q =>
      rw [e] at h
      cases q with
      | ok f s1 => cases f <;> exact h
      | exn q fs s1 =>
        dsimp only at h
        intro γ1 σ1 H1 r1 x1
        by_cases c1 : sub q k = true
        · rw [if_pos c1] at h
          by_cases c2 : fs.isEmpty = true
          · rw [if_pos c2] at h
            cases fs with
            | cons _ _ => cases c2
            | nil =>
              refine ⟨rfl, true, by rw [hsub, c1], fun _ a _ => ⟨q, rfl, rfl, γ1, s1, r1, ?_⟩, fun z => nomatch z⟩
              dsimp only [enter1, drop1] at h
              cases er : ms q [] s1 with
              | none => rw [er] at h; exact h
              | some rr =>
                rw [er] at h
                cases rr with
                | exn _ _ _ => exact h.elim
                | ok f s2 => cases f <;> exact PostS.later h x1
          · rw [if_neg c2] at h; exact h.elim
        · rw [if_neg c1] at h
          obtain ⟨z1, z2⟩ := h γ1 σ1 H1 r1 x1
          exact ⟨z1, false, by rw [hsub]; simpa using c1, fun z => (nomatch z), fun _ => z2⟩
end
end Kb

set_option Elab.async false
set_option linter.all false
set_option maxRecDepth 100000
set_option maxHeartbeats 4000000
/-! KbCall: calls of defs, classes asked. -/
namespace Kb
open PySem PySem.Spec PyProof.Rows L2 TL
/-- from one heap to a later one, behind a call -/
structure Xc (γ : Gh) (H : Hp) (γ' : Gh) (H' : Hp) : Prop where
  pre : ∀ (k : Nat) a, γ.m[k]? = some a → γ'.m[k]? = some a
  fm : ∀ a, γ.F a → γ'.F a
  fr : ∀ a o, H a = some o → a ∉ γ.m → (∀ ps, o ≠ .tbl ps) → Stl (γ'.F a) H' a o
  mn : ∀ a ∈ γ'.m, a ∈ γ.m ∨ Nn H a
  fn : ∀ a, γ'.F a → γ.F a ∨ Nn H a
  al : ∀ a, Nn H' a → Nn H a
def PostC (N : Cn) (γ : Gh) (H : Hp) (r : Option Rf) (Q : VK) (E : XK) : Prop := match r with
  | some (.ret v hp') => ∀ γ' H' x, HR N γ' H' hp' → Xc γ H γ' H' → RX N True H (· ∈ γ.m) γ' H' v x → Q x H'
  | some (.exn q fs hp') => ∀ γ' H', HR N γ' H' hp' → Xc γ H γ' H' → fs = [] ∧ E (.ref (N.cls q)) none H'
  | none => False
def spOf (N : Cn) (f : List D → List Ob → Option Rf) : Sp := fun vs H Q E => ∃ γ ds hp, HR N γ H hp ∧ RelL N γ H ds vs ∧ PostC N γ H (f ds hp) Q E
abbrev Cn.base (N : Cn) : Cn := ⟨N.K, N.w, N.cls, N.T, fun _ => none, ⟨[], fun _ => False⟩, fun _ => none⟩
section
variable {N : Cn} {γ γ' : Gh} {H H' : Hp} {hp hp' : List Ob}
theorem keep0 : Keep ⟨[], fun _ => False⟩ (fun _ => none) γ H := ⟨fun k a h => by simp at h, fun _ h => h.elim, fun _ _ h => h.elim⟩
theorem HR.base (r : HR N γ H hp) : HR N.base γ H hp := ⟨r.nd, r.len, fun k xs h => let ⟨a, vs, h1, h2, h3⟩ := r.at_ k xs h; ⟨a, vs, h1, h2, h3.re⟩, r.nf, r.fz, r.tabs, keep0, r.cf⟩
theorem HR.unbase (r : HR N γ H hp) (r' : HR N.base γ' H' hp') (k : Keep γ H γ' H') : HR N γ' H' hp' :=
  ⟨r'.nd, r'.len, fun k xs h => let ⟨a, vs, h1, h2, h3⟩ := r'.at_ k xs h; ⟨a, vs, h1, h2, RelL.re (N := N.base) h3⟩, r'.nf, r'.fz, r'.tabs, r.kb.trans k, r'.cf⟩
theorem RX.unbase {fr : Prop} {H0 : Hp} {W0 : Addr → Prop} {v : Sl} {x : V} (h : RX N.base fr H0 W0 γ H v x) : RX N fr H0 W0 γ H v x := by
  cases v with
  | val d => exact Rel.re (N := N.base) h
  | own xs => obtain ⟨a, vs, h1, h2, h3, h4⟩ := h; exact ⟨a, vs, h1, h2, RelL.re (N := N.base) h3, h4⟩
  | ownd t ks ds => obtain ⟨a, vs, o, h1, h2, h3, h4, h5⟩ := h; exact ⟨a, vs, o, h1, h2, h3, RelL.re (N := N.base) h4, h5⟩
  | exc => exact h
/-- what was known stays known behind a call -/
theorem Xc.keep (x : Xc γ H γ' H') (r : HR N γ H hp) : Keep γ H γ' H' := ⟨x.pre, x.fm, fun a o f h t => (x.fr a o h (fun m => r.nf a m f) t).mono fun _ => trivial⟩
end
section
variable {X : Cx} {N : Cn} {W : WX} {e e1 e2 e3 : Expr} {es rest : List Expr} {pos p1 p2 p3 p : Pos} {m m1 m2 m3 : M Sl} {md mi : M Kb.D} {ms : M (List Kb.D)} {fr : Prop}
theorem SR.call {γ γ' : Gh} {σ : L2.St} {H H' : Hp} {s : S} {hp : List Ob} (r : SR N γ σ H s) (x : Xc γ H γ' H') (hr : HR N γ' H' hp) : SR N γ' σ H' { s with hp := hp } ∧ Xe γ σ H s γ' H' { s with hp := hp } := by
  have xe : Xe γ σ H s γ' H' { s with hp := hp } := ⟨x.pre, x.fm, x.fr, x.mn, fun a h => (x.fn a h).elim .inl fun z => .inr (.inr z), x.al, fun _ h => h⟩
  have k : Keep γ H γ' H' := r.keepE xe
  refine ⟨⟨hr, r.len, fun i d h => ?_, fun i xs h => ?_, fun i t ks ds h => ?_, r.sep, fun i a h e => ?_, r.exc⟩, xe⟩
  · obtain ⟨v, h1, h2⟩ := r.val i d h
    exact ⟨v, h1, h2.keep k⟩
  · obtain ⟨a, vs, h1, h2, h3⟩ := r.own i xs h
    exact ⟨a, vs, h1, (x.fr a _ h2 (r.nf i a (.inl ⟨xs, h⟩) h1).2 (fun _ z => nomatch z)).eq (fun _ z => nomatch z), h3.keep k⟩
  · obtain ⟨a, vs, o, h1, h2, h3, h4⟩ := r.ownd i t ks ds h
    exact ⟨a, vs, o, h1, h2, (x.fr a _ h3 (r.nf i a (.inr ⟨t, ks, ds, h⟩) h1).2 (dicO_ne h2)).own (fun z => (x.fn a z).elim (r.nf i a (.inr ⟨t, ks, ds, h⟩) h1).1 (r.own_at (.inr ⟨t, ks, ds, h⟩) h1)), h4.keep k⟩
  · obtain ⟨n1, n2⟩ := r.nf i a h e
    have hn := r.own_at h e
    exact ⟨fun z => (x.fn a z).elim n1 hn, fun z => (x.mn a z).elim n2 hn⟩
theorem callM_post {γ : Gh} {σ : L2.St} {H : Hp} {s : S} {f : List Ob → Option Rf} {Q : VK} (r : SR N γ σ H s) (h : Post N W (RX N True) γ σ H s (callM f s) Q) : PostC N.base γ H (f s.hp) Q (WE W σ) := by
  unfold callM at h
  cases e : f s.hp with
  | none => rw [e] at h; exact h
  | some q =>
    rw [e] at h
    cases q with
    | ret v hp =>
      intro γ' H' x hr xc rel
      obtain ⟨r2, x2⟩ := r.call xc (r.hr.unbase hr (xc.keep r.hr))
      exact h γ' H' x r2 x2 (RX.late _ _ _ _ _ _ _ _ (fun _ z => z) (fun _ z => .inl (.inl z)) rel.unbase)
    | exn q fs hp =>
      intro γ' H' hr xc
      obtain ⟨r2, x2⟩ := r.call xc (r.hr.unbase hr (xc.keep r.hr))
      exact h γ' σ H' r2 x2.ext
/-- a def's promise; gd: where nothing is under way -/
structure FnG (gd : Bool) (P : Program) (w : World) (K : Fg) (mg : Str → Option Value) (base : Heap) (k : Nat) (f : Addr) (fd : FuncData) (ps : List Str) (sp : Sp) : Prop where
  n : ∀ {xs H Q E}, sp xs H Q E → xs.length = ps.length
  go : ∀ (A : Around) (up : List Env) (z : Shared) (H : Hp) (ar : Args) (us : List Value) (xs : List V) (Q : VK) (E : XK), Room k A → (gd = true → A.guards = some []) → Env0 P w K mg base A up z H → BindsTo z fd ar (ps.zip us) → Vals xs us → sp xs H Q E → codeAny (model P w) A (.call (.ref f) ar) (CR (L2.CX P w) up P w H z Q E) z
theorem FnG.at {gd : Bool} {k : Nat} {f : Addr} {fd : FuncData} {ps : List Str} {sp : Sp} {pins : List (Addr × Obj)} {σ : L2.St} {H : Hp} {z : Shared} {Q : VK} {us : List Value} {xs : List V} (F : FnG gd X.prog X.w X.K X.mg X.base k f fd ps sp) (room : Room k X.A) (quiet : gd = true → X.A.guards = some []) (bd : Binds X.K fd ps []) (tk : Takes X W)
    (I : Inv X pins σ H z) (r : Vals xs us) (h : sp xs H Q (WE W σ)) : wpAny (model X.prog X.w) X.A (call (.ref f) us) (EP X pins σ Q) X.xe z := by
  have bt : BindsTo z fd ⟨us, []⟩ (ps.zip us) := by
    have := bd z us I.kIn (by rw [List.append_nil, ← r.length]; exact F.n h)
    rwa [List.append_nil] at this
  refine wpAny_call (codeAny_mono (F.go X.A X.stack z H _ us xs Q (WE W σ) room quiet I.env0 bt r h) fun res z' hq => ?_)
  match res, hq with
  | .error u, hq => exact passAt tk σ pins H z u z' I hq
  | .ok (.ret u), hq => exact I.after hq
/-- .. from its body -/
theorem fnG_of {gd : Bool} {P : Program} {w : World} {K : Fg} {mg : Str → Option Value} {base : Heap} {k : Nat} {f : Addr} {nm qu : Str} {pr : Arguments} {bd : List Stmt} {sc : Scope} {v1 v2 v3 v4 cdv v5 v6 : Value} {a1 a2 : Option Addr} {sl : Array (Option Value)} {Ns ps : List Str} {sp : Sp}
    (lk : K.lookup f = some ⟨v6, a2, .func (PySem.W.fnOf nm qu pr bd sc v1 v2 v3 v4 a1 cdv v5), sl⟩) (code : PySem.W.codeIn K cdv qu = true) (FS : FnScope Ns ps sc) (n : ∀ {xs H Q E}, sp xs H Q E → xs.length = ps.length)
    (body : ∀ (A : Around) (up : List Env) (z : Shared) (H : Hp) (xs : List V) (Q : VK) (E : XK), Room k (A.deeper (envOfC qu sc z.heap.objs.size f cdv)) → (gd = true → A.guards = some []) → sp xs H Q E →
      ∃ t, PSs (cxOf (L2.CX P w) P w K mg base Ns qu sc f cdv A up z H E) bd t ∧ t { nx := fun _ H' => Q .non H', rt := Q } (L2.start Ns xs) H) :
    FnG gd P w K mg base (k + 1) f (PySem.W.fnOf nm qu pr bd sc v1 v2 v3 v4 a1 cdv v5) ps sp := by
  refine ⟨n, fun A up z H ar us xs Q E room quiet e0 bt r h => ?_⟩
  have stays : ∀ b o, base.get? b = some o → z.heap.get? b = some o := fun b o y => (e0.bs b o y).1
  have kz : K.In z.heap := e0.mod.kin.keeps stays
  have par : ∀ y ∈ ps.zip us, sc.names.lookup y.1 = some .local ∨ (sc.names.lookup y.1 = some .cell ∧ ((cellsFrom (z.heap.objs.size + 1) sc.names []).lookup y.1).isSome = true) := by
    rintro ⟨nam, val⟩ hy
    have := FS.par nam (List.of_mem_zip hy).1
    rcases this with q | q
    · exact .inl q
    · exact .inr ⟨q, PySem.W.cellsFrom_some _ _ _ (.inl q)⟩
  refine codeAny_call_function room.depth (kz _ _ lk) rfl FS.co FS.gen rfl (PySem.W.codeRec_of kz code) (bt _ _ _ _ ?_)
  refine wpAny_newFunctionEnv_cells FS.kind par fun en he z1 y => ?_
  subst he
  refine ⟨(e0.mod.nolimit.keeps stays).keeps y.toInCall.keep, codeAny_func ?_⟩
  obtain ⟨t, ht, hq⟩ := body A up z H xs Q E (room.deeper _) quiet h
  have inv : Inv (cxOf (L2.CX P w) P w K mg base Ns qu sc f cdv A up z H E) [] (L2.start Ns xs) H z1 := inv_start FS room.hd e0 (n h) r y
  refine wpAny_mono (ht.run [] z1 _ H _ inv hq) (fun fl z2 hs => ?_) fun u z2 hs => hs
  match fl, hs with
  | .ret u, hs =>
    obtain ⟨v, σ', H', J, rv, q⟩ := hs
    exact ⟨v, H', J.os, J.bare, J.base, J.hok, rv, q⟩
  | .next, hs =>
    obtain ⟨σ', H', J, q⟩ := hs
    exact ⟨V.non, H', J.os, J.bare, J.base, J.hok, rfl, q⟩
  | .brk, hs =>
    obtain ⟨_, _, _, q⟩ := hs
    exact q.elim
  | .cont, hs =>
    obtain ⟨_, _, _, q⟩ := hs
    exact q.elim
theorem ex_call {gd : Bool} {k : Nat} {f : Addr} {fd : FuncData} {ps : List Str} {x : Str} {g : List Kb.D → List Ob → Option Rf} (F : FnG gd X.prog X.w X.K X.mg X.base k f fd ps (spOf N.base g)) (hr : Room k X.A) (quiet : gd = true → X.A.guards = some []) (hg : Gl X x) (hm : X.mg x = some (.ref f)) (hk : PySem.W.keepIn X.K (.ref f) = true)
    (hb : Binds X.K fd ps []) (tk : Takes X W) (ha : PA X (e :: es) (TT' N W (RDs N) ms)) (hdb : (x == ("__debug__" : Str)) = false) (hs : notStar e = true) (hss : es.all notStar = true) :
    PE X (.Call (.Name x p) (e :: es) [] pos) (TT' N W (RX N True) (bnd ms fun ds => callM (g ds))) := by
  have c : PE X (.Call (.Name x p) (e :: es) [] pos) (tCallS (spOf N.base g) (WE W) (TT' N W (RDs N) ms)) := by
    constructor
    intro pins z σ H Q I h
    apply wpAny_Call_Name_kw
    refine ld_glob I hg hm ?_ hdb
    refine PySem.W.callWith_K (h₀ := X.base) I.ok.mod.kin hk (thn (ha.run pos pins z σ H _ I h) fun us z1 q => ?_) (star_of hs) (stars_no hss)
    obtain ⟨xs, H1, I1, r, q⟩ := q
    exact ⟨I1.kIn, F.at hr quiet hb tk I1 r q⟩
  exact c.imp fun σ H Q ⟨γ, s, r, h⟩ => ⟨γ, s, r, (h.bnd RX.late).mono fun vs H1 ⟨ds, s1, γ1, _, r1, x1, rel, h1⟩ => ⟨γ1, ds, s1.hp, r1.hr.base, rel.re, callM_post r1 h1⟩⟩
theorem ex_call0 {gd : Bool} {k : Nat} {f : Addr} {fd : FuncData} {ps : List Str} {x : Str} {g : List Kb.D → List Ob → Option Rf} (F : FnG gd X.prog X.w X.K X.mg X.base k f fd ps (spOf N.base g)) (hr : Room k X.A) (quiet : gd = true → X.A.guards = some []) (hg : Gl X x) (hm : X.mg x = some (.ref f)) (hk : PySem.W.keepIn X.K (.ref f) = true)
    (hb : Binds X.K fd ps []) (tk : Takes X W) (hdb : (x == ("__debug__" : Str)) = false) :
    PE X (.Call (.Name x p) [] [] pos) (TT' N W (RX N True) (bnd (pur []) fun ds => callM (g ds))) := by
  refine ⟨fun pins s σ H Q I h => ?_⟩
  refine wpAny_Call_Name_kw (ld_glob I hg hm ?_ hdb)
  obtain ⟨γ, st, r, h⟩ := h
  exact PySem.W.callWith_K0 I.kIn hk (F.at (us := []) hr quiet hb tk I .nil ⟨γ, [], st.hp, r.hr.base, rfl, callM_post r h⟩)
/-! ### displays -/
theorem ex_dic0 : PE X (.Dict [] [] pos) (TT' N W (RX N True) (bnd (pur []) fun a => bnd (pur []) fun b => lft (dicL false a b [] []))) :=
  pe_dnewK.imp fun σ H Q ⟨γ, s, r, h⟩ p np => by
    have h : Post N W (RX N True) γ σ H s (some (.ok (.ownd false [] []) s)) Q := h
    exact Res.post (w := .ownd false [] []) r (fun γ' H' b a1 a2 a3 => h γ' H' b a1 a2 a3) _ _ (.dic (vs := []) np rfl (RelL.nil_iff.mpr rfl))
/-- a new thing in the heap -/
theorem SR.newH {γ : Gh} {σ : L2.St} {H : Hp} {s : S} {a : Addr} {ds : List Kb.D} {vs : List V} (r : SR N γ σ H s) (np : H a = none) (rel : RelL N γ H ds vs) :
    SR N ⟨γ.m ++ [a], γ.F⟩ σ (upd H a (.lst vs)) { s with hp := s.hp ++ [.lst ds] } ∧ Xe γ σ H s ⟨γ.m ++ [a], γ.F⟩ (upd H a (.lst vs)) { s with hp := s.hp ++ [.lst ds] } := by
  have ne : ∀ b u, H b = some u → b ≠ a := fun b u h z => by rw [z, np] at h; cases h
  have pre : ∀ (k : Nat) b, γ.m[k]? = some b → (γ.m ++ [a])[k]? = some b := fun k b h => by
    rw [List.getElem?_append_left (List.getElem?_eq_some_iff.mp h).1]; exact h
  have K : Keep γ H ⟨γ.m ++ [a], γ.F⟩ (upd H a (.lst vs)) := ⟨pre, fun _ h => h, fun b u _ h _ => .inl (by rw [upd_ne (ne b u h)]; exact h)⟩
  have am : a ∉ γ.m := fun z => by
    obtain ⟨us, h⟩ := r.hr.m_at z
    rw [np] at h; cases h
  refine ⟨⟨⟨?_, by simp [r.hr.len], fun k xs h => ?_, fun b hb => ?_, fun b hb => ?_, (r.hr.tabs.ext fun b u h => by rw [upd_ne (ne b u h)]; exact h), r.hr.kb.trans K, cf_upd r.hr.cf (fun _ _ z => nomatch z)⟩, r.len, fun i d h => ?_, fun i xs h => ?_, fun i t ks ds h => ?_, r.sep, fun i b h e => ?_, r.exc⟩, ?_⟩
  · exact List.nodup_append.mpr ⟨r.hr.nd, by simp, fun x hx y hy e => by
      have : y = a := by simpa using hy
      exact am (by rw [← this, ← e]; exact hx)⟩
  · have h : (s.hp ++ [Ob.lst ds])[k]? = some (.lst xs) := h
    by_cases c : k < s.hp.length
    · rw [List.getElem?_append_left c] at h
      obtain ⟨b, us, h1, h2, h3⟩ := r.hr.at_ k xs h
      exact ⟨b, us, pre k b h1, by rw [upd_ne (ne b _ h2)]; exact h2, h3.keep K⟩
    · rw [List.getElem?_append_right (by omega)] at h
      have hk : k = s.hp.length := by
        have := (List.getElem?_eq_some_iff.mp h).1
        simp at this
        omega
      subst hk
      rw [Nat.sub_self] at h
      cases h
      exact ⟨a, vs, by rw [← r.hr.len, List.getElem?_append_right (Nat.le_refl _), Nat.sub_self]; rfl, upd_same, rel.keep K⟩
  · rcases List.mem_append.mp hb with z | z
    · exact r.hr.nf b z
    · have : b = a := by simpa using z
      subst this
      exact fun z => r.hr.fz b z (.of np)
  · exact fun n => r.hr.fz b hb (nn_upd n (fun _ z => nomatch z)).2
  · obtain ⟨v, h1, h2⟩ := r.val i d h
    exact ⟨v, h1, h2.keep K⟩
  · obtain ⟨b, us, h1, h2, h3⟩ := r.own i xs h
    exact ⟨b, us, h1, by rw [upd_ne (ne b _ h2)]; exact h2, h3.keep K⟩
  · obtain ⟨b, us, u, h1, h2, h3, h4⟩ := r.ownd i t ks ds h
    exact ⟨b, us, u, h1, h2, by rw [upd_ne (ne b _ h3)]; exact h3, h4.keep K⟩
  · obtain ⟨n1, n2⟩ := r.nf i b h e
    refine ⟨n1, fun z => ?_⟩
    rcases List.mem_append.mp z with z | z
    · exact n2 z
    · have : b = a := by simpa using z
      subst this
      exact r.own_at h e (.of np)
  · refine ⟨pre, fun _ h => h, fun b u h _ _ => .inl (by rw [upd_ne (ne b u h)]; exact h), fun b hb => ?_, fun _ h => .inl h, fun b h => (nn_upd h (fun _ z => nomatch z)).2, fun _ h => h⟩
    · rcases List.mem_append.mp hb with z | z
      · exact .inl z
      · have : b = a := by simpa using z
        subst this
        exact .inr (.of np)
theorem ex_lstH (hs : PA X es (TT' N W (RDs N) ms)) (hl : ∀ s ds s', ms s = some (.ok ds s') → ds.length = es.length) (hz : es.length ≤ line) : PE X (.List es pos) (TT' N W (RX N True) (bnd ms fun ds => Kb.newH ds)) :=
  (pe_lst hs).imp fun σ H Q ⟨γ, s, r, h⟩ => ⟨γ, s, r, (h.bnd RX.late).mono fun xs H1 ⟨ds, s1, γ1, em, r1, x1, rel, h1⟩ => by
    refine ⟨by rw [← rel.length, hl _ _ _ em, line_eq]; exact hz, fun p np => ?_⟩
    obtain ⟨r2, x2⟩ := r1.newH np rel
    refine h1 _ _ (.ref p) r2 x2 ⟨p, rfl, ?_⟩
    show (γ1.m ++ [p])[s1.hp.length]? = some p
    rw [← r1.hr.len, List.getElem?_append_right (Nat.le_refl _), Nat.sub_self]
    rfl⟩
/-! ### classes asked -/
def tyName : Ty → String
  | .int => "int"
  | .bool => "bool"
  | .str => "str"
  | .tuple => "tuple"
  | .list => "list"
  | .dict => "dict"
def dTy : Kb.D → Option String
  | .non => some "NoneType"
  | .bl _ => some "bool"
  | .int _ => some "int"
  | .str _ => some "str"
  | .tup _ => some "tuple"
  | .lst _ => some "list"
  | .dic _ _ => some "dict"
  | _ => none
theorem kit_all : ∀ (t : Ty), kitB "NoneType" (tyName t) = some false ∧ kitB "bool" (tyName t) = some (decide (t = .bool) || decide (t = .int)) ∧ kitB "int" (tyName t) = some (decide (t = .int)) ∧ kitB "str" (tyName t) = some (decide (t = .str)) ∧
    kitB "tuple" (tyName t) = some (decide (t = .tuple)) ∧ kitB "list" (tyName t) = some (decide (t = .list)) ∧ kitB "dict" (tyName t) = some (decide (t = .dict)) := by
  intro t
  cases t <;> decide +kernel
theorem hasTy_kit {t : Ty} {d : Kb.D} {b : Bool} (h : hasTy t d = some b) : ∃ n, dTy d = some n ∧ kitB n (tyName t) = some b := by
  obtain ⟨h0, h1, h2, h3, h4, h5, h6⟩ := kit_all t
  cases d <;> cases t <;> first | (cases h; done) | (cases h; exact ⟨_, rfl, by first | exact h0 | exact h1 | exact h2 | exact h3 | exact h4 | exact h5 | exact h6⟩)
theorem tyX_of {γ : Gh} {H : Hp} {d : Kb.D} {x : V} {n : String} (hK : N.K = X.K) (r : RdR N γ H d x) (h : dTy d = some n) : TyX X.K H x (.type n) := by
  cases d with
  | non => cases h; have r : x = .non := r; subst r; exact .base .non
  | bl b => cases h; have r : x = .bl b := r; subst r; exact .base (.bl b)
  | int i => cases h; have r : x = .int i := r; subst r; exact .base (.int i)
  | str l => cases h; obtain ⟨rfl, _⟩ := r; exact .base (.str _)
  | tup ds =>
    cases h
    obtain ⟨a, vs, rfl, h1 | ⟨o, its, q, h1, h2, h3⟩, _⟩ := r
    · exact .base (.tup h1.2)
    · rw [hK] at h1; exact .kTuple h1 h2
  | lst ds => cases h; obtain ⟨a, vs, rfl, h1, _⟩ := r; exact .base (.lst h1)
  | dic ks ds =>
    cases h
    obtain ⟨a, vs, rfl, ⟨t, o, h1, h2⟩, _⟩ := r
    obtain ⟨rfl, _, kvs, e, rfl⟩ := dicO_inv h1
    rcases h2 with h2 | ⟨od, h2⟩
    · exact .base (.dK h2)
    · exact .fDict h2
  | _ => cases h
theorem boot_ty (t : Ty) : bootBuiltins ⟨(tyName t).toList.toArray.map Char.toNat⟩ = some (.type (tyName t)) := by cases t <;> decide +kernel
theorem ex_isi {t : Ty} {T : Str} (hK : N.K = X.K) (hT : bootBuiltins T = some (.type (tyName t))) (hg : Gl X "isinstance") (hm : X.mg "isinstance" = none) (hgT : Gl X T) (hmT : X.mg T = none) (hnT : T ≠ "__name__") (hdT : (T == ("__debug__" : Str)) = false) (ha : PE X e (TT' N W (RX N fr) m)) (hs : notStar e = true) :
    PE X (.Call (.Name "isinstance" p1) [e, .Name T p2] [] pos) (TT' N W (RX N True) (bnd m fun x => lft ((hasTy t x.d).map fun k => .val (.bl k)))) := by
  have hT' : PE X (.Name T p2) (tC (.ty (tyName t))) := pe_bltn hgT hmT hT rfl hnT hdT
  refine (pe_callB call_isi hg hm PyProof.Rows.boot_isinstance (pa_cons ha (pa_cons hT' pa_nil) (star_of hs)) (by decide) (by decide) (star_of hs) (by rfl)).imp fun σ H Q ⟨γ, s, r, h⟩ => ⟨γ, s, r, (h.bnd RX.late).mono fun x H1 ⟨d, s1, γ1, em, r1, x1, rel, h1⟩ => ?_⟩
  obtain ⟨v, ev, k⟩ := h1.lft
  obtain ⟨b, eb, rfl⟩ := Option.map_some_inv ev
  obtain ⟨n, hn, hk⟩ := hasTy_kit eb
  exact ⟨x, .ty (tyName t), .type n, .type (tyName t), b, rfl, .ty _, tyX_of hK rel.rr hn, kit_ty hk, k γ1 H1 (.bl b) r1 (Xe.refl ..) rfl⟩
/-- isinstance(error, c) -/
theorem ex_isx {n T : Str} {i k q : Nat} {cv : V} {cu : Value} {sub : Nat → Nat → Bool} (hx : ∀ a, N.exa i = some a → CallR X (.builtin "isinstance") (rIsE X.K (N.cls q) a)) (hN : X.N[i]? = some n) (hv : Vis X.env.scope n) (hd : (n == ("__debug__" : Str)) = false) (hcd : (n == ("__classdict__" : Str)) = false)
    (hg : Gl X "isinstance") (hm : X.mg "isinstance" = none) (hT : PE X (.Name T p3) (tC cv)) (hcv : ∀ u, RelV cv u → u = cu) (hk : PySem.W.kitOne X.K (.ref (N.cls q)) cu = some (sub q k)) :
    PE X (.Call (.Name "isinstance" p1) [.Name n p2, .Name T p3] [] pos) (TT' N W (RX N True) (fun s => match s.sl[i]? with
    | some (some .exc) => some (.ok (.val (.bl (sub q k))) s)
    | _ => none)) := by
  by_cases c : ∃ a, N.exa i = some a
  · obtain ⟨a, ea⟩ := c
    refine (pe_callB (hx a ea) hg hm PyProof.Rows.boot_isinstance (pa_cons (pe_var (pos := p2) hN hv hd hcd) (pa_cons hT pa_nil) (star_of rfl)) (by decide) (by decide) (star_of rfl) (by rfl)).imp fun σ H Q ⟨γ, s, r, h⟩ => ?_
    dsimp only at h
    split at h
    · rename_i hs
      obtain ⟨a', e1, e2⟩ := r.exc i hs
      rw [ea] at e1
      cases e1
      exact ⟨.ref a, e2, cv, cu, sub q k, rfl, hcv, hk, h γ H (.bl (sub q k)) r (Xe.refl ..) rfl⟩
    · exact h.elim
  · refine ⟨fun pins s σ H Q I ⟨γ, st, r, h⟩ => ?_⟩
    dsimp only at h
    split at h
    · rename_i hs
      obtain ⟨a', e1, e2⟩ := r.exc i hs
      exact absurd ⟨a', e1⟩ c
    · exact h.elim
end
end Kb

set_option Elab.async false
set_option linter.all false
set_option maxRecDepth 100000
set_option maxHeartbeats 4000000
/-! KbSo: sorting tuples, some of them empty. -/
namespace Kb
open PySem PySem.Calls PyProof.Rows PySem.W PySem.SeqAt
mutual
theorem reads_lt {h : Heap} : ∀ (d : PyData) (v : Value) (as : List Addr), alike d d = true → Reads h v d as → ∀ a ∈ as, a < h.objs.size
  | .none, _, _, _, r, a, ha => by cases r; cases ha
  | .bool _, _, _, _, r, a, ha => by cases r; cases ha
  | .int _, _, _, _, r, a, ha => by cases r; cases ha
  | .str _, _, _, _, r, a, ha => by cases r; cases ha
  | .list xs, _, _, hal, r, a, ha => by
    cases r with
    | list h1 h2 h3 h4 =>
      rcases List.mem_cons.mp ha with rfl | ha
      · exact Heap.lt_size h1
      · exact readsAll_lt xs _ _ (by simpa [alike] using hal) h4 a ha
  | .tuple xs, _, _, hal, r, a, ha => by
    cases r with
    | tuple h1 h2 h3 h4 => exact readsAll_lt xs _ _ (by simpa [alike] using hal) h4 a ha
  | .dict _, _, _, hal, _, _, _ => absurd hal (by simp [alike])
theorem readsAll_lt {h : Heap} : ∀ (ds : List PyData) (vs : List Value) (as : List Addr), alikeAll ds ds = true → ReadsAll h vs ds as → ∀ a ∈ as, a < h.objs.size
  | [], _, _, _, r, a, ha => by cases r; cases ha
  | d :: ds, _, _, hal, r, a, ha => by
    cases r with
    | cons h1 h2 =>
      rcases List.mem_append.mp ha with ha | ha
      · exact reads_lt d _ _ (alike_all_cons hal).1 h1 a ha
      · exact readsAll_lt ds _ _ (alike_all_cons hal).2 h2 a ha
end
section
variable {M : Model} {prog : Program} {w : World} {A : Around} {E : Value → Shared → Prop} {s : Shared}
theorem mapM_g {α β : Type} {f : α → Sem β} {g : α → β} : ∀ (l : List α) {Q : List β → Shared → Prop}, (∀ v ∈ l, ∀ (Q' : β → Shared → Prop), Q' (g v) s → wpAny M A (f v) Q' E s) → Q (l.map g) s → wpAny M A (l.mapM f) Q E s
  | [], _, _, h => by rw [List.mapM_nil]; exact wpAny_pure h
  | x :: l, Q, hf, h => by
    rw [List.mapM_cons]
    exact wpAny_bind (hf x (.head _) _ (wpAny_bind (mapM_g l (Q := fun bs s' => wpAny M A (pure (g x :: bs)) Q E s') (fun v hv => hf v (.tail _ hv)) (wpAny_pure h))))
theorem each_right {α β : Type} {R : α → β → Prop} : ∀ {as : List α} {bs : List β}, EachIs R as bs → ∀ b, b ∈ bs → ∃ a, a ∈ as ∧ R a b
  | _, _, .nil, _, hb => nomatch hb
  | _, _, .cons (a := a) h t, b, hb => by
    rcases List.mem_cons.mp hb with rfl | hb
    · exact ⟨a, List.mem_cons_self .., h⟩
    · obtain ⟨a, h1, h2⟩ := each_right t b hb
      exact ⟨a, List.mem_cons_of_mem _ h1, h2⟩
def fstAt (h : Heap) : Value → Option Value
  | .ref a => match h.get? a with
    | some o => match o.data with
      | .seq xs _ => xs[0]?
      | _ => none
    | none => none
  | _ => none
theorem first_tup {v : Value} {xs : List PyData} {as : List Addr} (r : Reads s.heap v (.tuple xs) as) {Q : Option Value → Shared → Prop} (hq : Q (fstAt s.heap v) s) : wpAny M A (firstOfTuple' v) Q E s := by
  have hT := looks_reads (M := M) r
  cases r with
  | @tuple l o vs n _ _ h1 h2 h3 h4 =>
    rw [kas_first_eq]
    refine wpAny_bind (hT.here ?_)
    rw [if_neg (by simp [dataType])]
    have e : fstAt s.heap (.ref l) = vs[0]? := by
      unfold fstAt
      dsimp only
      rw [h1]
      dsimp only
      rw [h3]
    rw [e] at hq
    exact wpAny_bind (listItems_at h1 h3 (wpAny_pure hq))
theorem fst_none {v : Value} {as : List Addr} (r : Reads s.heap v (.tuple []) as) : fstAt s.heap v = none := by
  cases r with
  | @tuple l o vs n _ _ h1 h2 h3 h4 =>
    unfold fstAt
    dsimp only
    rw [h1]
    dsimp only
    rw [h3]
    have : vs.toList = [] := by
      cases q : vs.toList with
      | nil => rfl
      | cons x t => rw [q] at h4; cases h4
    have : vs.size = 0 := by rw [← Array.length_toList, this]; rfl
    exact Array.getElem?_eq_none (by omega)
theorem call_tuple_lt {Q : Value → Shared → Prop} {l b : Addr} {items items2 : Array Value} {e r : Nat → Bool} (hl : s.heap.IsTuple l items) (hb : s.heap.IsTuple b items2)
    (he : ∀ j (h1 : j < items.size) (h2 : j < items2.size), EqAt A.in1 s items[j] items2[j] (e j)) (hr : ∀ j (h1 : j < items.size) (h2 : j < items2.size), e j = false → RcLt A.in1 s items[j] items2[j] (r j))
    (h : Q (.bool (firstLt e r (decide (items.size < items2.size)) (List.range (min items.size items2.size)))) s) : wpAny (model prog w) A (call (.builtin "tuple.__lt__") [.ref l, .ref b]) Q E s := by
  obtain ⟨⟨cls, dd, data, sl⟩, ho, hc, n, hd⟩ := id hl
  obtain ⟨⟨cls2, dd2, data2, sl2⟩, ho2, hc2, n2, hd2⟩ := id hb
  simp only at hc hd hc2 hd2
  subst hc hd hc2 hd2
  exact call_meets F.slot_tuple_lt ⟨_, ho, rfl⟩ F.entry_tuple_lt (F.args_tuple_lt_2 _ _) (SeqAt.tuple_ltAt l b items items2 n n2 dd dd2 sl sl2 e r) ⟨ho, ho2, he, hr, h⟩
theorem oneLt_tuples {xs ys : List PyData} {a b : Value} {as bs : List Addr} {Q : Bool → Shared → Prop} (ra : Reads s.heap a (.tuple xs) as) (rb : Reads s.heap b (.tuple ys) bs) (h : alike (.tuple xs) (.tuple ys) = true)
    (hu : A.units + min (PyData.tuple xs).depth (PyData.tuple ys).depth < cLine) (hq : Q (dataLt (.tuple xs) (.tuple ys)) s) : wpAny (model prog w) A (oneLt' true a b) Q E s := by
  have hal : alikeAll xs ys = true := by simpa [alike] using h
  cases ra with
  | @tuple l o vs n _ as₁ h1 h2 h3 h4 =>
    cases rb with
    | @tuple l' o' vs' n' _ bs₁ k1 k2 k3 k4 =>
      have n1 : vs.size = xs.length := by simpa using ReadsAll.length _ _ _ h4
      have n2 : vs'.size = ys.length := by simpa using ReadsAll.length _ _ _ k4
      rw [dataLt_tuple, ← firstLt_toks xs ys hal, ← n1, ← n2] at hq
      rw [oneLt'_eq]
      simp only [if_true]
      refine wpAny_bind (wpAny_cRoomFor (room_here hu) ?_)
      refine wpAny_bind (wpAny_callSpecialIfBound?_slot (T := "tuple") ⟨_, h1, h2⟩ F.slot_tuple_lt (call_tuple_lt (e := pairEq xs ys) (r := fun j => dataLt (xs.getD j .none) (ys.getD j .none)) ⟨_, h1, h2, _, h3⟩ ⟨_, k1, k2, _, k3⟩ (fun j j1 j2 => ?_) (fun j j1 j2 hj => ?_) ?_))
      · have := eqAt_alikeAll xs ys A.in1 s vs.toList vs'.toList _ _ h4 k4 hal (room_in hu) j (by simpa using j1) (by simpa using j2)
        simpa using this
      · have := rcLt_alikeAll xs ys A.in1 s vs.toList vs'.toList _ _ h4 k4 hal (room_in hu) j (by simpa using j1) (by simpa using j2) hj
        simpa using this
      · exact wpAny_truthy_bool hq
/-- all are tuples, one of them without an item -/
theorem sortsAt_tups {vs : List Value} {ds : List PyData} (e : EachIs (fun v d => ∃ as, Reads s.heap v d as) vs ds) (hal : AllAlike ds) (ht : ∀ d, d ∈ ds → ∃ xs, d = .tuple xs) (hn : .tuple [] ∈ ds) (hu : ∀ d, d ∈ ds → A.units + d.depth < cLine) : SortsAt prog w A s (dataKind s.heap ds) vs := by
  have room : ∀ {d d' : PyData}, d ∈ ds → A.units + min d.depth d'.depth < cLine := fun {d d'} hd => Nat.lt_of_le_of_lt (Nat.add_le_add_left (Nat.min_le_left _ _) _) (hu d hd)
  refine ⟨fun v hv => ?_, ?_⟩
  · obtain ⟨d, hd, as, r⟩ := e.left v hv
    exact ⟨_, dataKind_some hal hd r⟩
  · have lg : H.LtAt prog w A s (dataKind s.heap ds) general' := by
      intro E x y a b Q ha hb hq
      obtain ⟨d, as, hd, ra, rfl⟩ := dataKind_inv ha
      obtain ⟨d', as', hd', rb, rfl⟩ := dataKind_inv hb
      exact oneLt_alike (f := false) (fun z => nomatch z) ra rb (hal d hd d' hd') (by obtain ⟨xs, rfl⟩ := ht d hd; exact fun z => nomatch z) (room hd) hq
    have lo : H.LtAt prog w A s (dataKind s.heap ds) oneType' := by
      intro E x y a b Q ha hb hq
      obtain ⟨d, as, hd, ra, rfl⟩ := dataKind_inv ha
      obtain ⟨d', as', hd', rb, rfl⟩ := dataKind_inv hb
      obtain ⟨xs, rfl⟩ := ht d hd
      obtain ⟨ys, rfl⟩ := ht d' hd'
      rw [keyLt'_oneType]
      exact oneLt_tuples ra rb (hal _ hd _ hd') (room hd) hq
    have firsts : ∀ (E : Value → Shared → Prop) {Q : SortKind → Shared → Prop}, 1 ≤ vs.length → Q (if ((vs.map (fstAt s.heap))[0]?.bind id).isSome then general' else oneType') s → wpAny (model prog w) A (keyKind' vs.toArray) Q E s := by
      intro E Q h1 hq
      rw [kat_kind_eq, List.mapM_toArray, map_eq_pure_bind]
      refine wpAny_bind (wpAny_bind (mapM_g (g := fstAt s.heap) _ (fun v hv Q' hq => ?_) (wpAny_pure ?_)))
      · obtain ⟨d, hd, as, r⟩ := e.left v hv
        obtain ⟨xs, rfl⟩ := ht d hd
        exact first_tup r hq
      · obtain ⟨v0, hv0, as0, r0⟩ := each_right e _ hn
        have f0 := fst_none r0
        have na : ((List.map (fstAt s.heap) vs).toArray.all fun x => x.isSome) = false := by
          simp only [List.all_toArray, List.all_map, List.all_eq_false]
          exact ⟨v0, hv0, by simp [f0]⟩
        rw [if_neg (by rw [na]; simp)]
        have e0 : (List.map (fstAt s.heap) vs).toArray[0]? = (vs.map (fstAt s.heap))[0]? := by simp
        rw [e0]
        split
        · rename_i c
          rw [if_pos c] at hq
          exact wpAny_pure hq
        · rename_i c
          rw [if_neg c] at hq
          rw [oneTypeOnly'_eq, List.mapM_toArray, map_eq_pure_bind]
          refine wpAny_bind (wpAny_bind (wpAny_bind (kas_mapM (r := Value.type "tuple") _ (fun v hv Q' hq => ?_) (wpAny_pure ?_))))
          · obtain ⟨d, hd, as, r⟩ := e.left v hv
            obtain ⟨xs, rfl⟩ := ht d hd
            exact (looks_reads r).here hq
          · have hall : ((List.map (fun _ => Value.type "tuple") vs).toArray.all fun x => x == Value.type "tuple") = true := by
              simp only [List.all_toArray, List.all_map, List.all_eq_true]
              intro _ _
              rfl
            have h0 : (List.map (fun _ => Value.type "tuple") vs).toArray[0]? = some (Value.type "tuple") := by
              cases vs with
              | nil => simp at h1
              | cons _ _ => simp
            rw [h0]
            simp only [hall, if_true]
            exact wpAny_pure (wpAny_pure hq)
    by_cases c : ((vs.map (fstAt s.heap))[0]?.bind id).isSome = true
    · exact ⟨general', lg, fun h2 E Q hq => firsts E (by omega) (by rw [if_pos c]; exact hq)⟩
    · exact ⟨oneType', lo, fun h2 E Q hq => firsts E (by omega) (by rw [if_neg c]; exact hq)⟩
def Sortable2 (ds : List PyData) : Prop := (∀ d, d ∈ ds → ∃ r, d = .tuple r) ∨ ∀ d, d ∈ ds → d ≠ .none ∧ ∀ xs, d ≠ .tuple xs
theorem sortsAt2 {vs : List Value} {ds : List PyData} (e : EachIs (fun v d => ∃ as, Reads s.heap v d as) vs ds) (hal : AllAlike ds) (hk : Sortable2 ds) (hu : ∀ d, d ∈ ds → A.units + d.depth < cLine) : SortsAt prog w A s (dataKind s.heap ds) vs := by
  rcases hk with ht | hn
  · by_cases c : PyData.tuple [] ∈ ds
    · exact sortsAt_tups e hal ht c hu
    · refine SortsAt.data e hal (.inl fun d hd => ?_) hu
      obtain ⟨r, rfl⟩ := ht d hd
      cases r with
      | nil => exact (c hd).elim
      | cons x r => exact ⟨x, r, rfl⟩
  · exact SortsAt.data e hal (.inr hn) hu
variable {β : Type} {vs : List Value} {bs : List β} {enc : β → PyData} {R : Value → β → Prop}
theorem sorted_data2 {l : Addr} {Q : Value → Shared → Prop} (hl : s.heap.IsList l vs.toArray) (e : EachIs R vs bs) (er : EachIs (fun v b => ∃ as, Reads s.heap v (enc b) as) vs bs) (hal : AllAlike (bs.map enc)) (hk : Sortable2 (bs.map enc)) (hL : bs.length ≤ sizeLine)
    (hu : ∀ b, b ∈ bs → A.units + 2 + (enc b).depth < cLine) (h : ∀ out, out.length = bs.length → EachIs R out (bs.mergeSort (dataLe false enc)) → Q (.ref (s.heap.objs.size + 1)) { s with heap := sortedAll s.heap vs (List.toArray out) }) :
    wpAny (model prog w) A (call (.builtin "sorted") [.ref l]) Q E s := by
  have er' : EachIs (fun v b => ∃ as, Reads (sortingHeap (copyHeap s.heap vs) (s.heap.objs.size + 1) vs) v (enc b) as) vs bs := er.mono fun _ _ ⟨as, r⟩ => ⟨as, PyProof.Rows.Reads.keeps (fun _ _ => sorting_copy_old) r⟩
  exact sorted_vals hl (sortsAt2 (s := { s with heap := sortingHeap (copyHeap s.heap vs) (s.heap.objs.size + 1) vs }) (each_map (R := fun v d => ∃ as, Reads (sortingHeap (copyHeap s.heap vs) (s.heap.objs.size + 1) vs) v d as) enc er') hal hk (bound_map hu)) (by rw [e.length]; exact hL)
    (h _ (by rw [sortVals_length false rfl]; exact e.length) (sortVals_data false e er' hal))
theorem list_sort_data2 {a : Addr} {n : Nat} {Q : Value → Shared → Prop} (ho : s.heap.get? a = some (seqObj "list" vs.toArray n)) (e : EachIs R vs bs) (er : EachIs (fun v b => ∃ as, Reads s.heap v (enc b) as ∧ a ∉ as) vs bs) (hal : AllAlike (bs.map enc)) (hk : Sortable2 (bs.map enc)) (hL : bs.length ≤ sizeLine)
    (hu : ∀ b, b ∈ bs → A.units + 1 + (enc b).depth < cLine) (h : ∀ out, out.length = bs.length → EachIs R out (bs.mergeSort (dataLe false enc)) → Q .none { s with heap := sortedHeap s.heap a vs (List.toArray out) }) :
    wpAny (model prog w) A (call (.builtin "list.sort") [.ref a]) Q E s := by
  have er' : EachIs (fun v b => ∃ as, Reads (sortingHeap s.heap a vs) v (enc b) as) vs bs := each_keepBut (h' := sortingHeap s.heap a vs) (fun _ _ hb q => sortingHeap_old hb q) (fun o q => by rw [ho] at q; rw [← Option.some.inj q]) hal er
  refine wpAny_call_entry slot_list_sort ⟨_, ho, rfl⟩ entry_list_sort (list_sort_vals (κ := dataKind (sortingHeap s.heap a vs) (bs.map enc)) ho (sortsAt2 (s := { s with heap := sortingHeap s.heap a vs }) (each_map (R := fun v d => ∃ as, Reads (sortingHeap s.heap a vs) v d as) enc er') hal hk (bound_map hu)) (by rw [e.length]; exact hL) ⟨.none, rfl, ?_⟩) (args_list_sort _)
  exact h _ (by rw [sortVals_length false rfl]; exact e.length) (sortVals_data false e er' hal)
end
end Kb

set_option Elab.async false
set_option linter.all false
set_option maxRecDepth 100000
set_option maxHeartbeats 4000000
/-! KbX1: sorted, dict of pairs, lists of ranges. -/
namespace Kb
open PySem PySem.Spec PyProof.Rows L2 TL
/-! ### order -/
theorem atomLt_eq (a b : Int ⊕ List Nat) : atomLt a b = itemLt a b := by
  cases a <;> cases b <;> first | rfl | exact ltS_eq _ _
theorem lexT_eq : ∀ a b : List (Int ⊕ List Nat), lexT a b = lexLt itemOrd a b
  | [], [] => rfl
  | [], _ :: _ => rfl
  | _ :: _, [] => rfl
  | x :: r, y :: t => by
    rw [lexT, lex_cons, lexT_eq r t, atomLt_eq, atomLt_eq]
mutual
theorem toks_eq : ∀ d : Kb.D, pl 60 d = true ∨ True → toks d = PySem.W.keyToks (toPy d)
  | .non, _ => by simp only [toks, toPy, PySem.W.keyToks]
  | .bl b, _ => by simp only [toks, toPy, PySem.W.keyToks]
  | .int b, _ => by simp only [toks, toPy, PySem.W.keyToks]
  | .str b, _ => by simp only [toks, toPy, PySem.W.keyToks, St_list]
  | .tup xs, _ => by simp only [toks, toPy, PySem.W.keyToks]; exact toksL_eq xs
  | .lst xs, _ => by simp only [toks, toPy, PySem.W.keyToks]; exact toksL_eq xs
  | .dic _ _, _ => by simp only [toks, toPy, PySem.W.keyToks]
  | .set _, _ => by simp only [toks, toPy, PySem.W.keyToks]
  | .ref _, _ => by simp only [toks, toPy, PySem.W.keyToks]
  | .scr _, _ => by simp only [toks, toPy, PySem.W.keyToks]
  | .kdic _ _, _ => by simp only [toks, toPy, PySem.W.keyToks]
theorem toksL_eq : ∀ ds : List Kb.D, toksL ds = PySem.W.keyToksAll (toPyL ds)
  | [] => by simp only [toksL, toPyL, PySem.W.keyToksAll]
  | d :: ds => by simp only [toksL, toPyL, PySem.W.keyToksAll, toks_eq d (.inr trivial), toksL_eq ds]
end
mutual
theorem alD_ok : ∀ a b : Kb.D, alD a b = true → PySem.W.alike (toPy a) (toPy b) = true
  | .non, b, h => by cases b <;> first | (cases h; done) | simp only [toPy, PySem.W.alike]
  | .bl _, b, h => by cases b <;> first | (cases h; done) | simp only [toPy, PySem.W.alike]
  | .int _, b, h => by cases b <;> first | (cases h; done) | simp only [toPy, PySem.W.alike]
  | .str _, b, h => by cases b <;> first | (cases h; done) | simp only [toPy, PySem.W.alike]
  | .tup xs, b, h => by
    cases b with
    | tup ys => rw [alD] at h; simp only [toPy, PySem.W.alike]; exact alL_ok xs ys h
    | _ => cases h
  | .lst xs, b, h => by cases b <;> cases h
  | .dic _ _, b, h => by cases b <;> cases h
  | .set _, b, h => by cases b <;> cases h
  | .ref _, b, h => by cases b <;> cases h
  | .scr _, b, h => by cases b <;> cases h
  | .kdic _ _, b, h => by cases b <;> cases h
theorem alL_ok : ∀ a b : List Kb.D, alL a b = true → PySem.W.alikeAll (toPyL a) (toPyL b) = true
  | [], b, h => by simp only [toPyL, PySem.W.alikeAll]
  | _ :: _, [], h => by simp only [toPyL, PySem.W.alikeAll]
  | x :: xs, y :: ys, h => by
    rw [alL] at h
    obtain ⟨h1, h2⟩ := ands h
    simp only [toPyL, PySem.W.alikeAll, alD_ok x y h1, alL_ok xs ys h2, Bool.and_self]
end
theorem leD_eq (a b : Kb.D) : leD a b = PySem.W.dataLe false toPy a b := by
  show (!lexT (toks b) (toks a)) = !(lexLt itemOrd (PySem.W.keyToks (toPy b)) (PySem.W.keyToks (toPy a)))
  rw [lexT_eq, toks_eq a (.inr trivial), toks_eq b (.inr trivial)]
section
variable {X : Cx} {N : Cn} {pins : List (Addr × Obj)} {s : Shared} {σ : L2.St} {H : Hp} {γ : Gh}
abbrev Pr2 : Type := Kb.D × V
theorem pairs_each (I : Inv X pins σ H s) (hK : N.K = X.K) : ∀ {ds : List Kb.D} {vs : List V} {us : List Value}, ds.all (pl 40) = true → RelL N γ H ds vs → Vals vs us →
    PySem.W.EachIs (fun u (b : Pr2) => RelV b.2 u ∧ Rel N γ H b.1 b.2) us (ds.zip vs) ∧ PySem.W.EachIs (fun u (b : Pr2) => ∃ as, Reads s.heap u (toPy b.1) as) us (ds.zip vs) ∧ ∀ b ∈ ds.zip vs, (toPy b.1).depth ≤ 40
  | [], _, us, _, r, q => by cases (RelL.nil_iff.mp r); cases q; exact ⟨.nil, .nil, fun b hb => nomatch hb⟩
  | d :: ds, _, us, hp, ⟨v, t, e, h1, h2⟩, q => by
    subst e
    obtain ⟨p1, p2⟩ := ands (show (pl 40 d && ds.all (pl 40)) = true from hp)
    cases q with
    | cons q1 q2 =>
      obtain ⟨a1, a2, a3⟩ := pairs_each I hK p2 h2 q2
      obtain ⟨dp, _, dz⟩ := h1.dp p1
      rw [hK] at dp
      refine ⟨.cons ⟨q1, h1⟩ a1, .cons (Dp.reads I _ _ _ dp q1) a2, fun b hb => ?_⟩
      rcases List.mem_cons.mp hb with rfl | hb
      · exact dz
      · exact a3 b hb
theorem each_out : ∀ {out : List Value} {bs : List Pr2}, PySem.W.EachIs (fun u (b : Pr2) => RelV b.2 u ∧ Rel N γ H b.1 b.2) out bs → Vals (bs.map (·.2)) out ∧ RelL N γ H (bs.map (·.1)) (bs.map (·.2))
  | _, _, .nil => ⟨.nil, RelL.nil_iff.mpr rfl⟩
  | _, _, .cons h t => let ⟨a, b⟩ := each_out t; ⟨.cons h.1 a, RelL.cons h.2 b⟩
theorem zip_fst : ∀ {ds : List Kb.D} {vs : List V}, ds.length = vs.length → (ds.zip vs).map (·.1) = ds
  | [], [], _ => rfl
  | d :: ds, v :: vs, h => by simp [zip_fst (ds := ds) (vs := vs) (by simpa using h)]
theorem toPy_noTup {d : Kb.D} (h : noTup d = true) (hp : pl 40 d = true) : toPy d ≠ .none ∧ ∀ xs, toPy d ≠ .tuple xs := by
  cases d <;> first | (cases h; done) | (cases hp; done) | (constructor <;> simp [toPy])
theorem toPy_anTup {d : Kb.D} (h : anTup d = true) : ∃ r, toPy d = .tuple r := by
  cases d with
  | tup xs => exact ⟨toPyL xs, by simp only [toPy]⟩
  | _ => cases h
def sorted1 : List Kb.D → Option Sl
  | [.lst xs] => (sortD xs).map .own
  | _ => none
theorem call_sortedD (hK : N.K = X.K) (hu : X.A.units + 65 < cLine) : CallR X (.builtin "sorted") (rBlt N sorted1) := by
  intro pins s σ H xs us Q I r ⟨γ, ds, v, hd, e, k⟩
  unfold sorted1 at e
  split at e
  · rename_i ys
    obtain ⟨x, rfl, a, vs, rfl, h1, h2⟩ := hd.inv1
    cases q : sortD ys with
    | none => rw [q] at e; cases e
    | some zs =>
      rw [q] at e
      cases e
      rw [sortD_ms] at q
      split at q
      · rename_i c
        cases q
        obtain ⟨c, c4⟩ := ands (show ((ys.all anTup || ys.all noTup) && ys.all (fun a => ys.all fun b => alD a b) && ys.all (pl 40) && decide (ys.length ≤ line)) = true from c)
        obtain ⟨c, c3⟩ := ands c
        obtain ⟨c1, c2⟩ := ands c
        obtain ⟨its, rv, hl, hz⟩ := I.list (X := X) (a := a) (xs := vs) (.inl (.inl h1))
        rw [Vals.ref1 r]
        obtain ⟨e1, e2, e3⟩ := pairs_each I hK c3 h2 rv
        have hlen : ys.length = vs.length := h2.length
        have mm : ∀ {b : Pr2}, b ∈ ys.zip vs → b.1 ∈ ys := fun {b} hb => (List.of_mem_zip hb).1
        refine sorted_data2 (enc := fun b : Pr2 => toPy b.1) hl.isList e1 e2 (fun d hd' d2 hd2 => ?_) ?_ (by rw [List.length_zip, ← hlen, Nat.min_self, line_eq]; exact of_decide_eq_true c4) (fun b hb => ?_) fun out ho eo => ?_
        · obtain ⟨b, hb, rfl⟩ := List.mem_map.mp hd'
          obtain ⟨b2, hb2, rfl⟩ := List.mem_map.mp hd2
          exact alD_ok _ _ (List.all_eq_true.mp (List.all_eq_true.mp c2 _ (mm hb)) _ (mm hb2))
        · rcases Bool.or_eq_true _ _ ▸ c1 with c1 | c1
          · refine .inl fun d hd' => ?_
            obtain ⟨b, hb, rfl⟩ := List.mem_map.mp hd'
            exact toPy_anTup (List.all_eq_true.mp c1 _ (mm hb))
          · refine .inr fun d hd' => ?_
            obtain ⟨b, hb, rfl⟩ := List.mem_map.mp hd'
            exact toPy_noTup (List.all_eq_true.mp c1 _ (mm hb)) (List.all_eq_true.mp c3 _ (mm hb))
        · have dd := e3 b hb
          show X.A.units + 2 + (toPy b.1).depth < cLine
          omega
        · obtain ⟨o1, o2⟩ := each_out eo
          have em : ((ys.zip vs).mergeSort (PySem.W.dataLe false fun b : Pr2 => toPy b.1)).map (·.1) = ys.mergeSort leD := by
            have := List.map_mergeSort (f := fun b : Pr2 => b.1) (r := PySem.W.dataLe false fun b : Pr2 => toPy b.1) (s := leD) (l := ys.zip vs) fun a _ b _ => (leD_eq a.1 b.1).symm
            rw [this, zip_fst hlen]
          rw [em] at o2
          obtain ⟨ep, he'⟩ := PyProof.Rows.sortedAll_at s.heap its out.toArray
          have hl2 : (((ys.zip vs).mergeSort (PySem.W.dataLe false fun b : Pr2 => toPy b.1)).map (·.2)).length ≤ sizeLine := by
            rw [List.length_map, List.length_mergeSort, List.length_zip, ← hlen, Nat.min_self, line_eq]
            exact of_decide_eq_true c4
          have np : H (s.heap.objs.size + 1) = none := I.hok.fresh (Nat.le_succ _)
          exact ⟨.ref _, upd H (s.heap.objs.size + 1) (.lst (((ys.zip vs).mergeSort (PySem.W.dataLe false fun b : Pr2 => toPy b.1)).map (·.2))), I.laid (t' := s.toks) (fun _ _ => PyProof.Rows.sortedAll_old) (Nat.le_succ _) ⟨hl2, out, ep, o1, he'⟩, rfl, k _ _ (.lst np o2)⟩
      · cases q
  · cases e
/-! ### dict of pairs -/
theorem mergeK_cons (kvs : List (L2.Key × V)) (k : L2.Key) (v : V) (r : List (L2.Key × V)) : L2.mergeK kvs ((k, v) :: r) = L2.mergeK (L2.putK kvs k v) r := rfl
theorem dicP_ok (hK : N.K = X.K) : ∀ {ds : List Kb.D} {vs : List V} {ks : List Ky} {es : List Kb.D} {ws : List V} {kvs : List (L2.Key × V)} {w : Sl}, dicP ds ks es = some w → RelL N γ H ds vs → RelL N γ H es ws → zipK ks ws = some kvs → ks.all txtKy = true →
    ∃ (ps : List Addr) (more : List (L2.Key × V)) (kf : List Ky) (ef : List Kb.D) (wf : List V), vs = ps.map V.ref ∧ Paired (fun p kv => SqT X.K H p [L2.kV kv.1, kv.2]) ps more ∧ w = .ownd false kf ef ∧ RelL N γ H ef wf ∧ zipK kf wf = some (L2.mergeK kvs more) ∧ kf.all txtKy = true
  | [], vs, ks, es, ws, kvs, w, e, r, re, hz, hc => by
    cases e
    cases (RelL.nil_iff.mp r)
    exact ⟨[], [], ks, es, ws, rfl, .nil, rfl, re, hz, hc⟩
  | d :: ds, _, ks, es, ws, kvs, w, e, ⟨u, t, eu, h1, h2⟩, re, hz, hc => by
    subst eu
    cases d with
    | tup zs =>
      match zs, h1, e with
      | [], h1, e => cases e
      | [_], h1, e => cases e
      | _ :: _ :: _ :: _, h1, e => cases e
      | [k, v], h1, e =>
        have e : (match keyD k with
          | some q => dicP ds (Kb.putK q ks) (Kb.putV q v ks es)
          | none => none) = some w := e
        cases ek : keyD k with
        | none => rw [ek] at e; cases e
        | some q =>
          rw [ek] at e
          obtain ⟨a, pv, rfl, g1, g2⟩ := h1
          obtain ⟨x, t1, rfl, m1, m2⟩ := g2
          obtain ⟨y, t2, rfl, m3, m4⟩ := m2
          cases (RelL.nil_iff.mp m4)
          have tk := keyD_txt ek m1
          obtain ⟨ka, rfl, rfl⟩ := keyD_v ek m1
          obtain ⟨ps, more, kf, ef, wf, c1, c2, c3, c4, c5, c6⟩ := dicP_ok hK e h2 (re.putV m3) (zipK_put hz) (txt_put hc tk)
          exact ⟨a :: ps, (keyK ka, y) :: more, kf, ef, wf, by rw [c1]; rfl, .cons (hK ▸ g1.sq) c2, c3, c4, by rw [mergeK_cons]; exact c5, c6⟩
    | _ => cases e
def dict1 : List Kb.D → Option Sl
  | [.lst xs] => dicP xs [] []
  | _ => none
theorem dict1_eq (ds : List Kb.D) : bltD .dict ds = dict1 ds := by
  cases ds with
  | nil => rfl
  | cons d t =>
    cases t with
    | nil => cases d <;> rfl
    | cons _ _ => cases d <;> rfl
theorem call_dictB (hK : N.K = X.K) (hc : X.calm = true) : CallR X (.type "dict") (rBlt N (bltD .dict)) := by
  intro pins s σ H xs us Q I r ⟨γ, ds, v, hd, e, k⟩
  rw [dict1_eq] at e
  unfold dict1 at e
  split at e
  · rename_i ys
    obtain ⟨x, rfl, a, vs, rfl, h1, h2⟩ := hd.inv1
    obtain ⟨ps, more, kf, ef, wf, rfl, c2, rfl, c4, c5, c6⟩ := dicP_ok (X := X) hK e h2 (RelL.nil_iff.mpr rfl) (kvs := []) rfl rfl
    exact call_dictP hc pins s σ H _ us Q I r ⟨a, ps, more, rfl, .inl (.inl h1), c2, fun p np => k _ _ (.dic np (dicO_of c5 c6) c4)⟩
  · cases e
/-! ### lists of ranges -/
end
section
variable {X : Cx} {N : Cn} {W : WX} {e e2 : Expr} {p1 p2 p3 pos : Pos} {md md2 : M Kb.D}
theorem rel_range {γ : Gh} {H : Hp} : ∀ {n : Nat} {a : Int}, RelL N γ H (rangeD n a) ((List.range n).map fun i => V.int (a + (i : Nat)))
  | 0, a => RelL.nil_iff.mpr rfl
  | n + 1, a => by
    rw [List.range_succ_eq_map, List.map_cons, List.map_map]
    refine RelL.cons (by show V.int (a + ((0 : Nat) : Int)) = V.int a; simp) ?_
    have e : ((fun i => V.int (a + (i : Nat))) ∘ Nat.succ) = fun i : Nat => V.int (a + 1 + (i : Nat)) := funext fun i => by
      show V.int (a + ((i + 1 : Nat) : Int)) = V.int (a + 1 + (i : Int))
      congr 1
      omega
    rw [e]
    exact rel_range
theorem rgOk_ok {a b : Int} (h : rgOk a b = true) : RgOk a b := by
  unfold rgOk at h
  obtain ⟨h, h5⟩ := ands h
  obtain ⟨h, h4⟩ := ands h
  obtain ⟨h, h3⟩ := ands h
  obtain ⟨h1, h2⟩ := ands h
  exact ⟨of_decide_eq_true h1, of_decide_eq_true h2, of_decide_eq_true h3, of_decide_eq_true h4, of_decide_eq_true h5⟩
theorem bnd_pur {α β : Type} (a : α) (f : α → M β) : bnd (pur a) f = f a := rfl
def lrN (t : Bool) : Str := if t then "tuple" else "list"
theorem ex_lrange1 {t : Bool} (hc : X.calm = true) (hg : Gl X (lrN t)) (hm : X.mg (lrN t) = none) (hg2 : Gl X "range") (hm2 : X.mg "range" = none) (he : PE X e (TT' N W (RD N) md)) (hs : notStar e = true) :
    PE X (.Call (.Name (lrN t) p1) [.Call (.Name "range" p2) [e] [] p3] [] pos) (TT' N W (RX N True) (bnd (bnd md fun d => bnd (pur []) fun ds => pur (d :: ds)) fun ds => lft (rangeL t ds))) := by
  rw [bnd_assoc]
  have key : ∀ σ H (Q : VK), TT' N W (RX N True) (bnd md fun d => bnd (bnd (pur []) fun ds => pur (d :: ds)) fun ds => lft (rangeL t ds)) σ H Q → tRg1 (TT' N W (RD N) md) σ H fun a b H1 => RgOk a b ∧ ∀ q, H1 q = none → Q (.ref q) (upd H1 q (if t then .tup (rgV a b) else .lst (rgV a b))) := by
    intro σ H Q ⟨γ, s, r, h⟩
    refine ⟨γ, s, r, (h.bnd RX.late).mono fun x H1 ⟨d, s1, γ1, em, r1, x1, rel, h1⟩ => ?_⟩
    have h1 : Post N W (RX N True) γ1 σ H1 s1 (lft (rangeL t [d]) s1) Q := h1
    obtain ⟨v, ev, k⟩ := h1.lft
    cases d with
    | int n =>
      cases rel
      have ev : (if rgOk 0 n then some (if t then Sl.val (.tup (rangeD n.toNat 0)) else .own (rangeD n.toNat 0)) else none) = some v := ev
      split at ev
      · rename_i c
        have rr : RelL N γ1 H1 (rangeD n.toNat 0) (rgV 0 n) := by
          unfold rgV
          rw [show (n - 0).toNat = n.toNat by simp]
          exact rel_range
        refine ⟨n, rfl, rgOk_ok c, fun q nq => ?_⟩
        cases t with
        | true => cases ev; exact Res.post (w := .val (.tup (rangeD n.toNat 0))) r1 k _ _ (.tup nq rr)
        | false => cases ev; exact Res.post (w := .own (rangeD n.toNat 0)) r1 k _ _ (.lst nq rr)
      · cases ev
    | _ => cases ev
  cases t with
  | true => exact (pe_tupRg hc hg hm (prg_1 hg2 hm2 he (star_of hs)) rfl).imp fun σ H Q h => key σ H Q h
  | false => exact (pe_listRg hc hg hm (prg_1 hg2 hm2 he (star_of hs)) rfl).imp fun σ H Q h => key σ H Q h
theorem ex_lrange2 {t : Bool} (hc : X.calm = true) (hg : Gl X (lrN t)) (hm : X.mg (lrN t) = none) (hg2 : Gl X "range") (hm2 : X.mg "range" = none) (he : PE X e (TT' N W (RD N) md)) (he2 : PE X e2 (TT' N W (RD N) md2)) (hs : notStar e = true) (hs2 : notStar e2 = true) :
    PE X (.Call (.Name (lrN t) p1) [.Call (.Name "range" p2) [e, e2] [] p3] [] pos) (TT' N W (RX N True) (bnd (bnd md fun d => bnd (bnd md2 fun d => bnd (pur []) fun ds => pur (d :: ds)) fun ds => pur (d :: ds)) fun ds => lft (rangeL t ds))) := by
  rw [bnd_assoc]
  have key : ∀ σ H (Q : VK), TT' N W (RX N True) (bnd md fun d => bnd (bnd (bnd md2 fun d => bnd (pur []) fun ds => pur (d :: ds)) fun ds => pur (d :: ds)) fun ds => lft (rangeL t ds)) σ H Q → tRg2 (TT' N W (RD N) md) (TT' N W (RD N) md2) σ H fun a b H1 => RgOk a b ∧ ∀ q, H1 q = none → Q (.ref q) (upd H1 q (if t then .tup (rgV a b) else .lst (rgV a b))) := by
    intro σ H Q ⟨γ, s, r, h⟩
    refine ⟨γ, s, r, (h.bnd RX.late).mono fun x H1 ⟨d, s1, γ1, em, r1, x1, rel, h1⟩ => ?_⟩
    dsimp only at h1
    rw [bnd_assoc, bnd_assoc] at h1
    refine ⟨γ1, s1, r1, (h1.bnd RX.late).mono fun y H2 ⟨d2, s2, γ2, em2, r2, x2, rel2, h2⟩ => ?_⟩
    have h2 : Post N W (RX N True) γ2 σ H2 s2 (lft (rangeL t [d, d2]) s2) Q := h2
    obtain ⟨v, ev, k⟩ := h2.lft
    cases d with
    | int a =>
      cases d2 with
      | int b =>
        cases rel
        cases rel2
        have ev : (if rgOk a b then some (if t then Sl.val (.tup (rangeD (b - a).toNat a)) else .own (rangeD (b - a).toNat a)) else none) = some v := ev
        split at ev
        · rename_i c
          have rr : RelL N γ2 H2 (rangeD (b - a).toNat a) (rgV a b) := rel_range
          refine ⟨a, b, rfl, rfl, rgOk_ok c, fun q nq => ?_⟩
          cases t with
          | true => cases ev; exact Res.post (w := .val (.tup (rangeD (b - a).toNat a))) r2 k _ _ (.tup nq rr)
          | false => cases ev; exact Res.post (w := .own (rangeD (b - a).toNat a)) r2 k _ _ (.lst nq rr)
        · cases ev
      | _ => cases ev
    | _ => cases ev
  cases t with
  | true => exact (pe_tupRg hc hg hm (prg_2 hg2 hm2 he he2 (star_of hs) (star_of hs2) (by rw [star_of hs2]; rfl)) rfl).imp fun σ H Q h => key σ H Q h
  | false => exact (pe_listRg hc hg hm (prg_2 hg2 hm2 he he2 (star_of hs) (star_of hs2) (by rw [star_of hs2]; rfl)) rfl).imp fun σ H Q h => key σ H Q h
end
end Kb

set_option Elab.async false
set_option linter.all false
set_option maxRecDepth 100000
set_option maxHeartbeats 4000000
/-! KbX2: sets; the greatest, the least, the sum of numbers. -/
namespace Kb
open PySem PySem.Spec PyProof.Rows L2 TL
section
variable {X : Cx} {N : Cn} {γ : Gh} {H : Hp}
/-! ### numbers -/
theorem intsD_map : ∀ {ds : List Kb.D} {is : List Int}, intsD ds = some is → ds = is.map .int
  | [], is, h => by cases h; rfl
  | .int i :: ds, is, h => by
    unfold intsD at h
    cases q : intsD ds with
    | none => rw [q] at h; cases h
    | some js =>
      rw [q] at h
      cases h
      rw [intsD_map q]
      rfl
  | .non :: _, _, h => by cases h
  | .bl _ :: _, _, h => by cases h
  | .str _ :: _, _, h => by cases h
  | .tup _ :: _, _, h => by cases h
  | .lst _ :: _, _, h => by cases h
  | .dic _ _ :: _, _, h => by cases h
  | .set _ :: _, _, h => by cases h
  | .ref _ :: _, _, h => by cases h
  | .scr _ :: _, _, h => by cases h
  | .kdic _ _ :: _, _, h => by cases h
theorem maxL_mem : ∀ (xs : List Int) (m : Int), maxL m xs ∈ m :: xs ∧ ∀ y ∈ m :: xs, y ≤ maxL m xs
  | [], m => ⟨by simp [maxL], by simp [maxL]⟩
  | x :: xs, m => by
    obtain ⟨h1, h2⟩ := maxL_mem xs (if m < x then x else m)
    unfold maxL
    refine ⟨?_, fun y hy => ?_⟩
    · rcases List.mem_cons.mp h1 with z | z
      · rw [z]; split <;> simp
      · simp [z]
    · have hm := h2 _ (List.mem_cons_self ..)
      rcases List.mem_cons.mp hy with z | hy
      · rw [z]; refine Int.le_trans ?_ hm; split <;> omega
      · rcases List.mem_cons.mp hy with z | hy
        · rw [z]; refine Int.le_trans ?_ hm; split <;> omega
        · exact h2 y (List.mem_cons_of_mem _ hy)
theorem minL_mem : ∀ (xs : List Int) (m : Int), minL m xs ∈ m :: xs ∧ ∀ y ∈ m :: xs, minL m xs ≤ y
  | [], m => ⟨by simp [minL], by simp [minL]⟩
  | x :: xs, m => by
    obtain ⟨h1, h2⟩ := minL_mem xs (if x < m then x else m)
    unfold minL
    refine ⟨?_, fun y hy => ?_⟩
    · rcases List.mem_cons.mp h1 with z | z
      · rw [z]; split <;> simp
      · simp [z]
    · have hm := h2 _ (List.mem_cons_self ..)
      rcases List.mem_cons.mp hy with z | hy
      · rw [z]; refine Int.le_trans hm ?_; split <;> omega
      · rcases List.mem_cons.mp hy with z | hy
        · rw [z]; refine Int.le_trans hm ?_; split <;> omega
        · exact h2 y (List.mem_cons_of_mem _ hy)
def max1 : List Kb.D → Option Sl
  | [.lst xs] => (match intsD xs with
    | some (m :: is) => some (.val (.int (maxL m is)))
    | _ => none)
  | [.int i, .int j] => some (.val (.int (if j > i then j else i)))
  | _ => none
theorem max1_eq (ds : List Kb.D) : bltD .max ds = max1 ds := by
  cases ds with
  | nil => rfl
  | cons d t =>
    cases t with
    | nil => cases d <;> rfl
    | cons d2 t =>
      cases t with
      | nil => cases d <;> first | rfl | (cases d2 <;> rfl)
      | cons _ _ => cases d <;> first | rfl | (cases d2 <;> rfl)
def min1 : List Kb.D → Option Sl
  | [.lst xs] => (match intsD xs with
    | some (m :: is) => some (.val (.int (minL m is)))
    | _ => none)
  | [.int i, .int j] => some (.val (.int (if j < i then j else i)))
  | _ => none
theorem min1_eq (ds : List Kb.D) : bltD .min ds = min1 ds := by
  cases ds with
  | nil => rfl
  | cons d t =>
    cases t with
    | nil => cases d <;> rfl
    | cons d2 t =>
      cases t with
      | nil => cases d <;> first | rfl | (cases d2 <;> rfl)
      | cons _ _ => cases d <;> first | rfl | (cases d2 <;> rfl)
def sum1 : List Kb.D → Option Sl
  | [.lst xs] => (match intsD xs with
    | some is => some (.val (.int is.sum))
    | _ => none)
  | _ => none
theorem sum1_eq (ds : List Kb.D) : bltD .sum ds = sum1 ds := by
  cases ds with
  | nil => rfl
  | cons d t =>
    cases t with
    | nil => cases d <;> rfl
    | cons d2 t => cases d <;> first | rfl | (cases d2 <;> rfl)
theorem RdL.inv2 {d d2 : Kb.D} {xs : List V} (h : RdL N γ H [d, d2] xs) : ∃ x y, xs = [x, y] ∧ RdR N γ H d x ∧ RdR N γ H d2 y := by
  cases h with
  | cons r t => cases t with
    | cons r2 t => cases t; exact ⟨_, _, rfl, r, r2⟩
theorem call_maxB (hc : X.calm = true) : CallR X (.builtin "max") (rBlt N (bltD .max)) := by
  intro pins s σ H xs us Q I r ⟨γ, ds, v, hd, e, k⟩
  rw [max1_eq] at e
  unfold max1 at e
  split at e
  · rename_i ys
    obtain ⟨x, rfl, a, vs, rfl, h1, h2⟩ := hd.inv1
    split at e
    · rename_i m is q
      cases e
      have := intsD_map q
      subst this
      obtain rfl := RelL.of_ints h2
      refine cr_max hc pins s σ H _ us Q I r ⟨a, m :: is, rfl, .inl (.inl h1), by simp, fun z z1 z2 => ?_⟩
      obtain ⟨g1, g2⟩ := maxL_mem is m
      have : z = maxL m is := Int.le_antisymm (g2 z z1) (z2 _ g1)
      rw [this]
      exact k _ _ (.same rfl)
    · cases e
  · obtain ⟨x, y, rfl, hx, hy⟩ := RdL.inv2 hd
    cases hx; cases hy; cases e
    exact call_max2 hc pins s σ H _ us Q I r ⟨_, _, rfl, k _ _ (.same rfl)⟩
  · cases e
theorem call_minB (hc : X.calm = true) : CallR X (.builtin "min") (rBlt N (bltD .min)) := by
  intro pins s σ H xs us Q I r ⟨γ, ds, v, hd, e, k⟩
  rw [min1_eq] at e
  unfold min1 at e
  split at e
  · rename_i ys
    obtain ⟨x, rfl, a, vs, rfl, h1, h2⟩ := hd.inv1
    split at e
    · rename_i m is q
      cases e
      have := intsD_map q
      subst this
      obtain rfl := RelL.of_ints h2
      refine cr_min hc pins s σ H _ us Q I r ⟨a, m :: is, rfl, .inl (.inl h1), by simp, fun z z1 z2 => ?_⟩
      obtain ⟨g1, g2⟩ := minL_mem is m
      have : z = minL m is := Int.le_antisymm (z2 _ g1) (g2 z z1)
      rw [this]
      exact k _ _ (.same rfl)
    · cases e
  · obtain ⟨x, y, rfl, hx, hy⟩ := RdL.inv2 hd
    cases hx; cases hy; cases e
    exact call_min2 hc pins s σ H _ us Q I r ⟨_, _, rfl, k _ _ (.same rfl)⟩
  · cases e
theorem call_sumB (hc : X.calm = true) : CallR X (.builtin "sum") (rBlt N (bltD .sum)) := by
  intro pins s σ H xs us Q I r ⟨γ, ds, v, hd, e, k⟩
  rw [sum1_eq] at e
  unfold sum1 at e
  split at e
  · rename_i ys
    obtain ⟨x, rfl, a, vs, rfl, h1, h2⟩ := hd.inv1
    split at e
    · rename_i is q
      cases e
      have := intsD_map q
      subst this
      obtain rfl := RelL.of_ints h2
      exact cr_sum hc pins s σ H _ us Q I r ⟨a, is, rfl, .inl (.inl h1), k _ _ (.same rfl)⟩
    · cases e
  · cases e
/-! ### sets -/
theorem addKas_map : ∀ (l acc : List Ka), (addKas acc l).map keyK = addAll (acc.map keyK) (l.map keyK)
  | [], acc => rfl
  | k :: l, acc => by
    show (addKas (addKa acc k) l).map keyK = addAll (addK (acc.map keyK) (keyK k)) (l.map keyK)
    rw [addKas_map l]
    congr 1
    unfold addKa addK
    by_cases c : k ∈ acc
    · rw [if_pos c, if_pos (List.mem_map.mpr ⟨k, c, rfl⟩)]
    · rw [if_neg c, if_neg fun z => ?_, List.map_append]
      · rfl
      · obtain ⟨k', z1, z2⟩ := List.mem_map.mp z
        rw [keyK_inj z2] at z1
        exact c z1
theorem addKas_mem : ∀ (l acc : List Ka) (k : Ka), k ∈ addKas acc l → k ∈ acc ∨ k ∈ l
  | [], acc, k, h => .inl h
  | x :: l, acc, k, h => by
    rcases addKas_mem l _ k h with z | z
    · unfold addKa at z
      split at z
      · exact .inl z
      · rcases List.mem_append.mp z with z | z
        · exact .inl z
        · exact .inr (by rw [List.mem_singleton.mp z]; simp)
    · exact .inr (List.mem_cons_of_mem _ z)
theorem kasD_rel : ∀ {ds : List Kb.D} {ks : List Ka} {vs : List V}, kasD ds = some ks → RelL N γ H ds vs → vs = ks.map (fun k => kV (keyK k)) ∧ ∀ x, Ka.s x ∈ ks → Txt x
  | [], ks, vs, e, h => by cases e; cases (RelL.nil_iff.mp h); exact ⟨rfl, fun x hx => by cases hx⟩
  | d :: ds, ks, vs, e, ⟨v, t, e1, h1, h2⟩ => by
    subst e1
    unfold kasD at e
    cases q1 : kaD d with
    | none => rw [q1] at e; cases e
    | some k =>
      cases q2 : kasD ds with
      | none => rw [q1, q2] at e; cases e
      | some kk =>
        rw [q1, q2] at e
        cases e
        obtain ⟨e2, h3⟩ := kasD_rel q2 h2
        obtain ⟨e4, e5⟩ := kaD_rd q1 h1.rd
        refine ⟨by rw [e2, e4]; rfl, fun x hx => ?_⟩
        rcases List.mem_cons.mp hx with z | z
        · subst z
          subst e5
          exact h1.2
        · exact h3 x z
theorem kIs {k : Key} {v : Value} (r : RelV (kV k) v) : keyIs k v = true := by
  cases k with
  | inl i => obtain ⟨t, rfl⟩ := r; exact keyIs_int i t
  | inr x => obtain ⟨t, rfl⟩ := r; exact keyIs_str x t
theorem vals_keys {ks : List Ka} {its : List Value} (h : Vals (ks.map fun k => kV (keyK k)) its) : (ks.map keyK).length = its.toArray.size ∧ ∀ (i : Nat) (v : Value), its.toArray[i]? = some v → ∃ k, (ks.map keyK)[i]? = some k ∧ keyIs k v = true := by
  have hl := Paired.length h
  rw [List.length_map] at hl
  refine ⟨by simp [hl], fun i v hv => ?_⟩
  have hv : its[i]? = some v := by simpa using hv
  have hi : i < ks.length := by rw [hl]; exact (List.getElem?_eq_some_iff.mp hv).1
  obtain ⟨u, hu, ru⟩ := h.get (show (ks.map fun k => kV (keyK k))[i]? = some (kV (keyK ks[i])) by rw [List.getElem?_map, List.getElem?_eq_getElem hi]; rfl)
  rw [hv] at hu
  cases hu
  exact ⟨keyK ks[i], by rw [List.getElem?_map, List.getElem?_eq_getElem hi]; rfl, kIs ru⟩
def set1 : List Kb.D → Option Sl
  | [.lst xs] => setD xs
  | [.tup xs] => setD xs
  | _ => none
theorem set1_eq (ds : List Kb.D) : bltD .set ds = set1 ds := by
  cases ds with
  | nil => rfl
  | cons d t =>
    cases t with
    | nil => cases d <;> rfl
    | cons _ _ => cases d <;> rfl
theorem call_setB (hK : N.K = X.K) (hw : N.w = X.w) (hc : X.calm = true) : CallR X (.type "set") (rBlt N (bltD .set)) := by
  intro pins s σ H xs us Q I r ⟨γ, ds, v, hd, e, k⟩
  rw [set1_eq] at e
  have fin : ∀ (ks : List Ka) (h' : Heap) (tk : Nat), (∀ x, Ka.s x ∈ ks → Txt x) → Sl.val (.set (addKas [] ks)) = v → SetG X.w h' s.heap.objs.size (addAll [] (ks.map keyK)) → (∀ b o, s.heap.get? b = some o → h'.get? b = some o) → EP X pins σ Q (.ref s.heap.objs.size) { s with heap := h', toks := tk } := by
    intro ks h' tk ht ev hS hk
    subst ev
    have em := addKas_map ks []
    rw [List.map_nil] at em
    rw [← em, ← hw] at hS
    refine ⟨.ref _, upd H s.heap.objs.size (SetV N.w s.heap.objs.size ((addKas [] ks).map keyK)), I.laid (t' := tk) hk (Nat.le_refl _) (setV_ok (P := X.prog) (w := N.w) (H := upd H s.heap.objs.size (SetV N.w s.heap.objs.size ((addKas [] ks).map keyK))) hS), rfl, k _ _ (.set I.fresh fun x hx => ?_)⟩
    rcases addKas_mem ks [] _ hx with z | z
    · cases z
    · exact ht x z
  unfold set1 at e
  split at e
  · obtain ⟨x, rfl, a, vs, rfl, h1, h2⟩ := hd.inv1
    unfold setD at e
    split at e
    · rename_i ks q
      split at e
      · rename_i c
        cases e
        obtain ⟨rfl, ht⟩ := kasD_rel q h2
        obtain ⟨its, rv, pl, _⟩ := I.list (X := X) (a := a) (.inl (.inl h1))
        obtain ⟨z1, z2⟩ := vals_keys rv
        rw [Vals.ref1 r]
        refine call_setG_list (P := X.prog) (w := X.w) (ks.map keyK) (I.ok.hd hc) pl.isList z1 z2 (by rw [List.length_map]; unfold scanBound; omega) fun h' tk hS hk => fin ks h' tk ht rfl hS hk
      · cases e
    · cases e
  · obtain ⟨x, rfl, a, vs, rfl, h1, h2⟩ := hd.inv1
    unfold setD at e
    split at e
    · rename_i ks q
      split at e
      · rename_i c
        cases e
        obtain ⟨rfl, ht⟩ := kasD_rel q h2
        obtain ⟨its, rv, pl, _⟩ := I.tuple (X := X) (a := a) (hK ▸ h1.sq)
        obtain ⟨z1, z2⟩ := vals_keys rv
        rw [Vals.ref1 r]
        refine call_setG_tup (P := X.prog) (w := X.w) (ks.map keyK) (I.ok.hd hc) pl z1 z2 (by rw [List.length_map]; unfold scanBound; omega) fun h' tk hS hk => fin ks h' tk ht rfl hS hk
      · cases e
    · cases e
  · cases e
/-! ### sorted sets -/
theorem leD_lex (a b : Kb.D) : leD a b = !lexLt itemOrd (toks b) (toks a) := by
  unfold leD ltD
  rw [lexT_eq]
theorem leD_trans (a b c : Kb.D) (h1 : leD a b = true) (h2 : leD b c = true) : leD a c = true := by
  rw [leD_lex, Bool.not_eq_true'] at h1 h2 ⊢
  refine Bool.eq_false_iff.mpr fun h => ?_
  rcases lex_negTrans (O := itemOrd) _ (toks b) _ h with z | z
  · rw [h2] at z; cases z
  · rw [h1] at z; cases z
theorem leD_total (a b : Kb.D) : (leD a b || leD b a) = true := by
  rw [leD_lex, leD_lex]
  cases h : lexLt itemOrd (toks b) (toks a) with
  | false => rfl
  | true =>
    cases h' : lexLt itemOrd (toks a) (toks b) with
    | false => rfl
    | true =>
      have := lex_trans (O := itemOrd) _ _ _ h h'
      rw [lex_irrefl] at this
      cases this
theorem leD_anti {a b : Ka} (h1 : leD a.d b.d = true) (h2 : leD b.d a.d = true) : a.d = b.d := by
  rw [leD_lex, Bool.not_eq_true'] at h1 h2
  have e := lex_total (O := itemOrd) _ _ h2 h1
  cases a with
  | i n => cases b with
    | i m => simp only [Ka.d, toks] at e ⊢; injection e with e _; injection e with e; rw [e]
    | s y => simp only [Ka.d, toks] at e; injection e with e _; cases e
  | s x => cases b with
    | i m => simp only [Ka.d, toks] at e; injection e with e _; cases e
    | s y => simp only [Ka.d, toks] at e ⊢; injection e with e _; injection e with e; rw [e]
theorem sort_perm {ks ks' : List Ka} (h : ks'.Perm ks) : (ks'.map Ka.d).mergeSort leD = (ks.map Ka.d).mergeSort leD := by
  refine List.Perm.eq_of_pairwise (le := fun a b => leD a b = true) (fun a b ha hb h1 h2 => ?_) (List.pairwise_mergeSort leD_trans leD_total _) (List.pairwise_mergeSort leD_trans leD_total _) ((List.mergeSort_perm _ _).trans ((h.map Ka.d).trans (List.mergeSort_perm _ _).symm))
  obtain ⟨p, _, rfl⟩ := List.mem_map.mp ((List.mergeSort_perm _ _).mem_iff.mp ha)
  obtain ⟨q, _, rfl⟩ := List.mem_map.mp ((List.mergeSort_perm _ _).mem_iff.mp hb)
  exact leD_anti h1 h2
def kaOf : Key → Ka
  | .inl n => .i n
  | .inr x => .s x.cps.toList
theorem kaOf_keyK (k : Ka) : kaOf (keyK k) = k := by
  cases k with
  | i n => rfl
  | s x => show Ka.s (St x).cps.toList = _; rw [St_list]
theorem keyIs_rel {k : Key} {v : Value} (h : keyIs k v = true) : RelV (kV k) v := by
  rcases keyIs_shape h with ⟨i, t, rfl, rfl⟩ | ⟨x, t, rfl, rfl⟩
  · exact ⟨t, rfl⟩
  · exact ⟨t, rfl⟩
theorem each_of {R : Value → Ka → Prop} : ∀ {vs : List Value} {g : Value → Ka}, (∀ v ∈ vs, R v (g v)) → PySem.W.EachIs R vs (vs.map g)
  | [], _, _ => .nil
  | v :: vs, g, h => .cons (h v (List.mem_cons_self ..)) (each_of fun u hu => h u (List.mem_cons_of_mem _ hu))
theorem vals_each : ∀ {vs : List Value} {ks : List Ka}, PySem.W.EachIs (fun v k => RelV (kV (keyK k)) v) vs ks → Vals (ks.map fun k => kV (keyK k)) vs
  | _, _, .nil => .nil
  | _, _, .cons h t => .cons h (vals_each t)
theorem relL_ka : ∀ {ks : List Ka}, (∀ x, Ka.s x ∈ ks → Txt x) → RelL N γ H (ks.map Ka.d) (ks.map fun k => kV (keyK k))
  | [], _ => RelL.nil_iff.mpr rfl
  | k :: ks, h => by
    refine .cons ?_ (relL_ka fun x hx => h x (List.mem_cons_of_mem _ hx))
    cases k with
    | i n => exact rfl
    | s x => exact ⟨rfl, h x (List.mem_cons_self ..)⟩
def encK (k : Ka) : PyData := toPy k.d
theorem encK_leD (a b : Ka) : PySem.W.dataLe false encK a b = leD a.d b.d := (leD_eq a.d b.d).symm
def sorted2 : List Kb.D → Option Sl
  | [.lst xs] => (sortD xs).map .own
  | [.tup xs] => (sortD xs).map .own
  | [.set ks] => (sortD (ks.map Ka.d)).map .own
  | [.dic ks _] => (sortD (ks.map Ky.d)).map .own
  | _ => none
theorem sorted2_eq (ds : List Kb.D) : bltD .sorted ds = sorted2 ds := by
  cases ds with
  | nil => rfl
  | cons d t =>
    cases t with
    | nil => cases d <;> rfl
    | cons _ _ => cases d <;> rfl
theorem zipK_kas : ∀ {ks : List Ky} {vs : List V} {kvs : List (Key × V)}, zipK ks vs = some kvs → ∃ kas : List Ka, ks = kas.map Ky.a ∧ kvs.map (·.1) = kas.map keyK
  | [], [], kvs, h => by cases h; exact ⟨[], rfl, rfl⟩
  | .a q :: ks, u :: vs, kvs, h => by
    unfold zipK at h
    cases z : zipK ks vs with
    | none => rw [z] at h; cases h
    | some r =>
      rw [z] at h
      cases h
      obtain ⟨kas, e1, e2⟩ := zipK_kas z
      exact ⟨q :: kas, by rw [e1]; rfl, by rw [List.map_cons, e2]; rfl⟩
  | .t _ :: _, [], _, h => by cases h
  | .t _ :: _, _ :: _, _, h => by cases h
  | .a _ :: _, [], _, h => by cases h
  | [], _ :: _, _, h => by cases h
theorem each_keys : ∀ {us : List Value} {kas : List Ka}, us.length = kas.length → (∀ (j : Nat) (v : Value), us[j]? = some v → ∃ k, (kas.map keyK)[j]? = some k ∧ keyIs k v = true) → PySem.W.EachIs (fun v (k : Ka) => RelV (kV (keyK k)) v) us kas
  | [], [], _, _ => .nil
  | u :: us, q :: kas, hl, h => by
    obtain ⟨k, e1, e2⟩ := h 0 u rfl
    obtain rfl : keyK q = k := Option.some.inj e1
    refine .cons (keyIs_rel e2) (each_keys (by simpa using hl) fun j v e => ?_)
    obtain ⟨k, a, b⟩ := h (j + 1) v (by simpa using e)
    exact ⟨k, by simpa using a, b⟩
  | [], _ :: _, hl, _ => by simp at hl
  | _ :: _, [], hl, _ => by simp at hl
theorem call_sortedD2 (hK : N.K = X.K) (hw : N.w = X.w) (hc : X.calm = true) (hu : X.A.units + 65 < cLine) : CallR X (.builtin "sorted") (rBlt N (bltD .sorted)) := by
  intro pins s σ H xs us Q I r ⟨γ, ds, v, hd, e, k⟩
  rw [sorted2_eq] at e
  unfold sorted2 at e
  split at e
  · exact call_sortedD hK hu pins s σ H xs us Q I r ⟨γ, _, v, hd, e, k⟩
  · rename_i ys
    obtain ⟨x, rfl, a, vs, rfl, h1, h2⟩ := hd.inv1
    cases q : sortD ys with
    | none => rw [q] at e; cases e
    | some zs =>
      rw [q] at e
      cases e
      rw [sortD_ms] at q
      split at q
      · rename_i c
        cases q
        obtain ⟨c, c4⟩ := ands (show ((ys.all anTup || ys.all noTup) && ys.all (fun a => ys.all fun b => alD a b) && ys.all (pl 40) && decide (ys.length ≤ line)) = true from c)
        obtain ⟨c, c3⟩ := ands c
        obtain ⟨c1, c2⟩ := ands c
        have c4 := of_decide_eq_true c4
        obtain ⟨its, rv, ⟨o, ho, hcl, n, hdt⟩, hz⟩ := I.tuple (hK ▸ h1.sq)
        rw [Vals.ref1 r]
        have hyl : ys.length = vs.length := h2.length
        have hvl : vs.length = its.length := by first | exact rv.length | exact rv.length.symm
        have mm : ∀ {b : Pr2}, b ∈ ys.zip vs → b.1 ∈ ys := fun {b} hb => (List.of_mem_zip hb).1
        refine Calls.call_function_entry kind_sorted plain_sorted entry_sorted (args_sorted1 _) ?_
        unfold Builtin.«sorted»
        refine wpAny_bind (m := checkCount "sorted" 1 1 _) (wpAny_pure ?_)
        refine wpAny_bind (wpAny_collect_seq (A := X.A.in1) a (.inr rfl) ho hcl hdt (fun h' hk => ?_) (by rw [List.size_toArray, line_eq]; omega))
        have et : its.toArray.toList = its := by simp
        rw [et]
        have I1 : Inv X pins σ H { s with heap := h' } := I.kept (t' := s.toks) hk
        obtain ⟨e1, e2, e3⟩ := pairs_each I1 hK c3 h2 rv
        have hline : its.length ≤ sizeLine := by rw [line_eq]; omega
        refine wpAny_bind (wpAny_newList ?_ hline)
        have hoL : (h'.push (seqObj "list" its.toArray 0)).get? h'.objs.size = some (seqObj "list" its.toArray 0) := Heap.get?_push_size _ rfl
        have er : PySem.W.EachIs (fun v (b : Pr2) => ∃ as, Reads (h'.push (seqObj "list" its.toArray 0)) v (toPy b.1) as ∧ h'.objs.size ∉ as) its (ys.zip vs) := (PySem.W.each_mem e2).mono fun v b ⟨⟨as, rd⟩, hb⟩ => ⟨as, PyProof.Rows.Reads.keeps (fun _ _ => Heap.get?_push_of_some _) rd, fun hm => Nat.lt_irrefl _ (reads_lt _ _ _ (alD_ok _ _ (List.all_eq_true.mp (List.all_eq_true.mp c2 _ (mm hb)) _ (mm hb))) rd _ hm)⟩
        refine wpAny_bind (wpAny_holding (list_sort_data2 (A := X.A.in1) (s := { s with heap := h'.push (seqObj "list" its.toArray 0) }) (enc := fun b : Pr2 => toPy b.1) hoL e1 er (fun d hd' d2 hd2 => ?_) ?_ (by rw [List.length_zip, ← hyl, Nat.min_self, line_eq]; exact c4) (fun b hb => ?_) fun out ho eo => ?_))
        · obtain ⟨b, hb, rfl⟩ := List.mem_map.mp hd'
          obtain ⟨b2, hb2, rfl⟩ := List.mem_map.mp hd2
          exact alD_ok _ _ (List.all_eq_true.mp (List.all_eq_true.mp c2 _ (mm hb)) _ (mm hb2))
        · rcases Bool.or_eq_true _ _ ▸ c1 with c1 | c1
          · refine .inl fun d hd' => ?_
            obtain ⟨b, hb, rfl⟩ := List.mem_map.mp hd'
            exact toPy_anTup (List.all_eq_true.mp c1 _ (mm hb))
          · refine .inr fun d hd' => ?_
            obtain ⟨b, hb, rfl⟩ := List.mem_map.mp hd'
            exact toPy_noTup (List.all_eq_true.mp c1 _ (mm hb)) (List.all_eq_true.mp c3 _ (mm hb))
        · have dd := e3 b hb
          show X.A.units + 1 + 1 + (toPy b.1).depth < cLine
          omega
        · obtain ⟨o1, o2⟩ := each_out eo
          have em : ((ys.zip vs).mergeSort (PySem.W.dataLe false fun b : Pr2 => toPy b.1)).map (·.1) = ys.mergeSort leD := by
            have := List.map_mergeSort (f := fun b : Pr2 => b.1) (r := PySem.W.dataLe false fun b : Pr2 => toPy b.1) (s := leD) (l := ys.zip vs) fun a _ b _ => (leD_eq a.1 b.1).symm
            rw [this, zip_fst hyl]
          rw [em] at o2
          obtain ⟨c', hc'⟩ := sortedHeap_at (vs := its) (out := out.toArray) hoL
          have np : H h'.objs.size = none := I1.hok.fresh (Nat.le_refl _)
          have kept : ∀ b u, h'.get? b = some u → (sortedHeap (h'.push (seqObj "list" its.toArray 0)) h'.objs.size its out.toArray).get? b = some u := fun b u e => by
            have hlt := Heap.lt_size e
            rw [sortedHeap_old (Nat.ne_of_lt hlt) (by rw [size_push']; exact Nat.lt_succ_of_lt hlt)]
            exact Heap.get?_push_of_some _ e
          have hl2 : (((ys.zip vs).mergeSort (PySem.W.dataLe false fun b : Pr2 => toPy b.1)).map (·.2)).length ≤ sizeLine := by
            rw [List.length_map, List.length_mergeSort, List.length_zip, ← hyl, Nat.min_self, line_eq]
            exact c4
          exact wpAny_pure ⟨_, rfl, .ref h'.objs.size, upd H h'.objs.size (.lst (((ys.zip vs).mergeSort (PySem.W.dataLe false fun b : Pr2 => toPy b.1)).map (·.2))), I1.laid (t' := s.toks) kept (Nat.le_refl _) ⟨hl2, out, c', o1, hc'⟩, rfl, k _ _ (.lst np o2)⟩
      · cases q
  · rename_i ks
    obtain ⟨x, rfl, a, rfl, _, h1, ht⟩ := hd.inv1
    cases q : sortD (ks.map Ka.d) with
    | none => rw [q] at e; cases e
    | some zs =>
      rw [q] at e
      cases e
      rw [sortD_ms] at q
      split at q
      · rename_i c
        cases q
        obtain ⟨c, c4⟩ := ands (show (((ks.map Ka.d).all anTup || (ks.map Ka.d).all noTup) && (ks.map Ka.d).all (fun a => (ks.map Ka.d).all fun b => alD a b) && (ks.map Ka.d).all (pl 40) && decide ((ks.map Ka.d).length ≤ line)) = true from c)
        obtain ⟨c, c3⟩ := ands c
        obtain ⟨c1, c2⟩ := ands c
        rw [hw] at h1
        obtain ⟨o, es, ep, t, ho, hex, hdt, g, pm, nd, hb, hf, hr, hl⟩ := setV_get I h1
        rw [Vals.ref1 r]
        refine Calls.call_function_entry kind_sorted plain_sorted entry_sorted (args_sorted1 _) ?_
        unfold Builtin.«sorted»
        refine wpAny_bind (m := checkCount "sorted" 1 1 _) (wpAny_pure ?_)
        refine wpAny_bind (collect_set (A := X.A.in1) (I.ok.hd hc) ⟨o, ho, hex.1, hdt⟩ hf hb hr hl fun s1 vs k1 hz g1 o1 pv => ?_)
        have hk : ∀ v ∈ vs, keyIs (keyAt v) v = true := fun v hv => by
          obtain ⟨e, he, ev⟩ := List.mem_map.mp (pv.mem_iff.mp hv)
          subst ev
          obtain ⟨k', h', _⟩ := g e he
          rw [keyAt_of h']
          exact h'
        have p1 : (vs.map keyAt).Perm (ks.map keyK) := by
          have q1 := pv.map keyAt
          rw [List.map_map] at q1
          exact q1.trans pm
        have pk : (vs.map fun v => kaOf (keyAt v)).Perm ks := by
          have p2 := p1.map kaOf
          rw [List.map_map, List.map_map] at p2
          have : (kaOf ∘ keyK) = id := funext kaOf_keyK
          rw [this, List.map_id] at p2
          exact p2
        have hkk : ∀ v ∈ vs, keyK (kaOf (keyAt v)) = keyAt v := fun v hv => by
          have m : keyAt v ∈ ks.map keyK := by
            exact p1.mem_iff.mp (List.mem_map.mpr ⟨v, hv, rfl⟩)
          obtain ⟨k', _, e⟩ := List.mem_map.mp m
          rw [← e, kaOf_keyK]
        have e0 : PySem.W.EachIs (fun v (k : Ka) => RelV (kV (keyK k)) v) vs (vs.map fun v => kaOf (keyAt v)) := each_of fun v hv => by
          rw [hkk v hv]
          exact keyIs_rel (hk v hv)
        have hvl : vs.length = ks.length := by rw [← pk.length_eq, List.length_map]
        have hline : vs.length ≤ sizeLine := by
          rw [hvl, line_eq]
          have := of_decide_eq_true c4
          rwa [List.length_map] at this
        refine wpAny_bind (wpAny_newList ?_ hline)
        have hoL : (s1.heap.push (seqObj "list" vs.toArray 0)).get? s1.heap.objs.size = some (seqObj "list" vs.toArray 0) := Heap.get?_push_size _ rfl
        have er : PySem.W.EachIs (fun v (k : Ka) => ∃ as, Reads (s1.heap.push (seqObj "list" vs.toArray 0)) v (encK k) as ∧ s1.heap.objs.size ∉ as) vs (vs.map fun v => kaOf (keyAt v)) := e0.mono fun v k rv => by
          cases k with
          | i n => obtain ⟨t, rfl⟩ := rv; exact ⟨[], by unfold encK; simp only [Ka.d, toPy]; exact .int n t, by simp⟩
          | s x => obtain ⟨t, rfl⟩ := rv; exact ⟨[], by unfold encK; simp only [Ka.d, toPy]; exact .str (St x) t, by simp⟩
        have dz : ∀ k : Ka, (encK k).depth = 0 := fun k => by cases k <;> (unfold encK; simp only [Ka.d, toPy, PyData.depth])
        have mm : ∀ {k : Ka}, k ∈ (vs.map fun v => kaOf (keyAt v)) → k.d ∈ ks.map Ka.d := fun {k} hk => List.mem_map.mpr ⟨k, pk.mem_iff.mp hk, rfl⟩
        refine wpAny_bind (wpAny_holding (list_sort_data2 (A := X.A.in1) (s := { s1 with heap := s1.heap.push (seqObj "list" vs.toArray 0) }) (enc := encK) hoL e0 er (fun d hd' d2 hd2 => ?_) (.inr fun d hd' => ?_) (by rw [List.length_map]; exact hline) (fun b _ => ?_) fun out ho eo => ?_))
        · obtain ⟨b, hb, rfl⟩ := List.mem_map.mp hd'
          obtain ⟨b2, hb2, rfl⟩ := List.mem_map.mp hd2
          exact alD_ok _ _ (List.all_eq_true.mp (List.all_eq_true.mp c2 _ (mm hb)) _ (mm hb2))
        · obtain ⟨b, hb, rfl⟩ := List.mem_map.mp hd'
          cases b <;> (unfold encK; simp [Ka.d, toPy])
        · rw [dz]
          show X.A.units + 1 + 1 + 0 < cLine
          omega
        · obtain ⟨c', hc'⟩ := sortedHeap_at (vs := vs) (out := out.toArray) hoL
          have np : H s1.heap.objs.size = none := I.hok.fresh hz
          have kept : ∀ b u, s.heap.get? b = some u → (sortedHeap (s1.heap.push (seqObj "list" vs.toArray 0)) s1.heap.objs.size vs out.toArray).get? b = some u := fun b u e => by
            have q := k1 b u e
            have hlt := Heap.lt_size q
            rw [sortedHeap_old (Nat.ne_of_lt hlt) (by rw [size_push']; exact Nat.lt_succ_of_lt hlt)]
            exact Heap.get?_push_of_some _ q
          have em : ((vs.map fun v => kaOf (keyAt v)).mergeSort (PySem.W.dataLe false encK)).map Ka.d = (ks.map Ka.d).mergeSort leD := by
            rw [← sort_perm pk]
            exact List.map_mergeSort (f := Ka.d) (r := PySem.W.dataLe false encK) (s := leD) (l := vs.map fun v => kaOf (keyAt v)) fun a _ b _ => encK_leD a b
          generalize hms : (vs.map fun v => kaOf (keyAt v)).mergeSort (PySem.W.dataLe false encK) = ms at eo em
          have hml : ms.length = ks.length := by rw [← hms, List.length_mergeSort, List.length_map, hvl]
          have htm : ∀ x, Ka.s x ∈ ms → Txt x := fun x hx => by
            rw [← hms] at hx
            exact ht x (pk.mem_iff.mp ((List.mergeSort_perm _ _).mem_iff.mp hx))
          have hlen : (ms.map fun k => kV (keyK k)).length ≤ sizeLine := by rw [List.length_map, hml, ← hvl]; exact hline
          have J : Inv X pins σ (upd H s1.heap.objs.size (.lst (ms.map fun k => kV (keyK k)))) { s with heap := sortedHeap (s1.heap.push (seqObj "list" vs.toArray 0)) s1.heap.objs.size vs out.toArray, gens := s1.gens, drawn := s1.drawn, toks := s1.toks } :=
            I.call (ch := []) (Un.laid kept hz np) (I.hok.laid kept hz ⟨hlen, out, c', vals_each eo, hc'⟩) (by rw [g1]; exact I.bare) (fun _ z => nomatch z)
          refine wpAny_pure ⟨_, rfl, .ref s1.heap.objs.size, _, ?_, rfl, k _ _ (.lst np (by rw [← em]; exact relL_ka htm))⟩
          have es : ({ s1 with heap := sortedHeap (s1.heap.push (seqObj "list" vs.toArray 0)) s1.heap.objs.size vs out.toArray } : Shared) = { s with heap := sortedHeap (s1.heap.push (seqObj "list" vs.toArray 0)) s1.heap.objs.size vs out.toArray, gens := s1.gens, drawn := s1.drawn, toks := s1.toks } := by
            cases s1
            cases s
            cases o1
            rfl
          show Inv X pins σ _ { s1 with heap := sortedHeap (s1.heap.push (seqObj "list" vs.toArray 0)) s1.heap.objs.size vs out.toArray }
          rw [es]
          exact J
      · cases q
  · rename_i kys dvs
    obtain ⟨x, rfl, a, vs0, rfl, ⟨t, o, eo, rd⟩, _⟩ := hd.inv1
    obtain ⟨rfl, tx, kvs, z, rfl⟩ := dicO_inv eo
    obtain ⟨ks, rfl, ek⟩ := zipK_kas z
    have ht : ∀ x, Ka.s x ∈ ks → Txt x := fun x hx c hc => by
      have := List.all_eq_true.mp tx _ (List.mem_map.mpr ⟨_, hx, rfl⟩)
      exact of_decide_eq_true (List.all_eq_true.mp this c hc)
    have em0 : (ks.map Ky.a).map Ky.d = ks.map Ka.d := by rw [List.map_map]; rfl
    rw [em0] at e
    cases q : sortD (ks.map Ka.d) with
    | none => rw [q] at e; cases e
    | some zs =>
      rw [q] at e
      cases e
      rw [sortD_ms] at q
      split at q
      · rename_i c
        cases q
        obtain ⟨c, c4⟩ := ands (show (((ks.map Ka.d).all anTup || (ks.map Ka.d).all noTup) && (ks.map Ka.d).all (fun a => (ks.map Ka.d).all fun b => alD a b) && (ks.map Ka.d).all (pl 40) && decide ((ks.map Ka.d).length ≤ line)) = true from c)
        obtain ⟨c, c3⟩ := ands c
        obtain ⟨c1, c2⟩ := ands c
        rw [Vals.ref1 r]
        obtain ⟨zz, lo, vs', rel, dd⟩ := dk_rd I.hok rd
        obtain ⟨ep, hat⟩ := dd.dictAt
        have hkeys : vs'.map (·.1) = ks.map keyK := rel.keys.symm.trans ek
        have hl : vs'.length = ks.length := by
          have e := congrArg List.length hkeys
          rw [List.length_map, List.length_map] at e
          exact e
        have hline : ks.length ≤ sizeLine := by
          rw [line_eq]
          have := of_decide_eq_true c4
          rwa [List.length_map] at this
        refine Calls.call_function_entry kind_sorted plain_sorted entry_sorted (args_sorted1 _) ?_
        unfold Builtin.«sorted»
        refine wpAny_bind (m := checkCount "sorted" 1 1 _) (wpAny_pure ?_)
        refine wpAny_bind (PySem.W.kdu_collect (A := X.A.in1) (PySem.W.kdl_dict (knd := mixKind X.prog X.w) (kvs := vs') (ep := ep) lo) (I.ok.hd hc) hat (by rw [hl]; exact hline) fun h' tk acc hk hacc => ?_)
        have hal : acc.toList.length = ks.length := by rw [Array.length_toList, hacc.1, hl]
        have e0 : PySem.W.EachIs (fun v (k : Ka) => RelV (kV (keyK k)) v) acc.toList ks := each_keys hal fun j v e => by
          obtain ⟨k, x, e1, e2⟩ := hacc.2 j v (by rw [← Array.getElem?_toList]; exact e)
          exact ⟨k, by rw [← hkeys, List.getElem?_map, e1]; rfl, e2⟩
        have I1 : Inv X pins σ H { s with heap := h', toks := tk } := I.kept hk
        refine wpAny_bind (wpAny_newList ?_ (by rw [hal]; exact hline))
        have hoL : (h'.push (seqObj "list" acc.toList.toArray 0)).get? h'.objs.size = some (seqObj "list" acc.toList.toArray 0) := Heap.get?_push_size _ rfl
        have er : PySem.W.EachIs (fun v (k : Ka) => ∃ as, Reads (h'.push (seqObj "list" acc.toList.toArray 0)) v (encK k) as ∧ h'.objs.size ∉ as) acc.toList ks := e0.mono fun v k rv => by
          cases k with
          | i n => obtain ⟨t, rfl⟩ := rv; exact ⟨[], by unfold encK; simp only [Ka.d, toPy]; exact .int n t, by simp⟩
          | s x => obtain ⟨t, rfl⟩ := rv; exact ⟨[], by unfold encK; simp only [Ka.d, toPy]; exact .str (St x) t, by simp⟩
        have dz : ∀ k : Ka, (encK k).depth = 0 := fun k => by cases k <;> (unfold encK; simp only [Ka.d, toPy, PyData.depth])
        have mm : ∀ {k : Ka}, k ∈ ks → k.d ∈ ks.map Ka.d := fun {k} hk => List.mem_map.mpr ⟨k, hk, rfl⟩
        refine wpAny_bind (wpAny_holding (list_sort_data2 (A := X.A.in1) (s := { s with heap := h'.push (seqObj "list" acc.toList.toArray 0), toks := tk }) (enc := encK) hoL e0 er (fun d hd' d2 hd2 => ?_) (.inr fun d hd' => ?_) hline (fun b _ => ?_) fun out ho eo => ?_))
        · obtain ⟨b, hb, rfl⟩ := List.mem_map.mp hd'
          obtain ⟨b2, hb2, rfl⟩ := List.mem_map.mp hd2
          exact alD_ok _ _ (List.all_eq_true.mp (List.all_eq_true.mp c2 _ (mm hb)) _ (mm hb2))
        · obtain ⟨b, hb, rfl⟩ := List.mem_map.mp hd'
          cases b <;> (unfold encK; simp [Ka.d, toPy])
        · rw [dz]
          show X.A.units + 1 + 1 + 0 < cLine
          omega
        · obtain ⟨c', hc'⟩ := sortedHeap_at (vs := acc.toList) (out := out.toArray) hoL
          have np : H h'.objs.size = none := I1.hok.fresh (Nat.le_refl _)
          have kept : ∀ b u, h'.get? b = some u → (sortedHeap (h'.push (seqObj "list" acc.toList.toArray 0)) h'.objs.size acc.toList out.toArray).get? b = some u := fun b u e => by
            have hlt := Heap.lt_size e
            rw [sortedHeap_old (Nat.ne_of_lt hlt) (by rw [size_push']; exact Nat.lt_succ_of_lt hlt)]
            exact Heap.get?_push_of_some _ e
          have em : (ks.mergeSort (PySem.W.dataLe false encK)).map Ka.d = (ks.map Ka.d).mergeSort leD :=
            List.map_mergeSort (f := Ka.d) (r := PySem.W.dataLe false encK) (s := leD) (l := ks) fun a _ b _ => encK_leD a b
          generalize hms : ks.mergeSort (PySem.W.dataLe false encK) = ms at eo em
          have hml : ms.length = ks.length := by rw [← hms, List.length_mergeSort]
          have htm : ∀ x, Ka.s x ∈ ms → Txt x := fun x hx => by
            rw [← hms] at hx
            exact ht x ((List.mergeSort_perm _ _).mem_iff.mp hx)
          have hlen : (ms.map fun k => kV (keyK k)).length ≤ sizeLine := by rw [List.length_map, hml]; exact hline
          exact wpAny_pure ⟨_, rfl, .ref h'.objs.size, upd H h'.objs.size (.lst (ms.map fun k => kV (keyK k))), I1.laid (t' := tk) kept (Nat.le_refl _) ⟨hlen, out, c', vals_each eo, hc'⟩, rfl, k _ _ (.lst np (by rw [← em]; exact relL_ka htm))⟩
      · cases q
  · cases e
end
end Kb

set_option Elab.async false
set_option linter.all false
set_option maxRecDepth 100000
set_option maxHeartbeats 4000000
/-! KbKey: sorted by keys that an own def gives. -/
namespace Kb
open PySem PySem.Spec PyProof.Rows L2 TL PySem.W
mutual
theorem reads_nil {h : Heap} : ∀ (d : Kb.D) (v : Value) (as : List Addr), alD d d = true → Reads h v (toPy d) as → as = []
  | .non, _, _, _, r => by simp only [toPy] at r; cases r; rfl
  | .bl b, _, _, _, r => by simp only [toPy] at r; cases r; rfl
  | .int i, _, _, _, r => by simp only [toPy] at r; cases r; rfl
  | .str x, _, _, _, r => by simp only [toPy] at r; cases r; rfl
  | .tup xs, _, _, hal, r => by
    simp only [toPy] at r
    cases r with
    | tuple h1 h2 h3 h4 => exact readsAll_nil xs _ _ (by simpa [alD] using hal) h4
  | .lst _, _, _, hal, _ => by simp [alD] at hal
  | .dic _ _, _, _, hal, _ => by simp [alD] at hal
  | .set _, _, _, hal, _ => by simp [alD] at hal
  | .ref _, _, _, hal, _ => by simp [alD] at hal
  | .scr _, _, _, hal, _ => by simp [alD] at hal
  | .kdic _ _, _, _, hal, _ => by simp [alD] at hal
theorem readsAll_nil {h : Heap} : ∀ (ds : List Kb.D) (vs : List Value) (as : List Addr), alL ds ds = true → ReadsAll h vs (toPyL ds) as → as = []
  | [], _, _, _, r => by simp only [toPyL] at r; cases r; rfl
  | d :: ds, _, _, hal, r => by
    simp only [toPyL] at r
    obtain ⟨a1, a2⟩ := ands (show (alD d d && alL ds ds) = true by simpa [alL] using hal)
    cases r with
    | cons h1 h2 => rw [reads_nil d _ _ a1 h1, readsAll_nil ds _ _ a2 h2]; rfl
end
theorem hok_but {P : Program} {w : World} {H : Hp} {h h' : Heap} {c : Addr} (x : HOk P w H h) (n : H c = none) (k : ∀ b u, b ≠ c → h.get? b = some u → h'.get? b = some u) : HOk P w H h' := fun a o e =>
  (x a o e).stay (fun b u hb q => k b u (by
    rintro rfl
    rcases hb with rfl | hb
    · rw [n] at e; cases e
    · rw [n] at hb; cases hb) q) (fun _ q => q) fun _ _ q => q
theorem hok_but2 {P : Program} {w : World} {H : Hp} {h h' : Heap} {c d : Addr} (x : HOk P w H h) (n : H c = none) (m : H d = none) (k : ∀ b u, b ≠ c → b ≠ d → h.get? b = some u → h'.get? b = some u) : HOk P w H h' := fun a o e =>
  (x a o e).stay (fun b u hb q => k b u (by
    rintro rfl
    rcases hb with rfl | hb
    · rw [n] at e; cases e
    · rw [n] at hb; cases hb) (by
    rintro rfl
    rcases hb with rfl | hb
    · rw [m] at e; cases e
    · rw [m] at hb; cases hb) q) (fun _ q => q) fun _ _ q => q
theorem lessAt_none {h : Heap} {c : Addr} {o : Obj} (e : h.get? c = some o) : (h.update c fun o => { o with data := .freed }).get? c = none := by
  have hl := Heap.lt_size e
  unfold Heap.get? Heap.update
  obtain ⟨objs, l⟩ := h
  have hl : c < objs.size := hl
  simp [Array.getElem?_modify, Array.getElem?_eq_getElem hl]
/-- a heap without one of its things -/
def lessAt (h : Heap) (c : Addr) : Heap := h.update c fun o => { o with data := .freed }
theorem less_ne {h : Heap} {b c : Addr} (e : b ≠ c) : (lessAt h c).get? b = h.get? b := (Heap.SameBut.update h c fun o => { o with data := .freed }).2 b e
section
variable {X : Cx} {N : Cn}
/-- what sorted(xs, key=f) asks -/
def rKey (N : Cn) (fa : Addr) (g : List Kb.D → List Ob → Option Rf) : List V → List V → Hp → VK → Prop := fun vs zs H Q => ∃ γ ds hp a us, vs = [.ref a] ∧ zs = [.ref fa] ∧ HR N.base γ H hp ∧ H a = some (.lst us) ∧ RelL N.base γ H ds us ∧ PostC N.base γ H (sortF g ds hp) Q fun _ _ _ => False
theorem Xc.refl {γ : Gh} {H : Hp} : Xc γ H γ H := ⟨fun _ _ h => h, fun _ h => h, fun _ _ h _ _ => .inl h, fun _ h => .inl h, fun _ h => .inl h, fun _ h => h⟩
theorem Xc.trans {γ γ1 γ2 : Gh} {H H1 H2 : Hp} (a : Xc γ H γ1 H1) (b : Xc γ1 H1 γ2 H2) : Xc γ H γ2 H2 where
  pre := fun k x h => b.pre k x (a.pre k x h)
  fm := fun x h => b.fm x (a.fm x h)
  fr := fun x o h n t => (a.fr x o h n t).trans (g := γ2.F x) (fun u hu e => b.fr x u hu (fun w => by
    rcases a.mn x w with z | z
    · exact n z
    · exact z.no h t) (by rcases e with rfl | ⟨od, rfl⟩; exact t; exact fun _ z => nomatch z)) (b.fm x)
  mn := fun x h => by
    rcases b.mn x h with z | z
    · exact a.mn x z
    · exact .inr (a.al x z)
  fn := fun x h => by
    rcases b.fn x h with z | z
    · exact a.fn x z
    · exact .inr (a.al x z)
  al := fun x h => a.al x (b.al x h)
theorem keysF_len {g : List Kb.D → List Ob → Option Rf} : ∀ {ds : List Kb.D} {hp : List Ob} {ks : List Kb.D} {hp2 : List Ob}, keysF g ds hp = some (ks, hp2) → ks.length = ds.length
  | [], hp, ks, hp2, h => by cases h; rfl
  | d :: ds, hp, ks, hp2, h => by
    unfold keysF at h
    split at h
    · split at h
      · rename_i e
        cases h
        simp [keysF_len e]
      · cases h
    · cases h
theorem cr_key {gd : Bool} {k : Nat} {fa : Addr} {fd : FuncData} {ps : List Str} {g : List Kb.D → List Ob → Option Rf} (hK : N.K = X.K) (F : FnG gd X.prog X.w X.K X.mg X.base k fa fd ps (spOf N.base g)) (quiet : gd = false) (hb : Binds X.K fd ps []) (room : Room (k + 2) X.A) (hu : X.A.units + 65 < cLine) :
    CallRK X (.builtin "sorted") [Str.ofString "key"] (rKey N fa g) := by
  intro pins s σ H xs zs us ws Q I rx rz h
  obtain ⟨γ, ds, hp, a, vs, rfl, rfl, hr, h1, h2, post⟩ := h
  cases e0 : keysF g ds hp with
  | none => unfold sortF at post; rw [e0] at post; exact post.elim
  | some pr =>
    obtain ⟨ks, hpE⟩ := pr
    cases e1 : sortK ds ks with
    | none => unfold sortF at post; rw [e0] at post; simp only [e1] at post; exact post.elim
    | some zs =>
      unfold sortF at post
      rw [e0] at post
      simp only [e1] at post
      rw [sortK_ms] at e1
      split at e1
      · rename_i c
        cases e1
        obtain ⟨c, cl⟩ := ands c
        have cl := of_decide_eq_true cl
        obtain ⟨c, c4⟩ := ands (show ((ks.all anTup || ks.all noTup) && ks.all (fun a => ks.all fun b => alD a b) && ks.all (pl 40) && decide (ks.length ≤ line)) = true from c)
        obtain ⟨c, c3⟩ := ands c
        obtain ⟨c1, c2⟩ := ands c
        have c4 := of_decide_eq_true c4
        obtain ⟨its, rv, hl, hz⟩ := I.list (X := X) (a := a) (xs := vs) (.inl (.inl h1))
        have hvl : vs.length = its.length := rv.length
        have hdl : ds.length = vs.length := h2.length
        have eu : us = [.ref a] := by first | exact Vals.ref1 rx | (cases rx; rename_i r t; cases r; cases t; rfl)
        have ew : ws = [.ref fa] := by first | exact Vals.ref1 rz | (cases rz; rename_i r t; cases r; cases t; rfl)
        subst eu ew
        have hZ : its.length ≤ sizeLine := by rw [line_eq]; omega
        show wpAny (model X.prog X.w) X.A (call (.builtin "sorted") [.ref a] [(Str.ofString "key", .ref fa)]) _ _ _
        refine PySem.W.sorted_of_sort hl.isList hZ (ksk_s1 _ _) (fun _ => by first | exact ksk_l1 _ _ | (unfold argsOk; kernel_rfl)) fun E' => ?_
        rw [ksk_t1]
        -- the new list, the key store
        generalize ha' : s.heap.objs.size + 1 = a'
        have ho : (copyHeap s.heap its).get? a' = some (seqObj "list" its.toArray 0) := by rw [← ha']; exact copyHeap_at s.heap its
        have hcs : ∀ b u, s.heap.get? b = some u → (copyHeap s.heap its).get? b = some u := fun b u e => copyHeap_old e
        obtain ⟨ep, ho1⟩ : ∃ ep, ((copyHeap s.heap its).update a' (Obj.mapSeq fun _ => (#[] : Array Value))).get? a' = some (seqObj "list" #[] ep) := ⟨_, get?_update_seq ho fun _ => #[]⟩
        unfold ksk_tree
        refine wpAny_bind (listItems_at ho rfl ?_)
        refine wpAny_bind (listUpdate_at ho rfl ?_ (by rw [List.size_toArray]; exact hZ) (Nat.zero_le _))
        refine wpAny_bind (seqEpoch_at ho1 rfl ?_)
        refine wpAny_bind (wpAny_newTuple ?_ (by show its.length ≤ _; exact hZ))
        refine wpAny_bind (wpAny_newList ?_ (Nat.zero_le _))
        refine wpAny_holding ?_
        generalize hkS : (((copyHeap s.heap its).update a' (Obj.mapSeq fun _ => (#[] : Array Value))).push (seqObj "tuple" its.toArray 0)).objs.size = kS
        have hal : a' < (copyHeap s.heap its).objs.size := Heap.lt_size ho
        have hka : kS ≠ a' := by
          rw [← hkS, size_push', Heap.size_update]
          exact Nat.ne_of_gt (Nat.lt_succ_of_lt hal)
        have hkb : s.heap.objs.size ≤ kS := by
          rw [← hkS, size_push', Heap.size_update]
          omega
        have hab : s.heap.objs.size ≤ a' := by omega
        generalize hs1 : ((((copyHeap s.heap its).update a' (Obj.mapSeq fun _ => (#[] : Array Value))).push (seqObj "tuple" its.toArray 0)).push (seqObj "list" #[] 0)) = h1'
        have kp1 : ∀ b u, s.heap.get? b = some u → h1'.get? b = some u := fun b u e => by
          rw [← hs1]
          refine Heap.get?_push_of_some _ (Heap.get?_push_of_some _ ?_)
          rw [(Heap.SameBut.update (copyHeap s.heap its) a' (Obj.mapSeq fun _ => (#[] : Array Value))).2 b (Nat.ne_of_lt (Nat.lt_of_lt_of_le (Heap.lt_size e) hab))]
          exact hcs b u e
        have nk1 : h1'.get? kS = some (seqObj "list" #[] 0) := by rw [← hs1, ← hkS]; exact Heap.get?_push_size _ rfl
        have na1 : h1'.get? a' = some (seqObj "list" #[] ep) := by rw [← hs1]; exact Heap.get?_push_of_some _ (Heap.get?_push_of_some _ ho1)
        have fk := I.fpOk hkb (I.hok.fresh hkb)
        have fa' := I.fpOk hab (I.hok.fresh hab)
        have stk : ∀ {b : Addr}, s.heap.objs.size ≤ b → b ∉ frs X.stack := fun {b} hb z => by
          have := I.stkSub b z
          rcases List.mem_cons.mp this with rfl | q
          · exact Nat.lt_irrefl _ (Nat.lt_of_lt_of_le I.lt hb)
          · exact (I.nofs hb) q
        unfold ksk_rest
        refine wpAny_bind (wpAny_rule ?_)
        first
          | rw [List.forIn_toArray]
          | (rw [← Array.forIn_toList]; simp only [List.toList_toArray])
          | rw [← Array.forIn_toList]
        refine wpAny_bind (ksk_fold (fun i s' => ∃ H' γ' hp' kA e kvs, s'.os = s.os ∧ AllBare s'.gens ∧ Un (frs X.stack) [] H H' s.heap s'.heap ∧ HOk X.prog X.w H' s'.heap ∧ H' kS = none ∧ H' a' = none ∧ s'.heap.get? kS = some (seqObj "list" kA e) ∧
          s'.heap.get? a' = some (seqObj "list" #[] ep) ∧ HR N.base γ' H' hp' ∧ Xc γ H γ' H' ∧ RelL N.base γ' H' (ks.take i) kvs ∧ Vals kvs kA.toList ∧ keysF g (ds.drop i) hp' = some (ks.drop i, hpE)) its 0 _ ⟨H, γ, hp, #[], 0, [], rfl, I.bare, Un.kept kp1, I.hok.kept kp1, fk.1, fa'.1, nk1, na1, hr, .refl, by rw [List.take_zero]; rfl, .nil, by rw [List.drop_zero, List.drop_zero]; exact e0⟩ ?step ?done)
        case step =>
          rintro j x s' hx ⟨H', γ', hp', kA, e, kvs, os', ba', un', ok', hk', hA', nk', na', hr', xc', rk', vk', ek'⟩
          simp only [Nat.zero_add] at rk' ek' ⊢
          have hj : j < its.length := (List.getElem?_eq_some_iff.mp hx).1
          have I' : Inv X pins σ H' s' := I.call' (ch := []) os' un' ok' ba' fun b hb => nomatch hb
          obtain ⟨d, hd⟩ : ∃ d, ds[j]? = some d := ⟨_, List.getElem?_eq_getElem (by omega)⟩
          obtain ⟨q, hq⟩ : ∃ q, ks[j]? = some q := ⟨_, List.getElem?_eq_getElem (by omega)⟩
          have dj : ds.drop j = d :: ds.drop (j + 1) := by
            rw [List.drop_eq_getElem_cons (by omega)]
            congr 1
            exact Option.some.inj ((List.getElem?_eq_getElem (by omega)).symm.trans hd)
          have kj : ks.drop j = q :: ks.drop (j + 1) := by
            rw [List.drop_eq_getElem_cons (by omega)]
            congr 1
            exact Option.some.inj ((List.getElem?_eq_getElem (by omega)).symm.trans hq)
          rw [dj, kj] at ek'
          obtain ⟨v, hv, rd⟩ := h2.get hd
          obtain ⟨u0, hu0, rvx⟩ := rv.get hv
          rw [hx] at hu0
          cases hu0
          have rd' : Rel N.base γ' H' d v := rd.keep (xc'.keep hr)
          unfold keysF at ek'
          split at ek'
          · rename_i kd hp1 ec
            split at ek'
            · rename_i ks2 hp2 ec2
              cases ek'
              have room' : Room k X.A.in1.in1 := Room.in1 (Room.in1 room)
              have sp1 : spOf N.base g [v] H' (fun y H2 => ∃ γ2, HR N.base γ2 H2 hp1 ∧ Xc γ' H' γ2 H2 ∧ Rel N.base γ2 H2 q y) (fun _ _ _ => False) := ⟨γ', [d], hp', hr', RelL.cons rd' rfl, by
                  show PostC N.base γ' H' (g [d] hp') _ _
                  rw [ec]
                  intro γ2 H2 y hr2 xc2 rl
                  exact ⟨γ2, hr2, xc2, rl⟩⟩
              have pl1 := F.n sp1
              have bt : BindsTo s' fd ⟨[x], []⟩ (ps.zip [x]) := by
                have := hb s' [x] I'.kIn (by rw [List.append_nil]; exact pl1)
                rwa [List.append_nil] at this
              have run := F.go X.A.in1.in1 X.stack s' H' ⟨[x], []⟩ [x] [v] (fun y H2 => ∃ γ2, HR N.base γ2 H2 hp1 ∧ Xc γ' H' γ2 H2 ∧ Rel N.base γ2 H2 q y) (fun _ _ _ => False) room' (fun z => by rw [quiet] at z; cases z) I'.env0.in1.in1 bt (.cons rvx .nil)
                sp1
              refine wpAny_bind (wpAny_attempt (wpAny_call (codeAny_mono run fun res z' hres => ?_)))
              match res, hres with
              | .error u, hres =>
                obtain ⟨_, _, _, _, _, _, _, _, _, _, _, _, hE⟩ := hres
                exact hE.elim
              | .ok (.ret u), hres =>
                obtain ⟨y, H2, os2, ba2, un2, ok2, ry, γ2, hr2, xc2, rl⟩ := hres
                try dsimp only
                have nk2 : z'.heap.get? kS = some (seqObj "list" kA e) := un2.keep kS _ nk' hk' (stk hkb) (by simp)
                have na2 : z'.heap.get? a' = some (seqObj "list" #[] ep) := un2.keep a' _ na' hA' (stk hab) (by simp)
                have hk2 : H2 kS = none := un2.free kS _ nk' hk' (by simp)
                have hA2 : H2 a' = none := un2.free a' _ na' hA' (by simp)
                have s1 := Heap.SameBut.update z'.heap kS (Obj.mapSeq (·.push u))
                obtain ⟨c2', hc2'⟩ : ∃ c2, (z'.heap.update kS (Obj.mapSeq (·.push u))).get? kS = some (seqObj "list" (kA.push u) c2) := ⟨_, get?_update_seq nk2 (·.push u)⟩
                have kl : kA.size = j := by
                  have e3 := vk'.length
                  have e4 := rk'.length
                  have e5 : kA.toList.length = kA.size := Array.length_toList
                  rw [List.length_take] at e4
                  omega
                refine wpAny_bind (listUpdate_at nk2 rfl ?_ (by omega) (by rw [Array.size_push]; omega))
                refine wpAny_pure ⟨rfl, H2, γ2, hp1, kA.push u, c2', kvs ++ [y], os2.trans os', ba2, ?_, hok_but ok2 hk2 fun b o hb e => (s1.2 b hb).trans e, hk2, hA2, hc2', (s1.2 a' hka.symm).trans na2, hr2, xc'.trans xc2, ?_, ?_, ec2⟩
                · have un3 : Un (frs X.stack) [] H H2 s.heap z'.heap := un'.trans un2
                  have ne : ∀ {b o}, s.heap.get? b = some o → b ≠ kS := fun {b o} e => Nat.ne_of_lt (Nat.lt_of_lt_of_le (Heap.lt_size e) hkb)
                  refine ⟨fun b o e n f x => (s1.2 b (ne e)).trans (un3.keep b o e n f x), fun b o e n f x => ?_, fun b o e n x => un3.free b o e n x, fun b o e x => ?_, un3.tups, un3.frzs, un3.tbls⟩
                  · obtain ⟨sl, q⟩ := un3.slot b o e n f x
                    exact ⟨sl, (s1.2 b (ne e)).trans q⟩
                  · obtain ⟨o', q⟩ := un3.there b o e x
                    exact ⟨o', (s1.2 b (ne e)).trans q⟩
                · rw [List.take_add_one, hq]
                  exact (rk'.keep (xc2.keep hr')).append (RelL.cons rl rfl)
                · rw [Array.toList_push]
                  exact vk'.append (.cons ry .nil)
            · cases ek'
          · cases ek'
        case done =>
          rintro s' ⟨H', γ', hp', kA, e, kvs, os', ba', un', ok', hk', hA', nk', na', hr', xc', rk', vk', ek'⟩
          simp only [Nat.zero_add] at rk' ek'
          have I' : Inv X pins σ H' s' := I.call' (ch := []) os' un' ok' ba' fun b hb => nomatch hb
          rw [List.take_of_length_le (by omega)] at rk'
          rw [List.drop_eq_nil_of_le (by omega)] at ek'
          have ehp : hp' = hpE := by
            unfold keysF at ek'
            have := Option.some.inj ek'
            exact congrArg Prod.snd this
          subst ehp
          have kl : kA.size = its.length := by
            have e3 := vk'.length
            have e4 := rk'.length
            have e5 : kA.toList.length = kA.size := Array.length_toList
            omega
          try dsimp only
          refine wpAny_bind (listItems_at nk' rfl ?_)
          have hKb : N.base.K = X.K := hK
          obtain ⟨p1, p2, p3⟩ := pairs_each I' hKb c3 rk' vk'
          have kzl : ks.length = kvs.length := rk'.length
          have ez : (ks.zip kvs).map (fun b : Pr2 => toPy b.1) = ks.map toPy := by
            rw [show (fun b : Pr2 => toPy b.1) = toPy ∘ (·.1) from rfl, ← List.map_map, zip_fst kzl]
          have er : PySem.W.EachIs (fun v d => ∃ as, Reads s'.heap v d as) kA.toList (ks.map toPy) := by
            rw [← ez]
            exact each_map (fun b : Pr2 => toPy b.1) p2
          have al : AllAlike (ks.map toPy) := by
            intro d hd d2 hd2
            obtain ⟨b, hb, rfl⟩ := List.mem_map.mp hd
            obtain ⟨b2, hb2, rfl⟩ := List.mem_map.mp hd2
            exact alD_ok _ _ (List.all_eq_true.mp (List.all_eq_true.mp c2 _ hb) _ hb2)
          have so : Sortable2 (ks.map toPy) := by
            rcases Bool.or_eq_true _ _ ▸ c1 with c1 | c1
            · refine .inl fun d hd => ?_
              obtain ⟨b, hb, rfl⟩ := List.mem_map.mp hd
              exact toPy_anTup (List.all_eq_true.mp c1 _ hb)
            · refine .inr fun d hd => ?_
              obtain ⟨b, hb, rfl⟩ := List.mem_map.mp hd
              exact toPy_noTup (List.all_eq_true.mp c1 _ hb) (List.all_eq_true.mp c3 _ hb)
          have un : ∀ d, d ∈ ks.map toPy → X.A.in1.in1.units + d.depth < cLine := by
            intro d hd
            obtain ⟨b, hb, rfl⟩ := List.mem_map.mp hd
            have : (toPy b).depth ≤ 40 := by
              obtain ⟨v, hv⟩ : ∃ v, (b, v) ∈ ks.zip kvs := by
                obtain ⟨i, hi⟩ := List.mem_iff_getElem?.mp hb
                have hlt := (List.getElem?_eq_some_iff.mp hi).1
                exact ⟨kvs[i]'(by omega), List.mem_of_getElem? (i := i) (by rw [List.getElem?_zip_eq_some]; exact ⟨hi, List.getElem?_eq_getElem (by omega)⟩)⟩
              exact p3 _ hv
            show X.A.units + 1 + 1 + (toPy b).depth < cLine
            omega
          have kp : KeepsBut a' (lessAt s'.heap kS) s'.heap := fun b o hb e => by
            by_cases hc : b = kS
            · subst hc
              exfalso
              have : (lessAt s'.heap b).get? b = none := lessAt_none nk'
              rw [this] at e; cases e
            · rw [less_ne hc] at e; exact e
          have kn : (lessAt s'.heap kS).get? kS = none := lessAt_none nk'
          -- what comes out
          have kzd : (ds.zip vs).length = ks.length := by rw [List.length_zip]; omega
          have eb : PySem.W.EachIs (fun u (b : (Kb.D × V) × Kb.D) => RelV b.1.2 u) its ((ds.zip vs).zip ks) := by
            have : ∀ {us : List V} {ws : List Value} {es qs : List Kb.D}, Vals us ws → es.length = us.length → qs.length = us.length → PySem.W.EachIs (fun u (b : (Kb.D × V) × Kb.D) => RelV b.1.2 u) ws ((es.zip us).zip qs) := by
              intro us ws es qs r
              induction r generalizing es qs with
              | nil => intro h1 h2; cases es <;> cases qs <;> first | exact .nil | simp at h1 | simp at h2
              | cons r t ih =>
                intro h1 h2
                cases es with
                | nil => simp at h1
                | cons e es =>
                  cases qs with
                  | nil => simp at h2
                  | cons q qs => exact .cons r (ih (by simpa using h1) (by simpa using h2))
            exact this rv hdl (by omega)
          have ekz : ((ds.zip vs).zip ks).map (fun b => toPy b.2) = ks.map toPy := by
            rw [show (fun b : (Kb.D × V) × Kb.D => toPy b.2) = toPy ∘ (·.2) from rfl, ← List.map_map]
            congr 1
            exact List.map_snd_zip (by omega)
          refine keyH_end (κ := dataKind s'.heap (ks.map toPy)) (h₁ := lessAt s'.heap kS) kp kn nk' na' hka (sortsAt2 (s := s') er al so un) kl hZ fun h3 tk3 c3' k3 n3 => ?_
          have ko : KeyedOut false (((ds.zip vs).zip ks).map fun b => toPy b.2) its (sortVals (dataKind s'.heap (ks.map toPy)) false kA.toList its) := by
            rw [ekz]
            exact ⟨s'.heap, kA.toList, al, rfl, er⟩
          have eo := keyedOut_each (R := fun u (b : (Kb.D × V) × Kb.D) => RelV b.1.2 u) (fun b : (Kb.D × V) × Kb.D => toPy b.2) ko eb
          generalize hOut : sortVals (dataKind s'.heap (ks.map toPy)) false kA.toList its = out at n3 ko eo
          generalize hBs : ((ds.zip vs).zip ks).mergeSort (PySem.W.dataLe false fun b : (Kb.D × V) × Kb.D => toPy b.2) = bs at eo
          have lo : out.length = its.length := (ko.length (by rw [ekz, List.length_map]; omega)).trans rfl
          have vo : Vals (bs.map fun b => b.1.2) out := by
            clear hBs hOut n3 ko lo
            induction eo with
            | nil => exact .nil
            | cons h _ ih => exact .cons h ih
          have hbm : ∀ b ∈ bs, b ∈ (ds.zip vs).zip ks := fun b hb => by rw [← hBs] at hb; exact (List.mergeSort_perm _ _).mem_iff.mp hb
          have d1 : bs.map (fun b => b.1.1) = ((ds.zip ks).mergeSort fun a b : Kb.D × Kb.D => leD a.2 b.2).map (·.1) := by
            rw [← hBs]
            have e1 := List.map_mergeSort (f := fun b : (Kb.D × V) × Kb.D => (b.1.1, b.2)) (r := PySem.W.dataLe false fun b : (Kb.D × V) × Kb.D => toPy b.2) (s := fun a b : Kb.D × Kb.D => leD a.2 b.2) (l := (ds.zip vs).zip ks) fun a _ b _ => (leD_eq a.2 b.2).symm
            have e2 : ((ds.zip vs).zip ks).map (fun b : (Kb.D × V) × Kb.D => (b.1.1, b.2)) = ds.zip ks := by
              have : ∀ {es : List Kb.D} {us : List V} {qs : List Kb.D}, es.length = us.length → ((es.zip us).zip qs).map (fun b : (Kb.D × V) × Kb.D => (b.1.1, b.2)) = es.zip qs := by
                intro es
                induction es with
                | nil => intro us qs h; simp
                | cons e es ih =>
                  intro us qs h
                  cases us with
                  | nil => simp at h
                  | cons u us =>
                    cases qs with
                    | nil => simp
                    | cons q qs => simp; simpa using ih (us := us) (qs := qs) (by simpa using h)
              exact this hdl
            rw [← e2, ← e1, List.map_map]
            rfl
          have kx := xc'.keep hr
          have ro : RelL N.base γ' H' (bs.map fun b => b.1.1) (bs.map fun b => b.1.2) := by
            have mem : ∀ b ∈ bs, Rel N.base γ' H' b.1.1 b.1.2 := fun b hb => by
              have m1 := (List.of_mem_zip (hbm b hb)).1
              obtain ⟨i, hi⟩ := List.mem_iff_getElem?.mp m1
              rw [List.getElem?_zip_eq_some] at hi
              obtain ⟨v, hv, rr⟩ := h2.get hi.1
              rw [hi.2] at hv
              cases hv
              exact rr.keep kx
            clear hbm d1 vo eo hBs
            induction bs with
            | nil => rfl
            | cons b bs ih => exact RelL.cons (mem b (List.mem_cons_self ..)) (ih fun c hc => mem c (List.mem_cons_of_mem _ hc))
          have kpo : ∀ b o, b ≠ a' → b ≠ kS → s'.heap.get? b = some o → h3.get? b = some o := fun b o h1 h2 e => k3 b o h1 (by rw [less_ne h2]; exact e)
          have ne : ∀ {b o}, s.heap.get? b = some o → b ≠ a' ∧ b ≠ kS := fun {b o} e => ⟨Nat.ne_of_lt (Nat.lt_of_lt_of_le (Heap.lt_size e) hab), Nat.ne_of_lt (Nat.lt_of_lt_of_le (Heap.lt_size e) hkb)⟩
          have hz3 : (bs.map fun b => b.1.2).length ≤ sizeLine := by rw [vo.length, lo]; exact hZ
          have r0 : SR N.base γ' [] H' ⟨[], hp'⟩ := ⟨hr', rfl, fun i d h => by simp at h, fun i xs h => by simp at h, fun i t ks ds h => by simp at h, fun i j a h => by rcases h with ⟨_, h⟩ | ⟨_, _, _, h⟩ <;> simp at h, fun i a h => by rcases h with ⟨_, h⟩ | ⟨_, _, _, h⟩ <;> simp at h, fun i h => by simp at h⟩
          obtain ⟨γ2, r2, x2, re2⟩ := Res.xe (w := .own (bs.map fun b => b.1.1)) (x := .ref a') r0 (.lst hA' ro)
          have wr0 : ∀ {a : Addr}, Wr γ' ([] : L2.St) ([] : List (Option Sl)) a → a ∈ γ'.m := fun {a} h => by
            rcases h with h | ⟨i, h, _⟩
            · exact h
            · rcases h with ⟨_, h⟩ | ⟨_, _, _, h⟩ <;> simp at h
          have m2 : ∀ {a : Addr}, a ∈ γ'.m → a ∈ γ2.m := fun {a} h => by
            obtain ⟨i, hi⟩ := List.mem_iff_getElem?.mp h
            exact List.mem_of_getElem? (x2.pre i a hi)
          have xc2 : Xc γ' H' γ2 (upd H' a' (.lst (bs.map fun b => b.1.2))) := ⟨x2.pre, x2.fm, x2.fr, x2.mn, fun a h => by
            rcases x2.fn a h with z | z | z
            · exact .inl z
            · exact absurd h (r2.hr.nf a (m2 (wr0 z)))
            · exact .inr z, x2.al⟩
          rw [d1] at re2
          have fin := post γ2 (upd H' a' (.lst (bs.map fun b => b.1.2))) (.ref a') r2.hr (xc'.trans xc2) (RX.late H H' _ _ γ2 _ _ _ (fun a z => xc'.al a z) (fun a z => xc'.mn a (wr0 z)) re2)
          · refine ⟨rfl, .ref a', upd H' a' (.lst (bs.map fun b => b.1.2)), ?_, rfl, fin⟩
            have un3 : Un (frs X.stack) [] H (upd H' a' (.lst (bs.map fun b => b.1.2))) s.heap h3 := by
              refine ⟨fun b o e n f x => kpo b o (ne e).1 (ne e).2 (un'.keep b o e n f x), fun b o e n f x => ?_, fun b o e n x => by rw [upd_ne (ne e).1]; exact un'.free b o e n x, fun b o e x => ?_, fun b xs e => ?_, fun b o u e => ?_, fun b ps e => ?_⟩
              · obtain ⟨sl, q⟩ := un'.slot b o e n f x
                exact ⟨sl, kpo b _ (ne e).1 (ne e).2 q⟩
              · obtain ⟨o', q⟩ := un'.there b o e x
                exact ⟨o', kpo b _ (ne e).1 (ne e).2 q⟩
              · have q := un'.tups b xs e
                rw [upd_ne (fun z => by rw [z, hA'] at q; cases q)]; exact q
              · have q := un'.frzs b o u e
                rw [upd_ne (fun z => by rw [z, hA'] at q; cases q)]; exact q
              · obtain ⟨more, q⟩ := un'.tbls b ps e
                exact ⟨more, by rw [upd_ne (fun z => by rw [z, hA'] at q; cases q)]; exact q⟩
            have ok3 : HOk X.prog X.w (upd H' a' (.lst (bs.map fun b => b.1.2))) h3 := fun b u e => by
              by_cases hb : b = a'
              · subst hb
                rw [upd_same] at e
                cases e
                exact ⟨hz3, out, c3', vo, n3⟩
              · rw [upd_ne hb] at e
                have nz : ∀ {c : Addr} {v : HO}, H' c = some v → c ≠ a' ∧ c ≠ kS := fun {c v} q => ⟨(fun z => by rw [z, hA'] at q; cases q), (fun z => by rw [z, hk'] at q; cases q)⟩
                refine (ok' b u e).stay (fun c o hc q => ?_) (fun c q => by rw [upd_ne (nz q).1]; exact q) fun c xs q => by rw [upd_ne (nz q).1]; exact q
                rcases hc with rfl | hc
                · exact kpo c o (nz e).1 (nz e).2 q
                · exact kpo c o (nz hc).1 (nz hc).2 q
            exact I.call' (s' := { s' with heap := h3, toks := tk3 }) (ch := []) os' un3 ok3 ba' fun b hb => nomatch hb

      · cases e1
theorem sortF_E {g : List Kb.D → List Ob → Option Rf} {ds : List Kb.D} {hp : List Ob} {γ : Gh} {H : Hp} {Q : VK} {E E' : XK} (h : PostC N γ H (sortF g ds hp) Q E) : PostC N γ H (sortF g ds hp) Q E' := by
  unfold sortF at h ⊢
  split at h
  · split at h
    · rename_i e1 _ _ e2
      exact h
    · exact h.elim
  · exact h.elim
abbrev sortkM (g : List Kb.D → List Ob → Option Rf) (m : M Sl) : M Sl := bnd m fun v => match v.d with
  | .lst ds => callM (sortF g ds)
  | _ => stk
theorem ex_sortk {gd : Bool} {k : Nat} {fa : Addr} {fd : FuncData} {ps : List Str} {g : List Kb.D → List Ob → Option Rf} {x : Str} {W : WX} {e : Expr} {m : M Sl} {fr : Prop} {p1 p2 kp pos : Pos} (hK : N.K = X.K) (F : FnG gd X.prog X.w X.K X.mg X.base k fa fd ps (spOf N.base g)) (quiet : gd = false) (hb : Binds X.K fd ps []) (room : Room (k + 2) X.A) (hu : X.A.units + 65 < cLine)
    (hg : Gl X "sorted") (hm : X.mg "sorted" = none) (hgx : Gl X x) (hmx : X.mg x = some (.ref fa)) (hdx : (x == ("__debug__" : Str)) = false) (he : PE X e (TT' N W (RX N fr) m)) (hs : notStar e = true) :
    PE X (.Call (.Name "sorted" p1) [e] [⟨some "key", .Name x p2, kp⟩] pos) (TT' N W (RX N True) (sortkM g m)) := by
  have hx : PE X (.Name x p2) (tC (.ref fa)) := pe_glob hgx hmx rfl hdx
  have c := pe_callBK (pos := pos) (p := p1) (cr_key hK F quiet hb room hu) hg hm (by decide +kernel) (pa_cons he pa_nil (star_of hs)) (pk_cons (nm := some "key") (kpos := kp) hx pk_nil) (by decide) (by decide) (by rw [star_of hs]; rfl) (stars_no (by simp [hs]))
  refine c.imp fun σ H Q ⟨γ, s, r, h⟩ => ⟨γ, s, r, (h.bnd RX.late).mono fun v H1 ⟨x', s1, γ1, em, r1, x1, rel, h1⟩ => ?_⟩
  have fin : ∀ {ds : List Kb.D} {a : Addr} {us : List V}, v = .ref a → H1 a = some (.lst us) → RelL N γ1 H1 ds us → Post N W (RX N True) γ1 σ H1 s1 (callM (sortF g ds) s1) Q → rKey N fa g [v] [.ref fa] H1 Q := fun {ds a us} e1 e2 e3 e4 =>
    ⟨γ1, ds, s1.hp, a, us, by rw [e1], rfl, r1.hr.base, e2, e3.re, sortF_E (callM_post r1 e4)⟩
  cases x' with
  | own ds =>
    obtain ⟨a, us, e1, e2, e3, _⟩ := rel
    exact fin e1 e2 e3 h1
  | val d =>
    cases d with
    | lst ds =>
      obtain ⟨a, us, e1, e2, e3⟩ := rel
      exact fin e1 e2.2 e3 h1
    | _ => exact h1.elim
  | ownd t ks ds => exact h1.elim
  | exc => exact h1.elim
end
end Kb

set_option Elab.async false
set_option linter.all false
set_option maxRecDepth 100000
set_option maxHeartbeats 4000000
/-! KbLam: a def's promise from its body's run; lambdas handed to defs. -/
namespace Kb
open PySem PySem.Spec PyProof.Rows L2 TL
/-- no slot holds a list of its own, a caught error -/
def allV (l : List (Option Sl)) : Prop := ∀ (i : Nat) v, l[i]? = some (some v) → ∃ d, v = .val d
theorem allV.own {l : List (Option Sl)} (h : allV l) {i : Nat} (o : isOwn l i) : False := by
  rcases o with ⟨xs, o⟩ | ⟨t, ks, vs, o⟩
  · obtain ⟨d, e⟩ := h i _ o; cases e
  · obtain ⟨d, e⟩ := h i _ o; cases e
theorem allV_none (n : Nat) : allV (List.replicate n none) := fun i v h => by
  rw [List.getElem?_replicate] at h
  split at h <;> cases h
section
variable {N : Cn} {γ γ' : Gh} {σ σ' : L2.St} {H H' : Hp} {s s' : S} {hp hp' : List Ob} {l : List (Option Sl)}
/-- of values alone: a state in a later heap -/
theorem SR.vals (r : SR N γ σ H ⟨l, hp⟩) (v : allV l) (k : Keep γ H γ' H') (hr : HR N γ' H' hp') : SR N γ' σ H' ⟨l, hp'⟩ :=
  ⟨hr, r.len, fun i d h => let ⟨x, h1, h2⟩ := r.val i d h; ⟨x, h1, h2.keep k⟩, fun i xs h => (v.own (.inl ⟨xs, h⟩)).elim, fun i t ks ds h => (v.own (.inr ⟨t, ks, ds, h⟩)).elim, fun i j a h _ => (v.own h).elim, fun i a h => (v.own h).elim, fun i h => by
    obtain ⟨d, e⟩ := v i _ h
    cases e⟩
theorem Xt.xc (x : Xt γ σ H s γ' σ' H' s') (v : ∀ i, ¬isOwn s.sl i) (hr : HR N γ' H' hp') : Xc γ H γ' H' where
  pre := x.pre
  fm := x.fm
  fr := fun a o h n t => x.fr a o h (fun w => by
    rcases w with z | ⟨i, z, _⟩
    · exact n z
    · exact v i z) t
  mn := fun a h => by
    rcases x.wr a (.inl h) with (z | ⟨i, z, _⟩) | z
    · exact .inl z
    · exact (v i z).elim
    · exact .inr z
  fn := fun a h => by
    rcases x.fn a h with z | (z | ⟨i, z, _⟩) | z
    · exact .inl z
    · obtain ⟨k, hk⟩ := List.mem_iff_getElem?.mp z
      exact absurd h (hr.nf a (List.mem_of_getElem? (x.pre k a hk)))
    · exact (v i z).elim
    · exact .inr z
  al := x.al
theorem Xc.xt (x : Xc γ H γ' H') (v : ∀ i, ¬isOwn s.sl i) (v' : ∀ i, ¬isOwn s'.sl i) : Xt γ σ H s γ' σ' H' s' where
  pre := x.pre
  fm := x.fm
  fr := fun a o h n t => x.fr a o h (fun z => n (.inl z)) t
  wr := fun a h => by
    rcases h with z | ⟨i, z, _⟩
    · exact (x.mn a z).imp .inl id
    · exact (v' i z).elim
  fn := fun a h => (x.fn a h).imp id .inr
  al := x.al
theorem Xc.xe (x : Xc γ H γ' H') (v' : ∀ i, ¬isOwn s'.sl i) : Xe γ σ H s γ' H' s' :=
  ⟨x.pre, x.fm, x.fr, x.mn, fun a h => (x.fn a h).imp id .inr, x.al, fun i h => (v' i h).elim⟩
/-- what comes out of a body without own lists at its start -/
theorem RX.out {fr : Prop} {W0 : Addr → Prop} {v : Sl} {x : V} (h : RX N fr H W0 γ' H' v x) (hw : ∀ a, W0 a → a ∈ γ.m) (pre : ∀ (k : Nat) a, γ.m[k]? = some a → γ'.m[k]? = some a) : RX N True H (· ∈ γ.m) γ' H' v x := by
  have key : ∀ a, a ∉ γ'.m → (W0 a ∨ Nn H a) → Nn H a := fun a n z => z.elim (fun w => by
    obtain ⟨k, hk⟩ := List.mem_iff_getElem?.mp (hw a w)
    exact absurd (List.mem_of_getElem? (pre k a hk)) n) id
  cases v with
  | val d => exact h
  | own xs =>
    obtain ⟨a, vs, h1, h2, h3, h4, h5, h6, _⟩ := h
    exact ⟨a, vs, h1, h2, h3, h4, h5, .inr (key a h5 h6), fun _ => key a h5 h6⟩
  | ownd t ks ds =>
    obtain ⟨a, vs, o, h1, h2, h3, h4, h5, h6, h7, _⟩ := h
    exact ⟨a, vs, o, h1, h2, h3, h4, h5, h6, .inr (key a h6 h7), fun _ => key a h6 h7⟩
  | exc => exact h
theorem RX.base {fr : Prop} {H0 : Hp} {W0 : Addr → Prop} {v : Sl} {x : V} (h : RX N fr H0 W0 γ H v x) : RX N.base fr H0 W0 γ H v x := by
  cases v with
  | val d => exact Rel.re h
  | own xs => obtain ⟨a, vs, h1, h2, h3, h4⟩ := h; exact ⟨a, vs, h1, h2, RelL.re h3, h4⟩
  | ownd t ks ds => obtain ⟨a, vs, o, h1, h2, h3, h4, h5⟩ := h; exact ⟨a, vs, o, h1, h2, h3, RelL.re h4, h5⟩
  | exc => exact h
/-- a body's run, told of what its caller wants -/
theorem body_post {Q : VK} {E : XK} {r : Option (Rs Fl)} (v : ∀ i, ¬isOwn s.sl i) (h : PostC N.base γ H (done r) Q E) : PostS N (fun cls d _ H' => E cls d H') { nx := fun _ H' => Q .non H', rt := Q } γ σ H s r := by
  have hw : ∀ a, Wr γ σ s.sl a → a ∈ γ.m := fun a w => by
    rcases w with z | ⟨i, z, _⟩
    · exact z
    · exact (v i z).elim
  cases r with
  | none => exact h
  | some q =>
    cases q with
    | exn q fs s' => exact fun γ' σ' H' r' x' => h γ' H' r'.hr.base (Xt.xc x' v r'.hr)
    | ok f s' =>
      cases f with
      | nx => exact fun γ' σ' H' r' x' => h γ' H' .non r'.hr.base (Xt.xc x' v r'.hr) rfl
      | bk => exact h.elim
      | ct => exact h.elim
      | rt w => exact fun γ' σ' H' x r' x' rel => h γ' H' x r'.hr.base (Xt.xc x' v r'.hr) (rel.base.out hw x'.pre)
/-- a def's entry -/
theorem begin_get {fd : Fd} {ds : List Kb.D} {i : Nat} {v : Sl} (h : (begin_ fd ds)[i]? = some (some v)) : ∃ d, ds[i]? = some d ∧ v = .val d := by
  unfold begin_ at h
  by_cases c : i < ds.length
  · rw [List.getElem?_append_left (by simpa using c), List.getElem?_map, List.getElem?_eq_getElem c] at h
    cases h
    exact ⟨_, List.getElem?_eq_getElem c, rfl⟩
  · rw [List.getElem?_append_right (by simpa using c)] at h
    exact absurd h (by
      rw [List.getElem?_replicate]
      split <;> simp)
theorem SR.start {fd : Fd} {ds : List Kb.D} {vs : List V} {Ns : List Str} (hr : HR N γ H hp) (rel : RelL N γ H ds vs) (hn : fd.ns = Ns.length) : SR N γ (L2.start Ns vs) H ⟨begin_ fd ds, hp⟩ := by
  have hv : allV (begin_ fd ds) := fun i v h => let ⟨d, _, e⟩ := begin_get h; ⟨d, e⟩
  refine ⟨hr, ?_, fun i d h => ?_, fun i xs h => (hv.own (.inl ⟨xs, h⟩)).elim, fun i t ks ds h => (hv.own (.inr ⟨t, ks, ds, h⟩)).elim, fun i j a h _ => (hv.own h).elim, fun i a h => (hv.own h).elim, fun i h => by
    obtain ⟨d, e⟩ := hv i _ h
    cases e⟩
  · show (begin_ fd ds).length = _
    unfold begin_ L2.start
    simp [rel.length, hn]
  · obtain ⟨d', e1, e2⟩ := begin_get h
    cases e2
    obtain ⟨v, e3, e4⟩ := rel.get e1
    refine ⟨v, ?_, e4⟩
    unfold L2.start
    have hl := (List.getElem?_eq_some_iff.mp e3).1
    rw [List.getElem?_append_left (by simpa using hl), List.getElem?_map, e3]
    rfl
/-! ### lambdas -/
def ThOk (N : Cn) (γ0 : Gh) (H0 : Hp) (tl : XK → Hp → VK → Prop) (tf : List Ob → Option Rf) : Prop := ∀ (γ : Gh) (H : Hp) (hp : List Ob) (Q : VK) (E : XK), HR N γ H hp → Keep γ0 H0 γ H → PostC N γ H (tf hp) Q E → tl E H Q
def TTw (N : Cn) (g : Th → List Ob → Option Rf) : (XK → Hp → VK → Prop) → Hp → VK → Prop := fun tl H Q => ∃ γ hp tf, HR N γ H hp ∧ ThOk N γ H tl tf ∧ PostC N γ H (g (some tf) hp) Q (fun _ _ _ => False)
theorem ext_al {H H1 : Hp} (e : LamX.ExtN H H1) (a : Addr) (n : Nn H1 a) : Nn H a := fun o h => by
  by_cases c : ∃ ps, o = .tbl ps
  · exact c
  · exact n o (e a o h fun ps z => c ⟨ps, z⟩)
/-- code objects have come -/
theorem SR.kept {H1 : Hp} (r : SR N γ σ H s) (e : LamX.ExtN H H1) (t : LamX.Tabs N.T H1) : ∃ γ1, SR N γ1 σ H1 s ∧ Xe γ σ H s γ1 H1 s := by
  have ot : ∀ {i : Nat} {a : Addr}, isOwn s.sl i → σ[i]? = some (some (.ref a)) → ∃ o, H a = some o ∧ (∀ ps, o ≠ .tbl ps) ∧ ∀ c q, o ≠ LamX.CodeO c q := fun {i a} h ea => by
    rcases h with ⟨xs, h⟩ | ⟨t, ks, ds, h⟩
    · obtain ⟨a', vs, q1, q2, _⟩ := r.own i xs h
      rw [ea] at q1; cases q1; exact ⟨_, q2, fun _ z => (nomatch z), fun _ _ z => nomatch z⟩
    · obtain ⟨a', vs, u, q1, q3, q2, _⟩ := r.ownd i t ks ds h
      rw [ea] at q1; cases q1; exact ⟨_, q2, dicO_ne q3, dicO_nc q3⟩
  have K : Keep γ H ⟨γ.m, fun a => γ.F a ∨ ∃ q, H1 a = some (LamX.CodeO a q)⟩ H1 := ⟨fun _ _ h => h, fun _ h => .inl h, fun a o _ h t => .inl (e a o h t)⟩
  refine ⟨⟨γ.m, fun a => γ.F a ∨ ∃ q, H1 a = some (LamX.CodeO a q)⟩, ?_, ?_⟩
  · refine ⟨⟨r.hr.nd, r.hr.len, fun k xs h => ?_, fun a ha z => ?_, fun a ha n => ?_, t, r.hr.kb.trans K, fun a q h => .inr ⟨q, h⟩⟩, r.len, fun i d h => ?_, fun i xs h => ?_, fun i t ks ds h => ?_, r.sep, fun i a h e' => ?_, r.exc⟩
    · obtain ⟨a, vs, h1, h2, h3⟩ := r.hr.at_ k xs h
      exact ⟨a, vs, h1, e a _ h2 (fun _ z => nomatch z), h3.keep K⟩
    · rcases z with z | ⟨q, z⟩
      · exact r.hr.nf a ha z
      · obtain ⟨vs, hm⟩ := r.hr.m_at ha
        rw [e a _ hm (fun _ z => nomatch z)] at z
        cases z
    · rcases ha with z | ⟨q, z⟩
      · exact r.hr.fz a z (ext_al e a n)
      · exact n.no z (fun _ z => nomatch z)
    · obtain ⟨v, g1, g2⟩ := r.val i d h
      exact ⟨v, g1, g2.keep K⟩
    · obtain ⟨a, vs, g1, g2, g3⟩ := r.own i xs h
      exact ⟨a, vs, g1, e a _ g2 (fun _ z => nomatch z), g3.keep K⟩
    · obtain ⟨a, vs, o, g1, g2, g3, g4⟩ := r.ownd i t ks ds h
      exact ⟨a, vs, o, g1, g2, e a _ g3 (dicO_ne g2), g4.keep K⟩
    · obtain ⟨n1, n2⟩ := r.nf i a h e'
      refine ⟨fun z => ?_, n2⟩
      rcases z with z | ⟨q, z⟩
      · exact n1 z
      · obtain ⟨o, o1, o2, o3⟩ := ot h e'
        rw [e a o o1 o2] at z
        exact o3 _ _ (Option.some.inj z)
  · refine ⟨fun _ _ h => h, fun _ h => .inl h, fun a o h _ t => .inl (e a o h t), fun a h => .inl h, fun a h => ?_, ext_al e, fun i h => h⟩
    rcases h with z | ⟨q, z⟩
    · exact .inl z
    · by_cases c : Nn H a
      · exact .inr (.inr c)
      · left
        have : ∃ o, H a = some o ∧ ∀ ps, o ≠ .tbl ps := by
          refine Classical.byContradiction fun k => c fun o ho => ?_
          refine Classical.byContradiction fun k2 => k ⟨o, ho, fun ps z => k2 ⟨ps, z⟩⟩
        obtain ⟨o, ho, hn⟩ := this
        have := e a o ho hn
        rw [z] at this
        cases this
        exact r.hr.cf a q ho
theorem allV_hid (l : List (Option Sl)) : allV (hidO l) := by
  intro i v h
  unfold hidO at h
  rw [List.getElem?_map] at h
  cases e : l[i]? with
  | none => rw [e] at h; cases h
  | some o =>
    rw [e] at h
    cases o with
    | none => cases h
    | some w => cases w <;> first | (cases h; exact ⟨_, rfl⟩) | cases h
theorem hid_some {l : List (Option Sl)} {i : Nat} {v : Sl} (h : (hidO l)[i]? = some (some v)) : l[i]? = some (some v) := by
  unfold hidO at h
  rw [List.getElem?_map] at h
  cases e : l[i]? with
  | none => rw [e] at h; cases h
  | some o =>
    rw [e] at h
    cases o with
    | none => cases h
    | some w => cases w <;> first | (cases h; rfl) | cases h
theorem SR.hid (r : SR N γ σ H s) : SR N γ σ H ⟨hidO s.sl, s.hp⟩ := by
  have hv := allV_hid s.sl
  refine ⟨r.hr, ?_, fun i d h => r.val i d (hid_some h), fun i xs h => (hv.own (.inl ⟨xs, h⟩)).elim, fun i t ks ds h => (hv.own (.inr ⟨t, ks, ds, h⟩)).elim, fun i j a h _ => (hv.own h).elim, fun i a h => (hv.own h).elim, fun i h => r.exc i (hid_some h)⟩
  show (hidO s.sl).length = _
  unfold hidO
  simp [r.len]
end
section
variable {X : Cx} {N : Cn} {W : WX} {e : Expr} {pos p1 p2 : Pos} {mth : M Kb.D}
/-- x(lambda: body) -/
theorem ex_wcall {g : Th → List Ob → Option Rf} {x a : Str} {ga c P : Addr} {k : Nat} {pg : Arguments} {bg : List Stmt} {sg : Scope} {dV kV doc pm cdv ct oc : Value} {an od : Option Addr} {osl : Array (Option Value)} {Ng : List Str}
    {params : Arguments} {body : Expr} {scope : Scope} {lpos : Pos} (hg : Gl X x) (hm : X.mg x = some (.ref ga)) (hk : PySem.W.keepIn X.K (.ref ga) = true)
    (lk : X.K.lookup ga = some ⟨oc, od, .func (PySem.W.fnOf x x pg bg sg dV kV doc pm an cdv ct), osl⟩) (hcg : PySem.W.codeIn X.K cdv x = true) (hb : L2.Binds X.K (PySem.W.fnOf x x pg bg sg dV kV doc pm an cdv ct) [a] []) (Sg : FnScope Ng [a] sg) (hNg : Ng[0]? = some a) (hva : Vis sg a)
    (hG : LamX.GivesTo X Ng x sg ga cdv bg a (X.env.qual ++ "<lambda>") (TTw N.base g))
    (TB : LamX.TabB X.base X.mg c P) (hcode : X.env.code = .ref c) (hmT : (P, X.env.qual ++ "<lambda>") ∈ N.T) (hu : ∀ p ∈ N.T, p.1 = P → p.2 = X.env.qual ++ "<lambda>") (hr : Room (k + 2) X.A) (L : LamX.LamS X.env.scope scope) (hdef : defaultsOf params X.env = ([], []))
    (hbind : ∀ (q : Str) (cl : List (Str × Addr)) (pm cv ctv : Value), bindArgs (PySem.W.kla_fn "<lambda>" q params body scope cl pm cv ctv) ⟨[], []⟩ = pure [])
    (hbody : ∀ (A : Around) (outer : List Env) (s : Shared) (H : Hp) (E : XK) (f c' : Addr), Room k (A.deeper (LamX.lamEnv X scope s.heap.objs.size f c')) → PE (LamX.lamCx X A outer s H E scope f c') body (TT' N (fun cls d _ H' => E cls d H') (RD N) mth))
    (hdb : (x == ("__debug__" : Str)) = false) (hd : (a == ("__debug__" : Str)) = false) (hcd : (a == ("__classdict__" : Str)) = false) :
    PE X (.Call (.Name x p1) [.Lambda params body scope lpos] [] pos) (TT' N W (RX N True) (wcallM g mth)) := by
  refine (LamX.pe_lamcall (t := fun E => TT' N (fun cls d _ H' => E cls d H') (RD N) mth) hg hm hk lk hcg hb Sg hNg hva hG TB hcode hmT hu hr L hdef hbind hbody hdb hd hcd).imp fun σ H Q ⟨γ, s, r, h⟩ => ⟨r.hr.tabs, fun H1 eN t1 => ?_⟩
  obtain ⟨γ1, r1, x1⟩ := r.kept eN t1
  have hv := allV_hid s.sl
  have r1h := r1.hid
  have no : ∀ {hp : List Ob} (i : Nat), ¬isOwn (⟨hidO s.sl, hp⟩ : S).sl i := fun i z => hv.own z
  unfold wcallM at h
  refine ⟨γ1, s.hp, thk mth (hidO s.sl), r1.hr.base, fun γ' H' hp' Q' E' hr' k' hp => ?_, ?_⟩
  · -- the lambda's body
    have hr2 : HR N γ' H' hp' := r1.hr.unbase hr' k'
    have r2 : SR N γ' σ H' ⟨hidO s.sl, hp'⟩ := r1h.vals hv k' hr2
    refine ⟨γ', _, r2, ?_⟩
    unfold thk at hp
    cases em : mth ⟨hidO s.sl, hp'⟩ with
    | none => rw [em] at hp; exact hp
    | some q =>
      rw [em] at hp
      cases q with
      | ok d s2 => exact fun γ2 H2 x r3 x3 rel => hp γ2 H2 x r3.hr.base (Xt.xc x3.ext no r3.hr) (Rel.re rel)
      | exn q fs s2 => exact fun γ2 σ2 H2 r3 x3 => hp γ2 H2 r3.hr.base (Xt.xc x3 no r3.hr)
  · cases hgv : g (some (thk mth (hidO s.sl))) s.hp with
    | none => rw [hgv] at h; exact h
    | some q =>
      rw [hgv] at h
      cases q with
      | exn q fs hp => exact h.elim
      | ret v hp =>
        intro γ2 H2 x hr2 x2 rel
        obtain ⟨r3, x3⟩ := r1.call x2 (r1.hr.unbase hr2 (x2.keep r1.hr))
        exact h γ2 H2 x r3 (x1.trans x3) (RX.late _ _ _ _ _ _ _ _ x1.al (fun a w => x1.ext.wr a (.inl w)) rel.unbase)
/-- the lambda that came as the first parameter, called -/
theorem ex_act {f c' : Addr} {q : Str} {tl : XK → Hp → VK → Prop} {tf : List Ob → Option Rf} (hx : N.exa 0 = some f) (hF : N.kg.F c') (hc : N.kh c' = some (LamX.CodeO c' q)) (ht : ThOk N.base N.kg N.kh tl tf)
    (act : ∀ E : XK, (∀ cls d (σ' : L2.St) H', E cls d H' → σ'.length = X.N.length → W cls d σ' H') → PE X e (fun σZ HZ Q => σZ[0]? = some (some (.ref f)) ∧ HZ c' = some (LamX.CodeO c' q) ∧ tl E HZ Q)) : PE X e (TT' N W (RX N True) (actM (some tf))) := by
  refine ⟨fun pins s0 σ H Q I ⟨γ, s, r, h⟩ => ?_⟩
  unfold actM at h
  cases es : s.sl[(0 : Nat)]? with
  | none => rw [es] at h; exact h.elim
  | some o =>
    rw [es] at h
    cases o with
    | none => exact h.elim
    | some w =>
      cases w with
      | exc =>
        obtain ⟨a, e1, e2⟩ := r.exc 0 es
        rw [hx] at e1
        cases e1
        refine (act (fun cls d H' => ∀ σ' : L2.St, σ'.length = X.N.length → W cls d σ' H') (fun cls d σ' H' h hl => h σ' hl)).run pins s0 σ H Q I ⟨e2, r.hr.kb.fr c' _ hF hc (fun _ z => nomatch z), ht γ H s.hp Q _ r.hr.base r.hr.kb ?_⟩
        dsimp only at h
        cases et : tf s.hp with
        | none => rw [et] at h; exact h
        | some q =>
          rw [et] at h
          cases q with
          | ret v hp =>
            intro γ' H' x hr xc rel
            obtain ⟨r2, x2⟩ := r.call xc (r.hr.unbase hr (xc.keep r.hr))
            exact h γ' H' x r2 x2 (RX.late _ _ _ _ _ _ _ _ (fun _ z => z) (fun _ z => .inl (.inl z)) rel.unbase)
          | exn q fs hp =>
            intro γ' H' hr xc
            have hv := allV_none s.sl.length
            have mk : ∀ σ' : L2.St, σ'.length = σ.length → SR N γ' σ' H' ⟨List.replicate s.sl.length none, hp⟩ := fun σ' hl =>
              ⟨r.hr.unbase hr (xc.keep r.hr), by simp [r.len, hl], fun i d h => let ⟨d, e⟩ := hv i _ h; absurd h (by rw [List.getElem?_replicate]; split <;> simp), fun i xs h => (hv.own (.inl ⟨xs, h⟩)).elim, fun i t ks ds h => (hv.own (.inr ⟨t, ks, ds, h⟩)).elim, fun i j a h _ => (hv.own h).elim, fun i a h => (hv.own h).elim, fun i h => by
                obtain ⟨d, e⟩ := hv i _ h
                cases e⟩
            have xt : ∀ σ' : L2.St, Xt γ σ H s γ' σ' H' ⟨List.replicate s.sl.length none, hp⟩ := fun σ' =>
              ⟨xc.pre, xc.fm, fun a o h n t => xc.fr a o h (fun z => n (.inl z)) t, fun a w => by
                rcases w with z | ⟨i, z, _⟩
                · exact (xc.mn a z).imp .inl id
                · exact (hv.own z).elim, fun a h => (xc.fn a h).imp id .inr, xc.al⟩
            have h : ∀ γ' σ' H', SR N γ' σ' H' ⟨List.replicate s.sl.length none, hp⟩ → Xt γ σ H s γ' σ' H' ⟨List.replicate s.sl.length none, hp⟩ → Air N W σ' q fs H' := h
            refine ⟨(h γ' σ H' (mk σ rfl) (xt σ)).1, fun σ' hl => (h γ' σ' H' (mk σ' (by rw [hl, I.len])) (xt σ')).2⟩
      | _ => exact h.elim
/-- a def that gets a lambda -/
theorem gives_of {Ng : List Str} {x a q : Str} {sg : Scope} {ga : Addr} {cdg : Value} {bg : List Stmt} {fd : Fd} {g : Th → List Ob → Option Rf} {mb : (List Ob → Option Rf) → M Fl} (hns : fd.ns = Ng.length) (h0 : 1 ≤ Ng.length)
    (hgv : ∀ tf hp, g (some tf) hp = done (mb tf ⟨beginT fd, hp⟩))
    (hbody : ∀ (f c' : Addr) (s : Shared) (H : Hp) (tl : XK → Hp → VK → Prop) (tf : List Ob → Option Rf) (kg : Gh), kg.F c' → H c' = some (LamX.CodeO c' q) → ThOk N.base kg H tl tf →
      (∀ (W : WX) (pn : List (Addr × Obj)) (xe : Value → Shared → Prop) (E : XK) (p1 p2 : Pos), Takes ((cxOf C8.CX0 X.prog X.w X.K X.mg X.base Ng x sg ga cdg X.A X.stack s H C8.E0).tr pn xe) W → (∀ cls d σ' H', E cls d H' → W cls d σ' H') →
        PE ((cxOf C8.CX0 X.prog X.w X.K X.mg X.base Ng x sg ga cdg X.A X.stack s H C8.E0).tr pn xe) (.Call (.Name a p1) [] [] p2) (fun σZ HZ Q => σZ[0]? = some (some (.ref f)) ∧ HZ c' = some (LamX.CodeO c' q) ∧ tl E HZ Q)) →
      PSs (cxOf C8.CX0 X.prog X.w X.K X.mg X.base Ng x sg ga cdg X.A X.stack s H C8.E0).nox bg (TS' ⟨N.K, N.w, N.cls, N.T, fun j => if j = 0 then some f else none, kg, H⟩ (fun _ _ _ _ => False) (mb tf))) :
    LamX.GivesTo X Ng x sg ga cdg bg a q (TTw N.base g) := by
  intro f c' s H Q tl act hc ⟨γ, hp, tf, hr, ht, hpc⟩
  refine ⟨_, hbody f c' s H tl tf γ (hr.cf c' q hc) hc ht act, γ, ⟨beginT fd, hp⟩, ?_, ?_⟩
  · have sl : ∀ (i : Nat) v, (beginT fd)[i]? = some (some v) → i = 0 ∧ v = .exc := fun i v h => by
      unfold beginT at h
      cases i with
      | zero => cases h; exact ⟨rfl, rfl⟩
      | succ i =>
        rw [List.getElem?_cons_succ, List.getElem?_replicate] at h
        split at h <;> cases h
    have no : ∀ i, ¬isOwn (beginT fd) i := fun i h => by
      rcases h with ⟨xs, h⟩ | ⟨t, ks, ds, h⟩
      · cases (sl i _ h).2
      · cases (sl i _ h).2
    refine ⟨⟨hr.nd, hr.len, fun k xs h => let ⟨a, vs, h1, h2, h3⟩ := hr.at_ k xs h; ⟨a, vs, h1, h2, RelL.re (N := N.base) h3⟩, hr.nf, hr.fz, hr.tabs, Keep.refl .., hr.cf⟩, ?_, fun i d h => (nomatch (sl i _ h).2), fun i xs h => (no i (.inl ⟨xs, h⟩)).elim, fun i t ks ds h => (no i (.inr ⟨t, ks, ds, h⟩)).elim, fun i j a h _ => (no i h).elim, fun i a h => (no i h).elim, fun i h => ?_⟩
    · show (beginT fd).length = _
      unfold beginT L2.start
      simp [hns]
    · obtain ⟨rfl, _⟩ := sl i _ h
      exact ⟨f, rfl, rfl⟩
  · rw [hgv] at hpc
    have no : ∀ i, ¬isOwn (⟨beginT fd, hp⟩ : S).sl i := fun i h => by
      have sl : ∀ (i : Nat) v, (beginT fd)[i]? = some (some v) → i = 0 ∧ v = .exc := fun i v h => by
        unfold beginT at h
        cases i with
        | zero => cases h; exact ⟨rfl, rfl⟩
        | succ i =>
          rw [List.getElem?_cons_succ, List.getElem?_replicate] at h
          split at h <;> cases h
      rcases h with ⟨xs, h⟩ | ⟨t, ks, ds, h⟩
      · cases (sl i _ h).2
      · cases (sl i _ h).2
    exact body_post (N := ⟨N.K, N.w, N.cls, N.T, fun j => if j = 0 then some f else none, γ, H⟩) no hpc
end
end Kb

set_option Elab.async false
set_option linter.all false
set_option maxRecDepth 100000
set_option maxHeartbeats 4000000
/-! KbCk: whether the small language's text is the program's text. -/
namespace Kb
open PySem
/-- names of the module -/
structure Tb where
  fn : List Str
  /-- constants -/
  ks : List Str
  /-- own exceptions -/
  exs : List Str
  /-- classes that are asked of, caught -/
  cat : List Str
  /-- defs that get a lambda -/
  th : Nat → Bool
  /-- defs that run where nothing is under way -/
  gd : Nat → Bool := fun _ => false
structure Sc where
  N : List Str
  sc : Scope
  fn : Option Scope := none
  calm : Bool := true
  top : Bool := true
  lam : Bool := true
  isx : Option Nat := none
  act : Bool := false
  gd : Bool := false
  /-- room for two calls more -/
  slk : Bool := false
def visC (sc : Scope) (x : Str) : Bool := match sc.names.lookup x with
  | some .local => true
  | some .cell => true
  | some .free => true
  | _ => false
def locC (sc : Scope) (x : Str) : Bool := match sc.names.lookup x with
  | some .local => true
  | some .cell => true
  | _ => false
def glC (sc : Scope) (x : Str) : Bool := decide (sc.names.lookup x = some .globalImplicit)
def ndC (x : Str) : Bool := !(x == ("__debug__" : Str)) && !(x == ("__classdict__" : Str))
def fnC (S : Sc) (x : Str) : Bool := (match S.fn with
  | none => true
  | some s => s.names.lookup x == some .cell) || decide (S.sc.names.lookup x = some .local)
def okV (S : Sc) (i : Nat) (e : Expr) : Bool := match e with
  | .Name x _ => decide (S.N[i]? = some x) && visC S.sc x && ndC x
  | _ => false
def okN (S : Sc) (i : Nat) (e : Expr) : Bool := match e with
  | .Name x _ => decide (S.N[i]? = some x) && locC S.sc x && fnC S x
  | _ => false
def okNs (S : Sc) : List Nat → List Expr → Bool
  | [], [] => true
  | i :: is, e :: es => okN S i e && okNs S is es
  | _, _ => false
def okTg (S : Sc) : Tg → Expr → Bool
  | .name i, e => okN S i e
  | .tup is, e => match e with
    | .Tuple xs _ _ => S.calm && okNs S is xs
    | _ => false
def okC (d : D) (e : Expr) : Bool := match e with
  | .Constant c _ _ => (match d, c with
    | .non, .none => true
    | .bl b, .bool k => b == k
    | .int i, .int j => decide (i = j)
    | .str l, .str x => decide (x = St l) && l.all fun c => decide (c < 0x110000)
    | _, _ => false)
  | _ => false
def blStr : Bl → Str
  | .len => "len" | .abs => "abs" | .int => "int" | .str => "str" | .repr => "repr" | .all => "all" | .any => "any" | .list => "list" | .tuple => "tuple"
  | .set => "set" | .dict => "dict" | .sorted => "sorted" | .max => "max" | .min => "min" | .sum => "sum" | .reprT => "repr"
def tyStr : Ty → Str
  | .int => "int" | .bool => "bool" | .str => "str" | .tuple => "tuple" | .list => "list" | .dict => "dict"
def mtStr : Mt → Str
  | .count => "count"
  | .countS => "count"
  | .index => "index"
  | .indexT => "index"
  | .join => "join"
  | .append => "append"
  | .extend => "extend"
  | .pop => "pop"
  | _ => ""
def blOk : Bl → Bool
  | .len => true | .abs => true | .int => true | .repr => true | .all => true | .any => true | .list => true | .tuple => true | .sorted => true | .dict => true | .set => true | .max => true | .min => true | .sum => true
  | _ => false
/-- in a comprehension's block -/
def Sc.blk (S : Sc) (scope : Scope) : Sc := { S with sc := L2.relS scope S.sc, fn := some scope, top := false, lam := false, isx := none, act := false, slk := false }
/-- in a lambda's body -/
def Sc.lamb (S : Sc) (scope : Scope) : Sc := { S with sc := scope, fn := some ⟨.function, [], false, false, []⟩, top := false, lam := false, isx := none, act := false, gd := false, slk := false }
def names (S : Sc) (own : List Nat) : List (Str × Nat) := own.filterMap fun i => (S.N[i]?).map fun x => (x, i)
def notComp : Expr → Bool
  | .ListComp .. => false
  | .SetComp .. => false
  | .DictComp .. => false
  | _ => true
def notTuple : Expr → Bool
  | .Tuple .. => false
  | _ => true
def isTuple : Expr → Bool
  | .Tuple .. => true
  | _ => false
def swS (sc : Scope) (ts vs : List Expr) : Option (Option (List Str)) :=
  if !(ts.length == 2 || ts.length == 3) || vs.length != ts.length then some none
  else if vs.any (fun | .Starred .. => true | _ => false) then some none
  else
    let line := (ts.head?.map (·.pos.line)).getD 0
    let names := ts.filterMap fun
      | .Name id pos => if sc.names.lookup id == some .local && pos.line == line then some id else none
      | _ => none
    if names.length != ts.length || names.eraseDups.length != names.length then some none
    else if vs.all (foldedForSure 8) then some none
    else if vs.all (constantsAlone 8) then none
    else some (some names)
def okSw (sc : Scope) (t v : Expr) : Bool := match t, v with
  | .Tuple ts _ _, .Tuple vs _ _ => decide (swS sc ts vs = some none)
  | _, _ => notTuple v
def isGl : Ex → Bool
  | .glob _ => true
  | _ => false
mutual
def okE (T : Tb) : Bool → Sc → Ex → Expr → Bool
  | _, S, .const d, e => okC d e
  | _, S, .glob i, e => (match e with
    | .Name x _ => decide (T.ks[i]? = some x) && glC S.sc x && ndC x
    | _ => false)
  | _, S, .var i, e => okV S i e
  | _, S, .tup es, e => (match e with
    | .Tuple xs _ _ => okEs T S es xs && decide (xs.length ≤ 1000)
    | _ => false)
  | _, S, .lst es, e => (match e with
    | .List xs _ => okEs T S es xs && decide (xs.length ≤ 1000)
    | _ => false)
  | _, S, .lstH es, e => (match e with
    | .List xs _ => okEs T S es xs && decide (xs.length ≤ 1000)
    | _ => false)
  | _, S, .dic t ks vs, e => (match e with
    | .Dict [] [] _ => !t && (match ks, vs with
      | .nil, .nil => true
      | _, _ => false)
    | _ => false)
  | _, S, .bin op a b, e => (match e with
    | .BinOp x o y _ => decide (o = bo op) && okE T false S a x && okE T false S b y
    | _ => false)
  | _, S, .neg a, e => (match e with
    | .UnaryOp .USub x _ => okE T false S a x
    | _ => false)
  | t, S, .not a, e => (match e with
    | .UnaryOp .Not x _ => okE T t S a x
    | _ => false)
  | t, S, .and a b, e => (match e with
    | .BoolOp .And (x :: y :: rest) p => okE T t S a x && (match rest with
      | [] => !t && okE T t S b y || t && okE T t S b y
      | z :: zs => okE T t S b (.BoolOp .And (y :: z :: zs) p))
    | _ => false)
  | t, S, .or a b, e => (match e with
    | .BoolOp .Or (x :: y :: rest) p => okE T t S a x && (match rest with
      | [] => !t && okE T t S b y || t && okE T t S b y
      | z :: zs => okE T t S b (.BoolOp .Or (y :: z :: zs) p))
    | _ => false)
  | _, S, .cmp op a b, e => (match e with
    | .Compare x [o] [y] _ => decide (o = co op) && okE T false S a x && okE T false S b y && notSet y
    | _ => false)
  | _, S, .chain o1 o2 a b c, e => (match e with
    | .Compare x [p1, p2] [y, z] _ => decide (p1 = co o1) && decide (p2 = co o2) && okE T false S a x && okE T false S b y && okE T false S c z && notSet y && notSet z
    | _ => false)
  | t, S, .ite c a b, e => (match e with
    | .IfExp x y z _ => !t && okE T true S c x && okE T false S a y && okE T false S b z
    | _ => false)
  | _, S, .idx a i, e => (match e with
    | .Subscript x y _ => okE T false S a x && okE T false S i y && notSlice y
    | _ => false)
  | _, S, .sl a lo hi, e => (match e with
    | .Subscript x (.Slice l h none _) _ => okE T false S a x && okO T S lo l && okO T S hi h
    | _ => false)
  | _, S, .rev a, e => (match e with
    | .Subscript x (.Slice none none (some (.UnaryOp .USub (.Constant (.int 1) _ _) _)) _) _ => okE T false S a x
    | _ => false)
  | _, S, .call f es, e => (match e with
    | .Call (.Name x _) xs [] _ => S.calm && decide (T.fn[f]? = some x) && !T.th f && glC S.sc x && ndC x && (!T.gd f || S.gd) && okEs T S es xs
    | _ => false)
  | _, S, .blt b es, e => (match e with
    | .Call (.Name x _) (y :: ys) [] _ => S.calm && (blOk b || (decide (b = .reprT) && S.gd)) && decide (x = blStr b) && glC S.sc x && okEs T S es (y :: ys)
    | _ => false)
  | _, S, .mth m o es, e => (match e with
    | .Call (.Attribute x nm ap) [y] [] p => okE T false S o x && okEs T S es [y] && baseOk x && (ap.endLine == p.line) && ((mtName m).isSome || (decide (m = .indexT) && isGl o)) && decide (nm = mtStr m)
    | _ => false)
  | _, S, .isi a t, e => (match e with
    | .Call (.Name f _) [x, .Name y _] [] _ => decide (f = ("isinstance" : Str)) && glC S.sc f && decide (y = tyStr t) && glC S.sc y && okE T false S a x && notStar x
    | _ => false)
  | _, S, .isx i k, e => (match e with
    | .Call (.Name f _) [.Name x _, .Name y _] [] _ => decide (S.isx = some i) && decide (f = ("isinstance" : Str)) && glC S.sc f && decide (S.N[i]? = some x) && visC S.sc x && ndC x && decide (T.cat[k]? = some y) && glC S.sc y && ndC y
    | _ => false)
  | _, S, .comp elt tg it cond own, e => (match e with
    | .ListComp x [⟨t, i, ifs, a⟩] scope _ => S.calm && decide (a = 0) && L2.blkC S.N S.sc scope (names S own) && decide ((names S own).map (·.2) = own) && (tgSlots tg).all (fun j => decide (j ∈ own)) && okI T S it i t && notSet i &&
      okTg (S.blk scope) tg t && okD T (S.blk scope) cond ifs && okE T false (S.blk scope) elt x
    | _ => false)
  | _, S, .wcall f th, e => (match e with
    | .Call (.Name x _) [.Lambda ⟨[], [], none, [], [], none, []⟩ b scope _] [] _ => S.lam && S.calm && decide (T.fn[f]? = some x) && T.th f && glC S.sc x && ndC x && LamX.lamSB S.sc scope && okE T false (S.lamb scope) th b
    | _ => false)
  | _, S, .act i, e => (match e with
    | .Call (.Name x _) [] [] _ => S.act && decide (i = 0) && decide (S.N[0]? = some x)
    | _ => false)
  | _, S, .lrange t es, e => (match e with
    | .Call (.Name x _) [.Call (.Name r _) (y :: ys) [] _] [] _ => S.calm && decide (x = lrN t) && glC S.sc x && decide (r = ("range" : Str)) && glC S.sc r && okEs T S es (y :: ys) && decide (ys.length ≤ 1)
    | _ => false)
  | _, S, .sortk f e, x => (match x with
    | .Call (.Name s _) [y] [⟨some k, .Name z _, _⟩] _ => S.calm && S.slk && decide (s = ("sorted" : Str)) && glC S.sc s && decide (k = ("key" : Str)) && decide (T.fn[f]? = some z) && !T.th f && !T.gd f && glC S.sc z && ndC z && okE T false S e y && notStar y
    | _ => false)
def okEs (T : Tb) : Sc → Exs → List Expr → Bool
  | _, .nil, xs => xs.isEmpty
  | S, .cons e es, xs => (match xs with
    | x :: xs => okE T false S e x && notStar x && okEs T S es xs
    | [] => false)
def okO (T : Tb) : Sc → Exo → Option Expr → Bool
  | _, .none, o => o.isNone
  | S, .some e, o => (match o with
    | some x => okE T false S e x
    | none => false)
def okD (T : Tb) : Sc → Exo → List Expr → Bool
  | _, .none, xs => xs.isEmpty
  | S, .some e, xs => (match xs with
    | [x] => okE T true S e x
    | _ => false)
def okI (T : Tb) : Sc → It → Expr → Expr → Bool
  | S, .ex e, x, _ => okE T false S e x
  | S, .range es, x, _ => (match x with
    | .Call (.Name f _) (y :: ys) [] _ => decide (f = ("range" : Str)) && glC S.sc f && okEs T S es (y :: ys) && decide (ys.length ≤ 1)
    | _ => false)
  | S, .zip es, x, t => (match x with
    | .Call (.Name f _) [y, z] [] _ => decide (f = ("zip" : Str)) && glC S.sc f && okEs T S es [y, z] && isTuple t
    | _ => false)
  | S, .enum e, x, t => (match x with
    | .Call (.Name f _) [y] [] _ => decide (f = ("enumerate" : Str)) && glC S.sc f && okE T false S e y && isTuple t && notStar y
    | _ => false)
  | _, .zips _, _, _ => false
  | _, .items _, _, _ => false
end
/-- name = a comprehension: whether the name is stored within -/
def swC (S : Sc) (x : Str) (px : Pos) (v : Expr) : Bool := match v with
  | .ListComp _ _ scope p => S.sc.names.lookup x == some .local && px.line == p.line && !(scope.names.any fun (n, k) => n == x && (k == .local || k == .cell))
  | _ => false
def noSC : Expr → Bool
  | .SetComp .. => false
  | .DictComp .. => false
  | _ => true
def okM : Mt → List Expr → Bool
  | .append, [_] => true
  | .extend, [_] => true
  | .pop, [] => true
  | _, _ => false
mutual
def okS (T : Tb) : Sc → Stm → Stmt → Bool
  | S, .set i e, st => (match st with
    | .Assign [.Name x p] v q => okN S i (.Name x p) && okE T false S e v && noSC v && (!swC S x p v || S.calm)
    | .AugAssign (.Name x p) .Add v q => okN S i (.Name x p) && (match e with
      | .bin .iadd (.var j) e2 => decide (j = i) && okE T false S e2 v
      | _ => false)
    | _ => false)
  | S, .setDc i ek ev tg it cond own, st => (match st with
    | .Assign [.Name x px] (.DictComp kx vx [⟨t, i', ifs, a⟩] scope p2) q => S.calm && decide (a = 0) && L2.blkC S.N S.sc scope (names S own) && decide ((names S own).map (·.2) = own) && (tgSlots tg).all (fun j => decide (j ∈ own)) && okI T S it i' t && notSet i' &&
      okTg (S.blk scope) tg t && okD T (S.blk scope) cond ifs && okE T false (S.blk scope) ek kx && okE T false (S.blk scope) ev vx && decide (S.N[i]? = some x) && decide (S.sc.names.lookup x = some .local) && (px.line == p2.line) && !(scope.names.any fun (n, k) => n == x && (k == .local || k == .cell))
    | _ => false)
  | S, .unp is e, st => (match st with
    | .Assign [.Tuple xs k p] v _ => okTg S (.tup is) (.Tuple xs k p) && okE T false S e v && okSw S.sc (.Tuple xs k p) v
    | _ => false)
  | S, .par is es, st => (match st with
    | .Assign [.Tuple xs k p] (.Tuple vs k2 p2) _ => S.calm && okNs S is xs && okEs T S es vs && decide ((swS S.sc xs vs).isSome) && decide (is.Nodup) && (match xs with
      | [.Name x _, .Name y _] => decide (swS S.sc xs vs = some (some [x, y])) && decide (S.sc.names.lookup x = some .local) && decide (S.sc.names.lookup y = some .local)
      | [.Name x _, .Name y _, .Name z _] => decide (swS S.sc xs vs = some (some [x, y, z])) && decide (S.sc.names.lookup x = some .local) && decide (S.sc.names.lookup y = some .local) && decide (S.sc.names.lookup z = some .local)
      | _ => false)
    | _ => false)
  | S, .setIx v i e, st => (match st with
    | .Assign [.Subscript x y _] w _ => okV S v x && okE T false S i y && notSlice y && okE T false S e w
    | _ => false)
  | S, .expr e, st => (match st with
    | .Expr v _ => okE T false S e v && notComp v
    | _ => false)
  | S, .mut m v es t, st => (match st, t with
    | .Expr (.Call (.Attribute x nm ap) ys [] p) _, none => okV S v x && decide (nm = mtStr m) && (ap.endLine == p.line) && okEs T S es ys && okM m ys
    | .Assign [y] (.Call (.Attribute x nm ap) ys [] p) _, some tg => okTg S tg y && okV S v x && decide (nm = mtStr m) && (ap.endLine == p.line) && okEs T S es ys && okM m ys
    | _, _ => false)
  | S, .ret e, st => (match st, e with
    | .Return none _, .none => true
    | .Return (some v) _, .some e => okE T false S e v
    | _, _ => false)
  | S, .ifs c a b, st => (match st with
    | .If v x y _ => okE T true S c v && okSs T S a x && okSs T S b y
    | _ => false)
  | S, .for_ tg it body, st => (match st with
    | .For t i x [] _ => S.top && S.calm && okI T S it i t && notSet i && okTg S tg t && okSs T S body x
    | _ => false)
  | S, .while_ c body, st => (match st with
    | .While v x [] _ => S.top && okE T true S c v && okSs T S body x
    | _ => false)
  | S, .raise q es, st => (match st, es with
    | .Raise (some (.Call (.Name x _) [] [] _)) none _, .nil => S.calm && decide (T.exs[q]? = some x) && glC S.sc x && ndC x
    | _, _ => false)
  | S, .try_ body c i suite, st => (match st with
    | .Try b [.ExceptHandler (some (.Name x _)) n (y :: ys) _] [] [] _ => S.top && S.isx.isNone && decide (T.cat[c]? = some x) && glC S.sc x && ndC x && okSs T S body b &&
      okSs T { S with calm := false, top := false, lam := false, act := false, isx := i } suite (y :: ys) && (match n, i with
        | none, none => true
        | some n, some i => decide (S.N[i]? = some n) && decide (S.sc.names.lookup n = some .local)
        | _, _ => false)
    | _ => false)
  | _, .pass, st => (match st with
    | .Pass _ => true
    | _ => false)
  | _, .brk, st => (match st with
    | .Break _ => true
    | _ => false)
  | _, .cnt, st => (match st with
    | .Continue _ => true
    | _ => false)
def okSs (T : Tb) : Sc → Stms → List Stmt → Bool
  | _, .nil, xs => xs.isEmpty
  | S, .cons st ss, xs => (match xs with
    | x :: xs => okS T S st x && okSs T S ss xs
    | [] => false)
end
end Kb

set_option Elab.async false
set_option linter.all false
set_option maxRecDepth 100000
set_option maxHeartbeats 4000000
/-! KbSd: what is checked holds. -/
namespace Kb
open PySem PySem.Spec PyProof.Rows L2 TL
structure TbOk (T : Tb) (P : Program) (w : World) (K : Fg) (mg : Str → Option Value) (base : Heap) (N : Cn) (c : Cfg) (k : Nat) : Prop where
  eK : N.K = K
  ew : N.w = w
  blt : ∀ b, mg (blStr b) = none
  ty : ∀ t, mg (tyStr t) = none
  rng : mg "range" = none
  zip : mg "zip" = none ∧ mg "enumerate" = none
  isi : mg "isinstance" = none
  ks : ∀ (i : Nat) x d, T.ks[i]? = some x → c.ks[i]? = some d → ∃ v u, mg x = some u ∧ RelV v u ∧ (∀ γ H, Rel N γ H d v) ∧ KT K d v
  fn : ∀ (i : Nat) x, T.fn[i]? = some x → T.th i = false → ∃ f fd ps, FnG (T.gd i) P w K mg base k f fd ps (spOf N.base (fun ds hp => c.call i ds none hp)) ∧ mg x = some (.ref f) ∧ PySem.W.keepIn K (.ref f) = true ∧ Binds K fd ps []
  ex : ∀ (q : Nat) x, T.exs[q]? = some x → ∃ B ni ii bm, ∃ _ : ExcBaseFacts B ni ii bm, PySem.W.excIn K (N.cls q) bm ni = true ∧ mg x = some (.ref (N.cls q)) ∧ PySem.W.keepIn K (.ref (N.cls q)) = true ∧ ∀ (M : Model) (h : Heap), K.In h → PySem.W.Looks M h (isSubtype (.ref (N.cls q)) (.type "BaseException")) true ∧ PySem.W.Looks M h (typeOf (.ref (N.cls q))) (.type "type")
  cat : ∀ (j : Nat) x, T.cat[j]? = some x → ∃ cv cu, (mg x = some cu ∨ (mg x = none ∧ bootBuiltins x = some cu ∧ x ≠ "__name__")) ∧ RelV cv cu ∧ (∀ u, RelV cv u → u = cu) ∧ (∀ q, PySem.W.kitOne K (.ref (N.cls q)) cu = some (c.sub q j)) ∧ ∀ q, PySem.W.exmOne K (.ref (N.cls q)) cu = some (c.sub q j)
  excC : ∀ q, ExcC K (N.cls q)
  th : ∀ (j : Nat) x, T.fn[j]? = some x → T.th j = true → ∃ (a : Str) (ga : Addr) (pg : Arguments) (bg : List Stmt) (sg : Scope) (dV kV doc pm cdv ct oc : Value) (an od : Option Addr) (osl : Array (Option Value)) (Ng : List Str),
    mg x = some (.ref ga) ∧ PySem.W.keepIn K (.ref ga) = true ∧ K.lookup ga = some ⟨oc, od, .func (PySem.W.fnOf x x pg bg sg dV kV doc pm an cdv ct), osl⟩ ∧ PySem.W.codeIn K cdv x = true ∧ L2.Binds K (PySem.W.fnOf x x pg bg sg dV kV doc pm an cdv ct) [a] [] ∧
    FnScope Ng [a] sg ∧ Ng[0]? = some a ∧ Vis sg a ∧ ndC a = true ∧ ∀ (Y : Cx) (q : Str), Y.prog = P → Y.w = w → Y.K = K → Y.mg = mg → Y.base = base → Room (k + 2) Y.A → LamX.GivesTo Y Ng x sg ga cdv bg a q (TTw N.base (fun t hp => c.call j [] t hp))
structure Ctx (T : Tb) (X : Cx) (N : Cn) (W : WX) (c : Cfg) (k : Nat) (S : Sc) : Prop where
  tb : TbOk T X.prog X.w X.K X.mg X.base N c k
  names : X.N = S.N
  nd : X.N.Nodup
  sc : X.env.scope = S.sc
  kind : X.env.scope.kind = .function
  fn : ∀ x, fnC S x = true → X.fn x = true ∨ X.env.scope.names.lookup x = some .local
  calm : S.calm = true → X.calm = true
  room : S.calm = true → Room (k + if S.lam || S.slk then 2 else 0) X.A
  un : X.A.units + 65 < cLine
  gd : S.gd = true → X.A.guards = some []
  tk : Takes X W
  own : S.top = true → PassesOwn (model X.prog X.w) X.A X.env X.xe
  stk : S.top = true → X.stack = X.env :: X.outer ∧ X.env.frame = some X.env.locals
  isx : ∀ i, S.isx = some i → ∃ q, c.exc = some (q, []) ∧ ∀ a, N.exa i = some a → CallR X (.builtin "isinstance") (rIsE X.K (N.cls q) a)
  act : S.act = true → ∃ tf f c' q tl a, c.th = some tf ∧ N.exa 0 = some f ∧ N.kg.F c' ∧ N.kh c' = some (LamX.CodeO c' q) ∧ ThOk N.base N.kg N.kh tl tf ∧ S.N[0]? = some a ∧ ∀ (W' : WX) (pn : List (Addr × Obj)) (xe : Value → Shared → Prop) (E : XK) (p1 p2 : Pos), Takes (X.tr pn xe) W' →
    (∀ cls d σ' H', E cls d H' → W' cls d σ' H') → PE (X.tr pn xe) (.Call (.Name a p1) [] [] p2) (fun σZ HZ Q => σZ[0]? = some (some (.ref f)) ∧ HZ c' = some (LamX.CodeO c' q) ∧ tl E HZ Q)
  lam : S.lam = true → ∃ cd P, LamX.TabB X.base X.mg cd P ∧ X.env.code = .ref cd ∧ (P, X.env.qual ++ "<lambda>") ∈ N.T ∧ ∀ p ∈ N.T, p.1 = P → p.2 = X.env.qual ++ "<lambda>"
/-! ### what the parts of the check say -/
theorem visC_ok {sc : Scope} {x : Str} (h : visC sc x = true) : Vis sc x := by
  unfold visC at h
  split at h
  · rename_i e; exact .inl e
  · rename_i e; exact .inr (.inl e)
  · rename_i e; exact .inr (.inr e)
  · cases h
theorem locC_ok {sc : Scope} {x : Str} (h : locC sc x = true) : Loc sc x := by
  unfold locC at h
  split at h
  · rename_i e; exact .inl e
  · rename_i e; exact .inr e
  · cases h
theorem ndC_ok {x : Str} (h : ndC x = true) : (x == ("__debug__" : Str)) = false ∧ (x == ("__classdict__" : Str)) = false := by
  unfold ndC at h
  simpa using h
section
variable {T : Tb} {X : Cx} {N : Cn} {W : WX} {c : Cfg} {k : Nat} {S : Sc} {e : Expr} {pos p1 p2 : Pos}
theorem Ctx.gl (C : Ctx T X N W c k S) {x : Str} (h : glC S.sc x = true) : Gl X x := by
  unfold glC at h
  unfold Gl Env.kindOf
  rw [C.sc]
  exact of_decide_eq_true h
theorem Ctx.room0 (C : Ctx T X N W c k S) (h : S.calm = true) : Room k X.A := (C.room h).mono (by omega)
theorem Ctx.blk_kind (C : Ctx T X N W c k S) : X.env.blockKind = .function := by
  unfold Env.blockKind
  rw [C.kind]
  rfl
theorem okV_ok (C : Ctx T X N W c k S) {i : Nat} (h : okV S i e = true) : ∃ x p, e = .Name x p ∧ X.N[i]? = some x ∧ Vis X.env.scope x ∧ (x == ("__debug__" : Str)) = false ∧ (x == ("__classdict__" : Str)) = false := by
  unfold okV at h
  split at h
  · rename_i x p
    obtain ⟨h, h3⟩ := ands h
    obtain ⟨h1, h2⟩ := ands h
    obtain ⟨h4, h5⟩ := ndC_ok h3
    exact ⟨x, p, rfl, by rw [C.names]; exact of_decide_eq_true h1, by rw [C.sc]; exact visC_ok h2, h4, h5⟩
  · cases h
theorem okN_ok (C : Ctx T X N W c k S) {i : Nat} (h : okN S i e = true) : ∃ x p, e = .Name x p ∧ X.N[i]? = some x ∧ Loc X.env.scope x ∧ (X.fn x = true ∨ X.env.scope.names.lookup x = some .local) := by
  unfold okN at h
  split at h
  · rename_i x p
    obtain ⟨h, h3⟩ := ands h
    obtain ⟨h1, h2⟩ := ands h
    exact ⟨x, p, rfl, by rw [C.names]; exact of_decide_eq_true h1, by rw [C.sc]; exact locC_ok h2, C.fn x h3⟩
  · cases h
theorem okNs_ok (C : Ctx T X N W c k S) : ∀ {is : List Nat} {es : List Expr}, okNs S is es = true → PGs X es (TGn N is) ∧ es.length = is.length ∧ ∀ e ∈ es, ∃ x p, e = .Name x p
  | [], [], _ => ⟨tn_nil, rfl, fun e h => nomatch h⟩
  | [], _ :: _, h => by cases h
  | _ :: _, [], h => by cases h
  | i :: is, e :: es, h => by
    obtain ⟨h1, h2⟩ := ands (show (okN S i e && okNs S is es) = true from h)
    obtain ⟨x, p, rfl, hN, hx, hf⟩ := okN_ok C h1
    obtain ⟨g1, g2, g3⟩ := okNs_ok C h2
    refine ⟨tn_cons C.nd hN hx hf g1, by simp [g2], fun e he => ?_⟩
    rcases List.mem_cons.mp he with z | z
    · exact ⟨x, p, z⟩
    · exact g3 e z
theorem okTg_ok (C : Ctx T X N W c k S) {tg : Tg} (h : okTg S tg e = true) : PG X e (TGt N tg) := by
  cases tg with
  | name i =>
    obtain ⟨x, p, rfl, hN, hx, hf⟩ := okN_ok C h
    exact tg_name C.nd hN hx hf
  | tup is =>
    cases e with
    | Tuple xs k p =>
      obtain ⟨h1, h2⟩ := ands (show (S.calm && okNs S is xs) = true from h)
      obtain ⟨g1, g2, g3⟩ := okNs_ok C h2
      exact tg_tup C.tb.eK (C.calm h1) g1 g2 g3
    | _ => cases h
theorem okC_ok {d : Kb.D} (h : okC d e = true) : PE X e (TT' N W (RX N True) (pur (.val d))) ∧ plainT e = true := by
  unfold okC at h
  split at h
  · split at h
    · exact ⟨ex_non, rfl⟩
    · obtain rfl := eq_of_beq h
      exact ⟨ex_bl, rfl⟩
    · obtain rfl := of_decide_eq_true h
      exact ⟨ex_int, rfl⟩
    · obtain ⟨h1, h2⟩ := ands h
      refine ⟨ex_str (of_decide_eq_true h1) fun q hq => ?_, rfl⟩
      rw [List.all_eq_true] at h2
      exact of_decide_eq_true (h2 q hq)
    · cases h
  · cases h
theorem bl_boot (b : Bl) (h : blOk b = true) : bootBuiltins (blStr b) = some (blVal b) := by
  cases b <;> first | (cases h; done) | decide +kernel
theorem bl_name (b : Bl) : blStr b ≠ "__name__" ∧ (blStr b == ("__debug__" : Str)) = false := by
  cases b <;> decide +kernel
theorem ty_boot (t : Ty) : bootBuiltins (tyStr t) = some (.type (tyName t)) := by
  cases t <;> decide +kernel
theorem ty_nm (t : Ty) : tyStr t ≠ "__name__" ∧ (tyStr t == ("__debug__" : Str)) = false := by
  cases t <;> decide +kernel
theorem mt_str {m : Mt} {s : String} (h : mtName m = some s) : mtStr m = (s : Str) := by
  cases m <;> first | (cases h; rfl) | (cases h; done)
theorem noset_fold {i : Expr} {env : Env} (h : notSet i = true) : ∀ x, foldedSetIterable i env x = pure x := by
  intro x
  cases i <;> first | rfl | cases h
/-! ### blocks -/
theorem Ctx.blk (C : Ctx T X N W c k S) (scope : Scope) (hk : scope.kind = .function) (s : Shared) (H : Hp) (cl : List (Str × Addr)) (A : Addr) (fp : List Addr) : Ctx T (X.blk s H scope (compEnvC scope cl A X.env) fp) N WF c k (S.blk scope) where
  tb := C.tb
  names := C.names
  nd := C.nd
  sc := by show relS scope X.env.scope = relS scope S.sc; rw [C.sc]
  kind := hk
  fn := fun x h => by
    unfold fnC Sc.blk at h
    rcases Bool.or_eq_true _ _ ▸ h with h | h
    · exact .inl h
    · right
      show (relS scope X.env.scope).names.lookup x = some .local
      rw [C.sc]
      exact of_decide_eq_true h
  calm := C.calm
  room := fun h => C.room0 h
  un := C.un
  gd := C.gd
  tk := LamX.takes0
  own := fun h => nomatch h
  stk := fun h => nomatch h
  isx := fun i h => nomatch h
  act := fun h => nomatch h
  lam := fun h => nomatch h
end
end Kb

set_option Elab.async false
set_option linter.all false
set_option maxRecDepth 100000
set_option maxHeartbeats 4000000
/-! KbSe: expressions that are checked. -/
namespace Kb
open PySem PySem.Spec PyProof.Rows L2 TL
def nv : Ex → Prop
  | .var _ => False
  | _ => True
/-- what is known of a checked expression -/
structure OE (X : Cx) (N : Cn) (W : WX) (c : Cfg) (b : Bool) (ex : Ex) (x : Expr) : Prop where
  e : b = false → PE X x (TT' N W (RX N (nv ex)) (ev c ex))
  t : b = true → PT X x (TT' N W RB (testM (ev c ex)))
section
variable {T : Tb} {X : Cx} {N : Cn} {W : WX} {c : Cfg} {k : Nat} {S : Sc} {e : Expr} {pos p1 p2 : Pos} {t : Bool}
theorem OE.of {ex : Ex} (hK : N.K = X.K) (h : PE X e (TT' N W (RX N (nv ex)) (ev c ex))) (hp : plainT e = true) : OE X N W c t ex e := ⟨fun _ => h, fun _ => tx_plain hK h hp⟩
theorem OE.v (C : Ctx T X N W c k S) {ex : Ex} (h : OE X N W c false ex e) (hv : okE T false S ex e = true) : PE X e (TT' N W (RD N) (vOf ex (ev c ex))) := by
  have h := h.e rfl
  cases ex with
  | var i =>
    have hv : okV S i e = true := hv
    obtain ⟨x, p, rfl, h1, h2, h3, h4⟩ := okV_ok C hv
    exact ex_frz h1 h2 h3 h4
  | _ => exact ex_val h
theorem OE.o (C : Ctx T X N W c k S) {ex : Ex} (h : OE X N W c false ex e) (hv : okE T false S ex e = true) : PE X e (TT' N W (RX N True) (oOf ex (ev c ex))) := by
  have hh := h.e rfl
  cases ex with
  | var i => exact ex_store (h.v C hv)
  | _ => exact hh
/-- lists of expressions -/
structure OEs (X : Cx) (N : Cn) (W : WX) (c : Cfg) (es : Exs) (xs : List Expr) : Prop where
  d : PA X xs (TT' N W (RDs N) (evs c es))
  b : PA X xs (TT' N W (RRs N) (evb c es))
  o : PA X xs (TT' N W (RXs N) (evos c es))
  l : ∀ s ds s', evs c es s = some (.ok ds s') → ds.length = xs.length
  st : xs.all notStar = true
/-- what is walked -/
abbrev OI (X : Cx) (N : Cn) (W : WX) (c : Cfg) (it : Kb.It) (i tg : Expr) : Prop := PI X tg i (TT' N W (RI N) (evi c it))
theorem Ctx.lamb (C : Ctx T X N W c k S) {scope : Scope} (L : LamX.LamS X.env.scope scope) (A : Around) (outer : List Env) (s : Shared) (H : Hp) (E : XK) (f c' : Addr) (hr : Room k (A.deeper (LamX.lamEnv X scope s.heap.objs.size f c'))) :
    Ctx T (LamX.lamCx X A outer s H E scope f c') N (fun cls d _ H' => E cls d H') c k (S.lamb scope) where
  tb := C.tb
  names := C.names
  nd := C.nd
  sc := rfl
  kind := L.kind
  fn := fun x h => by
    unfold fnC Sc.lamb at h
    rcases Bool.or_eq_true _ _ ▸ h with h | h
    · cases h
    · exact .inr (of_decide_eq_true h)
  calm := fun _ => rfl
  room := fun _ => hr
  un := by
    have := hr.un
    show (A.deeper (LamX.lamEnv X scope s.heap.objs.size f c')).units + 65 < cLine
    omega
  gd := fun h => nomatch h
  tk := takes_of rfl rfl rfl rfl
  own := fun h => nomatch h
  stk := fun h => nomatch h
  isx := fun i h => nomatch h
  act := fun h => nomatch h
  lam := fun h => nomatch h
mutual
theorem sE (T : Tb) : ∀ (ex : Ex) {t : Bool} {S : Sc} {e : Expr} {X : Cx} {N : Cn} {W : WX} {c : Cfg} {k : Nat}, Ctx T X N W c k S → okE T t S ex e = true → OE X N W c t ex e
  | .const d, t, S, e, X, N, W, c, k, C, h => by
    have h : okC d e = true := h
    obtain ⟨h1, h2⟩ := okC_ok (X := X) (N := N) (W := W) h
    exact .of C.tb.eK h1 h2
  | .glob i, t, S, e, X, N, W, c, k, C, h => by
    cases e with
    | Name x p =>
      obtain ⟨h, h3⟩ := ands (show (decide (T.ks[i]? = some x) && glC S.sc x && ndC x) = true from h)
      obtain ⟨h1, h2⟩ := ands h
      refine .of C.tb.eK ?_ rfl
      have hx := of_decide_eq_true h1
      cases q : c.ks[i]? with
      | none =>
        refine ⟨fun pins s σ H Q I ⟨γ, st, r, hh⟩ => ?_⟩
        have hh : Post N W (RX N True) γ σ H st (lft (c.ks[i]?.map .val) st) Q := hh
        rw [q] at hh
        exact hh.elim
      | some d =>
        obtain ⟨v, u, g1, g2, g3, _⟩ := C.tb.ks i x d hx q
        have := ex_glob (N := N) (W := W) (pos := p) (C.gl h2) g1 g2 (ndC_ok h3).1 g3
        show PE X _ (TT' N W (RX N True) (lft (c.ks[i]?.map .val)))
        rw [q]
        exact this
    | _ => cases h
  | .var i, t, S, e, X, N, W, c, k, C, h => by
    obtain ⟨x, p, rfl, h1, h2, h3, h4⟩ := okV_ok C (show okV S i e = true from h)
    exact .of C.tb.eK (ex_var h1 h2 h3 h4) rfl
  | .tup es, t, S, e, X, N, W, c, k, C, h => by
    cases e with
    | Tuple xs kk p =>
      obtain ⟨h1, h2⟩ := ands (show (okEs T S es xs && decide (xs.length ≤ 1000)) = true from h)
      have o := sEs T es C h1
      exact .of C.tb.eK (ex_tup o.d o.l (Nat.le_trans (of_decide_eq_true h2) (by decide))) rfl
    | _ => cases h
  | .lst es, t, S, e, X, N, W, c, k, C, h => by
    cases e with
    | List xs p =>
      obtain ⟨h1, h2⟩ := ands (show (okEs T S es xs && decide (xs.length ≤ 1000)) = true from h)
      have o := sEs T es C h1
      exact .of C.tb.eK (ex_lst o.d o.l (Nat.le_trans (of_decide_eq_true h2) (by decide))) rfl
    | _ => cases h
  | .lstH es, t, S, e, X, N, W, c, k, C, h => by
    cases e with
    | List xs p =>
      obtain ⟨h1, h2⟩ := ands (show (okEs T S es xs && decide (xs.length ≤ 1000)) = true from h)
      have o := sEs T es C h1
      exact .of C.tb.eK (ex_lstH o.d o.l (Nat.le_trans (of_decide_eq_true h2) (by decide))) rfl
    | _ => cases h
  | .dic b ks vs, t, S, e, X, N, W, c, k, C, h => by
    cases e with
    | Dict as bs p =>
      cases as with
      | cons _ _ => cases h
      | nil =>
        cases bs with
        | cons _ _ => cases h
        | nil =>
          cases ks with
          | cons _ _ => cases vs <;> (cases b <;> cases h)
          | nil =>
            cases vs with
            | cons _ _ => cases b <;> cases h
            | nil =>
              cases b with
              | true => cases h
              | false => exact .of C.tb.eK ex_dic0 rfl
    | _ => cases h
  | .bin op a b, t, S, e, X, N, W, c, k, C, h => by
    cases e with
    | BinOp x o y p =>
      obtain ⟨h, h3⟩ := ands (show (decide (o = bo op) && okE T false S a x && okE T false S b y) = true from h)
      obtain ⟨h1, h2⟩ := ands h
      obtain rfl := of_decide_eq_true h1
      exact .of C.tb.eK (ex_bin C.tb.eK ((sE T a C h2).e rfl) ((sE T b C h3).e rfl)) rfl
    | _ => cases h
  | .neg a, t, S, e, X, N, W, c, k, C, h => by
    cases e with
    | UnaryOp o x p =>
      cases o with
      | USub =>
        have h : okE T false S a x = true := h
        exact .of C.tb.eK (ex_neg ((sE T a C h).e rfl)) rfl
      | _ => cases h
    | _ => cases h
  | .not a, t, S, e, X, N, W, c, k, C, h => by
    cases e with
    | UnaryOp o x p =>
      cases o with
      | Not =>
        have h : okE T t S a x = true := h
        have o := sE T a C h
        refine ⟨fun e => ?_, fun e => ?_⟩
        · subst e
          exact ex_not C.tb.eK (o.e rfl)
        · subst e
          exact tx_not (o.t rfl)
      | _ => cases h
    | _ => cases h
  | .and a b, t, S, e, X, N, W, c, k, C, h => by
    cases e with
    | BoolOp o xs p =>
      cases o with
      | Or => cases xs with
        | nil => cases h
        | cons x xs => cases xs <;> cases h
      | And =>
        cases xs with
        | nil => cases h
        | cons x xs =>
          cases xs with
          | nil => cases h
          | cons y rest =>
            cases rest with
            | nil =>
              obtain ⟨h1, h2⟩ := ands (show (okE T t S a x && (!t && okE T t S b y || t && okE T t S b y)) = true from h)
              have h2 : okE T t S b y = true := by cases t <;> simpa using h2
              have oa := sE T a C h1
              have ob := sE T b C h2
              refine ⟨fun e => ?_, fun e => ?_⟩
              · subst e
                exact ex_and (oa.e rfl) (pe_one (ob.e rfl))
              · subst e
                exact (tx_and (pos := p) (oa.t rfl) (pw_and1 (ob.t rfl))).pt
            | cons z zs =>
              obtain ⟨h1, h2⟩ := ands (show (okE T t S a x && okE T t S b (.BoolOp .And (y :: z :: zs) p)) = true from h)
              have oa := sE T a C h1
              have ob := sE T b C h2
              refine ⟨fun e => ?_, fun e => ?_⟩
              · subst e
                exact ex_and (oa.e rfl) (ob.e rfl)
              · subst e
                exact (tx_and (pos := p) (oa.t rfl) (pw_of (ob.t rfl))).pt
    | _ => cases h
  | .or a b, t, S, e, X, N, W, c, k, C, h => by
    cases e with
    | BoolOp o xs p =>
      cases o with
      | And => cases xs with
        | nil => cases h
        | cons x xs => cases xs <;> cases h
      | Or =>
        cases xs with
        | nil => cases h
        | cons x xs =>
          cases xs with
          | nil => cases h
          | cons y rest =>
            cases rest with
            | nil =>
              obtain ⟨h1, h2⟩ := ands (show (okE T t S a x && (!t && okE T t S b y || t && okE T t S b y)) = true from h)
              have h2 : okE T t S b y = true := by cases t <;> simpa using h2
              have oa := sE T a C h1
              have ob := sE T b C h2
              refine ⟨fun e => ?_, fun e => ?_⟩
              · subst e
                exact ex_or (oa.e rfl) (pe_one (ob.e rfl))
              · subst e
                exact (tx_or (pos := p) (oa.t rfl) (pw_or1 (ob.t rfl))).pt
            | cons z zs =>
              obtain ⟨h1, h2⟩ := ands (show (okE T t S a x && okE T t S b (.BoolOp .Or (y :: z :: zs) p)) = true from h)
              have oa := sE T a C h1
              have ob := sE T b C h2
              refine ⟨fun e => ?_, fun e => ?_⟩
              · subst e
                exact ex_or (oa.e rfl) (ob.e rfl)
              · subst e
                exact (tx_or (pos := p) (oa.t rfl) (pw_of (ob.t rfl))).pt
    | _ => cases h
  | .cmp op a b, t, S, e, X, N, W, c, k, C, h => by
    cases e with
    | Compare x os ys p =>
      cases os with
      | nil => cases h
      | cons o os => cases os with
        | cons o2 os => cases os with
          | nil => cases h
          | cons _ _ => cases h
        | nil => cases ys with
          | nil => cases h
          | cons y ys => cases ys with
            | cons _ _ => cases h
            | nil =>
              obtain ⟨h, h4⟩ := ands (show (decide (o = co op) && okE T false S a x && okE T false S b y && notSet y) = true from h)
              obtain ⟨h, h3⟩ := ands h
              obtain ⟨h1, h2⟩ := ands h
              obtain rfl := of_decide_eq_true h1
              have oa := sE T a C h2
              have ob := sE T b C h3
              exact ⟨fun _ => ex_cmp C.tb.eK C.tb.ew C.un (oa.e rfl) (ob.e rfl) h4, fun _ => tx_cmp C.tb.eK C.tb.ew C.un (oa.e rfl) (ob.e rfl) h4⟩
    | _ => cases h
  | .chain o1 o2 a b d, t, S, e, X, N, W, c, k, C, h => by
    cases e with
    | Compare x os ys p =>
      cases os with
      | nil => cases h
      | cons q1 os => cases os with
        | nil => cases ys with
          | nil => cases h
          | cons y ys => cases ys <;> cases h
        | cons q2 os => cases os with
          | cons _ _ => cases h
          | nil => cases ys with
            | nil => cases h
            | cons y ys => cases ys with
              | nil => cases h
              | cons z ys => cases ys with
                | cons _ _ => cases h
                | nil =>
                  obtain ⟨h, h7⟩ := ands (show (decide (q1 = co o1) && decide (q2 = co o2) && okE T false S a x && okE T false S b y && okE T false S d z && notSet y && notSet z) = true from h)
                  obtain ⟨h, h6⟩ := ands h
                  obtain ⟨h, h5⟩ := ands h
                  obtain ⟨h, h4⟩ := ands h
                  obtain ⟨h, h3⟩ := ands h
                  obtain ⟨h1, h2⟩ := ands h
                  obtain rfl := of_decide_eq_true h1
                  obtain rfl := of_decide_eq_true h2
                  have oa := sE T a C h3
                  have ob := sE T b C h4
                  have od := sE T d C h5
                  exact ⟨fun _ => ex_chain C.tb.eK C.tb.ew C.un (oa.e rfl) (ob.e rfl) (od.e rfl) h6 h7, fun _ => tx_chain C.tb.eK C.tb.ew C.un (oa.e rfl) (ob.e rfl) (od.e rfl) h6 h7⟩
    | _ => cases h
  | .ite q a b, t, S, e, X, N, W, c, k, C, h => by
    cases e with
    | IfExp x y z p =>
      obtain ⟨h, h4⟩ := ands (show (!t && okE T true S q x && okE T false S a y && okE T false S b z) = true from h)
      obtain ⟨h, h3⟩ := ands h
      obtain ⟨h1, h2⟩ := ands h
      have e : t = false := by simpa using h1
      subst e
      have oq := sE T q C h2
      have oa := sE T a C h3
      have ob := sE T b C h4
      exact ⟨fun _ => ex_ite (oq.t rfl) (oa.o C h3) (ob.o C h4), fun e => nomatch e⟩
    | _ => cases h
  | .idx a i, t, S, e, X, N, W, c, k, C, h => by
    cases e with
    | Subscript x y p =>
      obtain ⟨h, h3⟩ := ands (show (okE T false S a x && okE T false S i y && notSlice y) = true from h)
      obtain ⟨h1, h2⟩ := ands h
      have oa := sE T a C h1
      have oi := sE T i C h2
      exact .of C.tb.eK (ex_idx C.tb.eK C.tb.ew (by have := C.un; omega) (oa.e rfl) (oi.v C h2) h3) rfl
    | _ => cases h
  | .sl a lo hi, t, S, e, X, N, W, c, k, C, h => by
    cases e with
    | Subscript x y p =>
      cases y with
      | Slice l hh st p2 =>
        cases st with
        | some _ => cases h
        | none =>
          obtain ⟨h, h3⟩ := ands (show (okE T false S a x && okO T S lo l && okO T S hi hh) = true from h)
          obtain ⟨h1, h2⟩ := ands h
          exact .of C.tb.eK (ex_sl C.tb.eK ((sE T a C h1).e rfl) (sO T lo C h2) (sO T hi C h3)) rfl
      | _ => cases h
    | _ => cases h
  | .rev a, t, S, e, X, N, W, c, k, C, h => by
    cases e with
    | Subscript x y p =>
      unfold okE at h
      split at h
      · rename_i heq
        cases heq
        exact .of C.tb.eK (ex_rev ((sE T a C h).e rfl)) rfl
      · cases h
    | _ => cases h
  | .call f es, t, S, e, X, N, W, c, k, C, h => by
    cases e with
    | Call fe xs kw p =>
      cases fe with
      | Name x p1 =>
        cases kw with
        | cons _ _ => cases h
        | nil =>
          obtain ⟨h, h6⟩ := ands (show (S.calm && decide (T.fn[f]? = some x) && !T.th f && glC S.sc x && ndC x && (!T.gd f || S.gd) && okEs T S es xs) = true from h)
          obtain ⟨h, h7⟩ := ands h
          have quiet : T.gd f = true → X.A.guards = some [] := fun z => C.gd (by rw [z] at h7; simpa using h7)
          obtain ⟨h, h5⟩ := ands h
          obtain ⟨h, h4⟩ := ands h
          obtain ⟨h, h3⟩ := ands h
          obtain ⟨h1, h2⟩ := ands h
          obtain ⟨fa, fd, ps, F, g1, g2, g3⟩ := C.tb.fn f x (of_decide_eq_true h2) (by simpa using h3)
          have o := sEs T es C h6
          cases xs with
          | nil =>
            cases es with
            | cons _ _ => cases h6
            | nil => exact .of C.tb.eK (ex_call0 F (C.room0 h1) quiet (C.gl h4) g1 g2 g3 C.tk (ndC_ok h5).1) rfl
          | cons y ys =>
            have st := o.st
            rw [List.all_cons] at st
            obtain ⟨s1, s2⟩ := ands st
            exact .of C.tb.eK (ex_call F (C.room0 h1) quiet (C.gl h4) g1 g2 g3 C.tk o.d (ndC_ok h5).1 s1 s2) rfl
      | _ => cases h
    | _ => cases h
  | .blt b es, t, S, e, X, N, W, c, k, C, h => by
    cases e with
    | Call fe xs kw p =>
      cases fe with
      | Name x p1 =>
        cases xs with
        | nil => cases h
        | cons y ys =>
          cases kw with
          | cons _ _ => cases h
          | nil =>
            obtain ⟨h, h5⟩ := ands (show (S.calm && (blOk b || (decide (b = .reprT) && S.gd)) && decide (x = blStr b) && glC S.sc x && okEs T S es (y :: ys)) = true from h)
            obtain ⟨h, h4⟩ := ands h
            obtain ⟨h, h3⟩ := ands h
            obtain ⟨h1, h2⟩ := ands h
            obtain rfl := of_decide_eq_true h3
            have o := sEs T es C h5
            have st := o.st
            rw [List.all_cons] at st
            obtain ⟨s1, s2⟩ := ands st
            by_cases hb : b = .reprT
            · subst hb
              have hg : S.gd = true := by simpa [blOk] using h2
              exact .of C.tb.eK (ex_reprT (C.gd hg) C.un C.tb.eK C.tb.ew (C.calm h1) (C.gl h4) (C.tb.blt .reprT) (by decide +kernel) o.b (bl_name .reprT).1 (bl_name .reprT).2 s1 s2) rfl
            · have h2 : blOk b = true := by simpa [hb] using h2
              have cr : CallR X (blVal b) (rBlt N (bltD b)) := by
                by_cases q : bOld b = true
                · exact call_blt C.tb.eK C.tb.ew (C.calm h1) b q
                · cases b <;> first | exact (q rfl).elim | exact (hb rfl).elim | exact call_sortedD2 C.tb.eK C.tb.ew (C.calm h1) C.un | exact call_dictB C.tb.eK (C.calm h1) | exact call_setB C.tb.eK C.tb.ew (C.calm h1) | exact call_maxB (C.calm h1) | exact call_minB (C.calm h1) | exact call_sumB (C.calm h1)
              exact .of C.tb.eK (ex_bltB cr (C.gl h4) (C.tb.blt b) (bl_boot b h2) o.b (bl_name b).1 (bl_name b).2 s1 s2) rfl
      | _ => cases h
    | _ => cases h
  | .mth m o es, t, S, e, X, N, W, c, k, C, h => by
    cases e with
    | Call fe xs kw p =>
      cases fe with
      | Attribute x nm ap =>
        cases xs with
        | nil => cases h
        | cons y ys =>
          cases ys with
          | cons _ _ => cases h
          | nil =>
            cases kw with
            | cons _ _ => cases h
            | nil =>
              obtain ⟨h, h6⟩ := ands (show (okE T false S o x && okEs T S es [y] && baseOk x && (ap.endLine == p.line) && ((mtName m).isSome || (decide (m = .indexT) && isGl o)) && decide (nm = mtStr m)) = true from h)
              obtain ⟨h, h5⟩ := ands h
              obtain ⟨h, h4⟩ := ands h
              obtain ⟨h, h3⟩ := ands h
              obtain ⟨h1, h2⟩ := ands h
              have oo := sE T o C h1
              cases es with
              | nil => cases h2
              | cons ex es =>
                cases es with
                | cons _ _ =>
                  obtain ⟨_, h2⟩ := ands (show (okE T false S ex y && notStar y && okEs T S (.cons _ _) []) = true from h2)
                  cases h2
                | nil =>
                  obtain ⟨h2, _⟩ := ands (show (okE T false S ex y && notStar y && okEs T S .nil []) = true from h2)
                  obtain ⟨h2, h7⟩ := ands h2
                  have oe := sE T ex C h2
                  by_cases hm : m = .indexT
                  · subst hm
                    have hgl : isGl o = true := by simpa [mtName] using h5
                    cases o with
                    | glob i =>
                      cases x with
                      | Name x p1 =>
                        obtain ⟨g, q3⟩ := ands (show (decide (T.ks[i]? = some x) && glC S.sc x && ndC x) = true from h1)
                        obtain ⟨q1, q2⟩ := ands g
                        obtain rfl : nm = ("index" : Str) := of_decide_eq_true h6
                        have hx := of_decide_eq_true q1
                        refine .of C.tb.eK ?_ rfl
                        cases q : c.ks[i]? with
                        | none =>
                          refine ⟨fun pins s σ H Q I ⟨γ, st, r, hh⟩ => ?_⟩
                          have hh : Post N W (RX N True) γ σ H st (mthM .indexT (lft (c.ks[i]?.map .val)) (ev c ex) st) Q := hh
                          rw [q] at hh
                          exact hh.elim
                        | some d =>
                          obtain ⟨v, u, g1, g2, g3, g4⟩ := C.tb.ks i x d hx q
                          have := ex_gindex (N := N) (W := W) (ap := ap) (p1 := p1) (pos := p) C.tb.eK C.un (C.gl q2) g1 g2 (ndC_ok q3).1 g3 (C.tb.eK ▸ g4) (oe.e rfl) h4 h7
                          show PE X _ (TT' N W (RX N True) (mthM .indexT (lft (c.ks[i]?.map .val)) (ev c ex)))
                          rw [q]
                          exact this
                      | _ => cases h1
                    | _ => cases hgl
                  · have h5 : (mtName m).isSome = true := by simpa [hm] using h5
                    obtain ⟨sn, hs⟩ := Option.isSome_iff_exists.mp h5
                    have en : nm = (sn : Str) := by rw [of_decide_eq_true h6]; exact mt_str hs
                    exact .of C.tb.eK (ex_mth C.tb.eK C.un hs en (oo.e rfl) (oe.e rfl) h3 h4 h7) rfl
      | _ => cases h
    | _ => cases h
  | .isi a ty, t, S, e, X, N, W, c, k, C, h => by
    cases e with
    | Call fe xs kw p =>
      cases fe with
      | Name x p1 =>
        cases xs with
        | nil => cases h
        | cons y ys =>
          cases ys with
          | nil => cases h
          | cons z zs =>
            cases z with
            | Name zn zp =>
              cases zs with
              | cons _ _ => cases h
              | nil =>
                cases kw with
                | cons _ _ => cases h
                | nil =>
                  obtain ⟨h, h6⟩ := ands (show (decide (x = ("isinstance" : Str)) && glC S.sc x && decide (zn = tyStr ty) && glC S.sc zn && okE T false S a y && notStar y) = true from h)
                  obtain ⟨h, h5⟩ := ands h
                  obtain ⟨h, h4⟩ := ands h
                  obtain ⟨h, h3⟩ := ands h
                  obtain ⟨h1, h2⟩ := ands h
                  obtain rfl := of_decide_eq_true h1
                  obtain rfl := of_decide_eq_true h3
                  exact .of C.tb.eK (ex_isi C.tb.eK (ty_boot ty) (C.gl h2) C.tb.isi (C.gl h4) (C.tb.ty ty) (ty_nm ty).1 (ty_nm ty).2 ((sE T a C h5).e rfl) h6) rfl
            | _ => cases h
      | _ => cases h
    | _ => cases h
  | .isx i q, t, S, e, X, N, W, c, k, C, h => by
    cases e with
    | Call fe xs kw p =>
      cases fe with
      | Name x p1 =>
        cases xs with
        | nil => cases h
        | cons y ys =>
          cases y with
          | Name yn yp =>
            cases ys with
            | nil => cases h
            | cons z zs =>
              cases z with
              | Name zn zp =>
                cases zs with
                | cons _ _ => cases h
                | nil =>
                  cases kw with
                  | cons _ _ => cases h
                  | nil =>
                    obtain ⟨h, h9⟩ := ands (show (decide (S.isx = some i) && decide (x = ("isinstance" : Str)) && glC S.sc x && decide (S.N[i]? = some yn) && visC S.sc yn && ndC yn && decide (T.cat[q]? = some zn) && glC S.sc zn && ndC zn) = true from h)
                    obtain ⟨h, h8⟩ := ands h
                    obtain ⟨h, h7⟩ := ands h
                    obtain ⟨h, h6⟩ := ands h
                    obtain ⟨h, h5⟩ := ands h
                    obtain ⟨h, h4⟩ := ands h
                    obtain ⟨h, h3⟩ := ands h
                    obtain ⟨h1, h2⟩ := ands h
                    obtain rfl := of_decide_eq_true h2
                    obtain ⟨qq, g1, g2⟩ := C.isx i (of_decide_eq_true h1)
                    obtain ⟨cv, cu, g3, g4, g5, g6, _⟩ := C.tb.cat q zn (of_decide_eq_true h7)
                    have hT : PE X (.Name zn zp) (tC cv) := by
                      rcases g3 with g3 | ⟨g3, g7, g8⟩
                      · exact pe_glob (C.gl h8) g3 g4 (ndC_ok h9).1
                      · exact pe_bltn (C.gl h8) g3 g7 g4 g8 (ndC_ok h9).1
                    have := ex_isx (N := N) (W := W) (p1 := p1) (p2 := yp) (pos := p) (k := q) (sub := c.sub) g2 (by rw [C.names]; exact of_decide_eq_true h4) (by rw [C.sc]; exact visC_ok h5) (ndC_ok h6).1 (ndC_ok h6).2 (C.gl h3) C.tb.isi hT g5 (g6 qq)
                    refine .of C.tb.eK ?_ rfl
                    have ee : ev c (.isx i q) = (fun (s : Kb.S) => (match s.sl[i]? with
                      | some (some .exc) => some (Rs.ok (Sl.val (.bl (c.sub qq q))) s)
                      | _ => none) : M Sl) := by
                      funext s
                      show (match s.sl[i]? with
                        | some (some .exc) => (match c.exc with
                          | some (q', _) => some (Rs.ok (Sl.val (.bl (c.sub q' q))) s)
                          | none => none)
                        | _ => none) = _
                      rw [g1]
                    rw [ee]
                    exact this
              | _ => cases h
          | _ => cases h
      | _ => cases h
    | _ => cases h
  | .comp elt tg it cond own, t, S, e, X, N, W, c, k, C, h => by
    cases e with
    | ListComp x gs scope p =>
      cases gs with
      | nil => cases h
      | cons g gs =>
        obtain ⟨tE, i, ifs, a⟩ := g
        cases gs with
        | cons _ _ => cases h
        | nil =>
          obtain ⟨h, g10⟩ := ands (show (S.calm && decide (a = 0) && L2.blkC S.N S.sc scope (names S own) && decide ((names S own).map (·.2) = own) && (tgSlots tg).all (fun j => decide (j ∈ own)) && okI T S it i tE && notSet i &&
            okTg (S.blk scope) tg tE && okD T (S.blk scope) cond ifs && okE T false (S.blk scope) elt x) = true from h)
          obtain ⟨h, h9⟩ := ands h
          obtain ⟨h, h8⟩ := ands h
          obtain ⟨h, h7⟩ := ands h
          obtain ⟨h, h6⟩ := ands h
          obtain ⟨h, h5⟩ := ands h
          obtain ⟨h, h4⟩ := ands h
          obtain ⟨h, h3⟩ := ands h
          obtain ⟨h1, h2⟩ := ands h
          obtain rfl := of_decide_eq_true h2
          have eo := of_decide_eq_true h4
          have ok : BlkOk X.N X.env.scope scope (names S own) := by
            rw [C.names, C.sc]
            exact blkOk_by h3
          have cb := fun (s : Shared) (H : Hp) (A : Addr) (cl : List (Str × Addr)) (fp : List Addr) => C.blk scope ok.kind s H cl A fp
          have r := ex_comp (pos := p) (C.calm h1) C.nd (sI T it C h6) ok (elt := x) (tg := tg) (mc := evc c cond) (md := vOf elt (ev c elt)) ⟨fun s H A cl fp => okTg_ok (cb s H A cl fp) h8, fun s H A cl fp => sD T cond (cb s H A cl fp) h9, fun s H A cl fp => (sE T elt (cb s H A cl fp) g10).v (cb s H A cl fp) g10⟩
            (fun j hj => by rw [eo]; exact of_decide_eq_true (List.all_eq_true.mp h5 j hj)) (noset_fold h7)
          rw [eo] at r
          exact .of C.tb.eK r rfl
    | _ => cases h
  | .lrange t es, tt, S, e, X, N, W, c, k, C, h => by
    cases e with
    | Call fe xs kw p =>
      unfold okE at h
      split at h
      · rename_i x p1 r p2 y ys p3 p4 heq
        cases heq
        obtain ⟨h, h7⟩ := ands h
        obtain ⟨h, h6⟩ := ands h
        obtain ⟨h, h5⟩ := ands h
        obtain ⟨h, h4⟩ := ands h
        obtain ⟨h, h3⟩ := ands h
        obtain ⟨h1, h2⟩ := ands h
        obtain rfl := of_decide_eq_true h2
        obtain rfl := of_decide_eq_true h4
        have hm : X.mg (lrN t) = none := by
          cases t with
          | true => exact C.tb.blt .tuple
          | false => exact C.tb.blt .list
        cases es with
        | nil => cases h6
        | cons ex es =>
          obtain ⟨h6, h8⟩ := ands (show (okE T false S ex y && notStar y && okEs T S es ys) = true from h6)
          obtain ⟨h6, h9⟩ := ands h6
          have oe := (sE T ex C h6).v C h6
          cases ys with
          | nil =>
            cases es with
            | cons _ _ => cases h8
            | nil => exact .of C.tb.eK (ex_lrange1 (C.calm h1) (C.gl h3) hm (C.gl h5) C.tb.rng oe h9) rfl
          | cons z zs =>
            cases zs with
            | cons _ _ => simp at h7
            | nil =>
              cases es with
              | nil => cases h8
              | cons ex2 es =>
                obtain ⟨h10, h11⟩ := ands (show (okE T false S ex2 z && notStar z && okEs T S es []) = true from h8)
                obtain ⟨h10, h12⟩ := ands h10
                cases es with
                | cons _ _ => cases h11
                | nil => exact .of C.tb.eK (ex_lrange2 (C.calm h1) (C.gl h3) hm (C.gl h5) C.tb.rng oe ((sE T ex2 C h10).v C h10) h9 h12) rfl
      · cases h
    | _ => cases h
  | .wcall f th, t, S, e, X, N, W, c, k, C, h => by
    cases e with
    | Call fe xs kw p =>
      unfold okE at h
      split at h
      · rename_i x p1 b scope lp p2 heq
        cases heq
        obtain ⟨h, h8⟩ := ands h
        obtain ⟨h, h7⟩ := ands h
        obtain ⟨h, h6⟩ := ands h
        obtain ⟨h, h5⟩ := ands h
        obtain ⟨h, h4⟩ := ands h
        obtain ⟨h, h3⟩ := ands h
        obtain ⟨h1, h2⟩ := ands h
        obtain ⟨a, ga, pg, bg, sg, dV, kV, doc, pm, cdv, ct, oc, an, od, osl, Ng, g1, g2, g3, g4, g5, g6, g7, g8, g9, g10⟩ := C.tb.th f x (of_decide_eq_true h3) h4
        obtain ⟨cd, P, t1, t2, t3, t4⟩ := C.lam h1
        have hr : Room (k + 2) X.A := by
          have := C.room h2
          rw [h1, Bool.true_or] at this
          exact this
        have L : LamX.LamS X.env.scope scope := by
          rw [C.sc]
          exact LamX.lamS_by h7
        refine .of C.tb.eK (ex_wcall (g := fun t hp => c.call f [] t hp) (mth := vOf th (ev c th)) (C.gl h5) g1 g2 g3 g4 g5 g6 g7 g8 (g10 X _ rfl rfl rfl rfl rfl hr) t1 t2 t3 t4 hr L rfl (fun _ _ _ _ _ => rfl) (fun A outer s H E f' c' hr2 => ?_) (ndC_ok h6).1 (ndC_ok g9).1 (ndC_ok g9).2) rfl
        exact (sE T th (C.lamb L A outer s H E f' c' hr2) h8).v (C.lamb L A outer s H E f' c' hr2) h8
      · cases h
    | _ => cases h
  | .sortk f ex, t, S, e, X, N, W, c, k, C, h => by
    unfold okE at h
    split at h
    · rename_i s p1 y kk z p2 kp pp
      obtain ⟨h, h12⟩ := ands h
      obtain ⟨h, h11⟩ := ands h
      obtain ⟨h, h10⟩ := ands h
      obtain ⟨h, h9⟩ := ands h
      obtain ⟨h, h8⟩ := ands h
      obtain ⟨h, h7⟩ := ands h
      obtain ⟨h, h6⟩ := ands h
      obtain ⟨h, h5⟩ := ands h
      obtain ⟨h, h4⟩ := ands h
      obtain ⟨h, h3⟩ := ands h
      obtain ⟨h1, h2⟩ := ands h
      obtain rfl := of_decide_eq_true h3
      obtain rfl := of_decide_eq_true h5
      obtain ⟨fa, fd, ps, F, g1, g2, g3⟩ := C.tb.fn f z (of_decide_eq_true h6) (by simpa using h7)
      have hr : Room (k + 2) X.A := by
        have := C.room h1
        rw [h2, Bool.or_true] at this
        exact this
      have o := sE T ex C h11
      exact .of C.tb.eK (ex_sortk (p1 := p1) (p2 := p2) (kp := kp) (pos := pp) C.tb.eK F (by simpa using h8) g3 hr C.un (C.gl h4) (C.tb.blt .sorted) (C.gl h9) g1 (ndC_ok h10).1 (o.e rfl) h12) rfl
    · cases h
  | .act i, t, S, e, X, N, W, c, k, C, h => by
    cases e with
    | Call fe xs kw p =>
      cases fe with
      | Name x p1 =>
        cases xs with
        | cons _ _ => cases h
        | nil =>
          cases kw with
          | cons _ _ => cases h
          | nil =>
            obtain ⟨h, h3⟩ := ands (show (S.act && decide (i = 0) && decide (S.N[0]? = some x)) = true from h)
            obtain ⟨h1, h2⟩ := ands h
            obtain rfl := of_decide_eq_true h2
            obtain ⟨tf, f, c', q, tl, a, g1, g2, g3, g4, g5, g6, g7⟩ := C.act h1
            have ea : a = x := by
              rw [of_decide_eq_true h3] at g6
              exact (Option.some.inj g6).symm
            subst ea
            refine .of C.tb.eK ?_ rfl
            have := ex_act (X := X) (W := W) g2 g3 g4 g5 (e := .Call (.Name a p1) [] [] p) fun E hE =>
              g7 (fun cls d σ' H' => σ'.length = X.N.length → W cls d σ' H') X.pn X.xe E p1 p (fun u s' ⟨a, B, sI, pins, σ, H, cls, d, e, I, nb, up, sky, na, os, ag, w⟩ => C.tk u s' ⟨a, B, sI, pins, σ, H, cls, d, e, I, nb, up, sky, na, os, ag, w I.len⟩) (fun cls d σ' H' h hl => hE cls d σ' H' h hl)
            show PE X _ (TT' N W (RX N True) (if 0 = 0 then actM c.th else stk))
            rw [if_pos rfl, g1]
            exact this
      | _ => cases h
    | _ => cases h
theorem sEs (T : Tb) : ∀ (es : Exs) {S : Sc} {xs : List Expr} {X : Cx} {N : Cn} {W : WX} {c : Cfg} {k : Nat}, Ctx T X N W c k S → okEs T S es xs = true → OEs X N W c es xs
  | .nil, S, xs, X, N, W, c, k, C, h => by
    cases xs with
    | cons _ _ => cases h
    | nil => exact ⟨as_nil, bs_nil, cs_nil, fun s ds s' e => by cases e; rfl, rfl⟩
  | .cons ex es, S, xs, X, N, W, c, k, C, h => by
    cases xs with
    | nil => cases h
    | cons x xs =>
      obtain ⟨h, h3⟩ := ands (show (okE T false S ex x && notStar x && okEs T S es xs) = true from h)
      obtain ⟨h1, h2⟩ := ands h
      have oe := sE T ex C h1
      have os := sEs T es C h3
      refine ⟨as_cons (oe.v C h1) os.d h2, bs_cons (oe.e rfl) os.b h2, cs_cons (oe.o C h1) os.o h2, fun s ds s' e => ?_, by rw [List.all_cons, h2, os.st]; rfl⟩
      obtain ⟨d, s1, _, e⟩ := bnd_ok (show bnd (vOf ex (ev c ex)) (fun d => bnd (evs c es) fun ds => pur (d :: ds)) s = some (.ok ds s') from e)
      obtain ⟨r, s2, e2, e⟩ := bnd_ok e
      cases e
      rw [List.length_cons, List.length_cons, os.l _ _ _ e2]
theorem sO (T : Tb) : ∀ (eo : Exo) {S : Sc} {o : Option Expr} {X : Cx} {N : Cn} {W : WX} {c : Cfg} {k : Nat}, Ctx T X N W c k S → okO T S eo o = true → PO X o (TT' N W RO (evo c eo))
  | .none, S, o, X, N, W, c, k, C, h => by
    cases o with
    | none => exact po_no
    | some _ => cases h
  | .some ex, S, o, X, N, W, c, k, C, h => by
    cases o with
    | none => cases h
    | some x => exact po_ex ((sE T ex C (show okE T false S ex x = true from h)).e rfl)
theorem sD (T : Tb) : ∀ (eo : Exo) {S : Sc} {xs : List Expr} {X : Cx} {N : Cn} {W : WX} {c : Cfg} {k : Nat}, Ctx T X N W c k S → okD T S eo xs = true → PTs X xs (TT' N W RB (evc c eo))
  | .none, S, xs, X, N, W, c, k, C, h => by
    cases xs with
    | nil => exact ts_no
    | cons _ _ => cases h
  | .some ex, S, xs, X, N, W, c, k, C, h => by
    cases xs with
    | nil => cases h
    | cons x xs =>
      cases xs with
      | cons _ _ => cases h
      | nil => exact pts_one ((sE T ex C (show okE T true S ex x = true from h)).t rfl)
theorem sI (T : Tb) : ∀ (it : Kb.It) {S : Sc} {i tg : Expr} {X : Cx} {N : Cn} {W : WX} {c : Cfg} {k : Nat}, Ctx T X N W c k S → okI T S it i tg = true → OI X N W c it i tg
  | .ex ex, S, i, tg, X, N, W, c, k, C, h => by
    have h : okE T false S ex i = true := h
    exact it_ex C.tb.eK ((sE T ex C h).v C h)
  | .range es, S, i, tg, X, N, W, c, k, C, h => by
    cases i with
    | Call fe xs kw p =>
      cases fe with
      | Name f p1 =>
        cases xs with
        | nil => cases h
        | cons y ys =>
          cases kw with
          | cons _ _ => cases h
          | nil =>
            obtain ⟨h, h4⟩ := ands (show (decide (f = ("range" : Str)) && glC S.sc f && okEs T S es (y :: ys) && decide (ys.length ≤ 1)) = true from h)
            obtain ⟨h, h3⟩ := ands h
            obtain ⟨h1, h2⟩ := ands h
            obtain rfl := of_decide_eq_true h1
            cases es with
            | nil => cases h3
            | cons ex es =>
              obtain ⟨h3, h5⟩ := ands (show (okE T false S ex y && notStar y && okEs T S es ys) = true from h3)
              obtain ⟨h3, h6⟩ := ands h3
              have oe := (sE T ex C h3).v C h3
              cases ys with
              | nil =>
                cases es with
                | cons _ _ => cases h5
                | nil => exact it_range1 (C.gl h2) C.tb.rng oe h6
              | cons z zs =>
                cases zs with
                | cons _ _ => simp at h4
                | nil =>
                  cases es with
                  | nil => cases h5
                  | cons ex2 es =>
                    obtain ⟨h9, h7⟩ := ands (show (okE T false S ex2 z && notStar z && okEs T S es []) = true from h5)
                    obtain ⟨h10, h8⟩ := ands h9
                    cases es with
                    | cons _ _ => cases h7
                    | nil => exact it_range2 (C.gl h2) C.tb.rng oe ((sE T ex2 C h10).v C h10) h6 h8
      | _ => cases h
    | _ => cases h
  | .zip es, S, i, tg, X, N, W, c, k, C, h => by
    cases i with
    | Call fe xs kw p =>
      cases fe with
      | Name f p1 =>
        unfold okI at h
        split at h
        · rename_i f' p1' y z p' heq
          cases heq
          obtain ⟨h, h4⟩ := ands h
          obtain ⟨h, h3⟩ := ands h
          obtain ⟨h1, h2⟩ := ands h
          obtain rfl := of_decide_eq_true h1
          have o := sEs T es C h3
          have st := o.st
          rw [List.all_cons, List.all_cons] at st
          obtain ⟨s1, st⟩ := ands st
          obtain ⟨s2, _⟩ := ands st
          cases tg with
          | Tuple elts kk tpos =>
            show PI X (.Tuple elts kk tpos) _ (TT' N W (RI N) (evi c (.zip es)))
            rw [evi]
            exact it_zip C.tb.eK (C.gl h2) C.tb.zip.1 o.d s1 s2
          | _ => cases h4
        · cases h
      | _ => cases h
    | _ => cases h
  | .enum e, S, i, tg, X, N, W, c, k, C, h => by
    cases i with
    | Call fe xs kw p =>
      cases fe with
      | Name f p1 =>
        unfold okI at h
        split at h
        · rename_i f' p1' y p' heq
          cases heq
          obtain ⟨h, h5⟩ := ands h
          obtain ⟨h, h4⟩ := ands h
          obtain ⟨h, h3⟩ := ands h
          obtain ⟨h1, h2⟩ := ands h
          obtain rfl := of_decide_eq_true h1
          cases tg with
          | Tuple elts kk tpos =>
            show PI X (.Tuple elts kk tpos) _ (TT' N W (RI N) (evi c (.enum e)))
            rw [evi]
            exact it_enum C.tb.eK (C.gl h2) C.tb.zip.2 ((sE T e C h3).v C h3) h5
          | _ => cases h4
        · cases h
      | _ => cases h
    | _ => cases h
  | .zips _, S, i, tg, X, N, W, c, k, C, h => by cases h
  | .items _, S, i, tg, X, N, W, c, k, C, h => by cases h
end
end
end Kb

set_option Elab.async false
set_option linter.all false
set_option maxRecDepth 100000
set_option maxHeartbeats 4000000
/-! KbSs: statements that are checked. -/
namespace Kb
open PySem PySem.Spec PyProof.Rows L2 TL
section
variable {T : Tb} {X : Cx} {N : Cn} {W : WX} {c : Cfg} {k : Nat} {S : Sc} {e : Expr} {pos p1 p2 : Pos} {t : Bool}
theorem nocomp_sw {v : Expr} {t : Option Expr} {l : Nat} {env : Env} (h : notComp v = true) : swapsWith v t l env = pure false := by
  cases v <;> first | rfl | cases h
theorem tup_sw {v : Expr} {xs : List Expr} {kk : Nat} {p : Pos} {l : Nat} {env : Env} : swapsWith v (some (.Tuple xs kk p)) l env = pure false := by
  cases v <;> rfl
theorem sub_sw {v a b : Expr} {p : Pos} {l : Nat} {env : Env} : swapsWith v (some (.Subscript a b p)) l env = pure false := by
  cases v <;> rfl
theorem sw_of {env : Env} {sc : Scope} {ts vs : List Expr} {k1 k2 : Nat} {p1 p2 : Pos} {r : Option (List Str)} (hb : env.blockKind = .function) (hs : env.scope = sc) (h : swS sc ts vs = some r) : swappedStores [.Tuple ts k1 p1] (.Tuple vs k2 p2) env = pure r := by
  unfold swS at h
  unfold swappedStores
  simp only [hb, bne_self_eq_false, Bool.or_false]
  have hk : ∀ id, env.kindOf id = sc.names.lookup id := fun id => by unfold Env.kindOf; rw [hs]
  simp only [hk]
  by_cases c1 : (!(ts.length == 2 || ts.length == 3) || vs.length != ts.length) = true
  · rw [if_pos c1] at h
    cases h
    simp only [c1]
    rfl
  · rw [if_neg c1] at h
    have c1' : (!(ts.length == 2 || ts.length == 3) || vs.length != ts.length) = false := by simpa using c1
    simp only [c1']
    refine (if_neg Bool.false_ne_true).trans ?_
    split at h
    · rename_i c2
      cases h
      exact if_pos c2
    · rename_i c2
      refine (if_neg c2).trans ?_
      dsimp only at h
      split at h
      · rename_i c3
        cases h
        exact if_pos c3
      · rename_i c3
        refine (if_neg c3).trans ?_
        split at h
        · rename_i c4
          cases h
          exact if_pos c4
        · rename_i c4
          refine (if_neg c4).trans ?_
          split at h
          · cases h
          · rename_i c5
            refine (if_neg c5).trans ?_
            cases h
            rfl
/-- in a try's body -/
theorem Ctx.tr (C : Ctx T X N W c k S) (hi : S.isx = none) {W' : WX} {pn : List (Addr × Obj)} {xe : Value → Shared → Prop} (tk : Takes (X.tr pn xe) W') (own : PassesOwn (model X.prog X.w) X.A X.env xe) : Ctx T (X.tr pn xe) N W' c k S where
  tb := C.tb
  names := C.names
  nd := C.nd
  sc := C.sc
  kind := C.kind
  fn := C.fn
  calm := C.calm
  room := C.room
  un := C.un
  gd := C.gd
  tk := tk
  own := fun _ => own
  stk := C.stk
  isx := fun i h => by
    rw [hi] at h
    cases h
  act := fun h => by
    obtain ⟨tf, f, c', q, tl, a, g1, g2, g3, g4, g5, g6, g7⟩ := C.act h
    exact ⟨tf, f, c', q, tl, a, g1, g2, g3, g4, g5, g6, g7⟩
  lam := C.lam
theorem TbOk.suite {P : Program} {w : World} {K : Fg} {mg : Str → Option Value} {base : Heap} (h : TbOk T P w K mg base N c k) (b : Nat → Option Addr) (e : Option (Nat × List Kb.D)) : TbOk T P w K mg base (N.ex b) { c with exc := e } k where
  eK := h.eK
  ew := h.ew
  blt := h.blt
  ty := h.ty
  rng := h.rng
  zip := h.zip
  isi := h.isi
  ks := fun i x d h1 h2 => let ⟨v, u, g1, g2, g3, g4⟩ := h.ks i x d h1 h2; ⟨v, u, g1, g2, fun γ H => (g3 γ H).exa, g4⟩
  fn := h.fn
  ex := h.ex
  cat := h.cat
  excC := h.excC
  th := h.th
abbrev Sc.sui (S : Sc) (i : Option Nat) : Sc := { S with calm := false, top := false, lam := false, act := false, isx := i }
theorem Ctx.suiteAs (C : Ctx T X N W c k S) (i q : Nat) (a : Addr) (oe : Obj) (pn : List (Addr × Obj)) (hz : Zc (.ref (N.cls q)) none oe) (hf : ∃ vs, oe.data = .fields vs) :
    Ctx T (X.suite a ((a, oe) :: pn)) (N.at i a) WF { c with exc := some (q, []) } k (S.sui (some i)) where
  tb := C.tb.suite _ _
  names := C.names
  nd := C.nd
  sc := C.sc
  kind := C.kind
  fn := C.fn
  calm := fun h => nomatch h
  room := fun h => nomatch h
  un := C.un
  gd := C.gd
  tk := LamX.takes0
  own := fun h => nomatch h
  stk := fun h => nomatch h
  isx := fun j h => by
    cases h
    refine ⟨q, rfl, fun b e => ?_⟩
    have e : (if i = i then some a else N.exa i) = some b := e
    rw [if_pos rfl] at e
    cases e
    exact call_isE (C.tb.excC q) hz hf
  act := fun h => nomatch h
  lam := fun h => nomatch h
theorem Ctx.suiteNo (C : Ctx T X N W c k S) (q : Nat) (a : Addr) (oe : Obj) (pn : List (Addr × Obj)) :
    Ctx T (X.suite a ((a, oe) :: pn)) N WF { c with exc := some (q, []) } k (S.sui none) where
  tb := C.tb.suite N.exa _
  names := C.names
  nd := C.nd
  sc := C.sc
  kind := C.kind
  fn := C.fn
  calm := fun h => nomatch h
  room := fun h => nomatch h
  un := C.un
  gd := C.gd
  tk := LamX.takes0
  own := fun h => nomatch h
  stk := fun h => nomatch h
  isx := fun j h => nomatch h
  act := fun h => nomatch h
  lam := fun h => nomatch h
theorem lc_sw (C : Ctx T X N W c k S) {elt : Expr} {gs : List Comprehension} {scope : Scope} {x : Str} {l : Nat} : swapsWith (.ListComp elt gs scope p2) (some (.Name x p1)) l X.env = pure (swC S x p1 (.ListComp elt gs scope p2)) := by
  have hk : X.env.kindOf x = S.sc.names.lookup x := by unfold Env.kindOf; rw [C.sc]
  unfold swapsWith swC
  simp only [C.blk_kind, hk]
  simp only [Expr.pos, BEq.rfl, Bool.true_and]
/-- the parts of a checked comprehension -/
theorem comp_parts (C : Ctx T X N W c k S) {ex : Ex} {x : Expr} {gs : List Comprehension} {scope : Scope} {p : Pos} (h : okE T false S ex (.ListComp x gs scope p) = true) :
    ∃ elt tg it cond own tE i ifs, ex = .comp elt tg it cond own ∧ gs = [⟨tE, i, ifs, 0⟩] ∧ S.calm = true ∧ PI X tE i (TT' N W (RI N) (evi c it)) ∧ BlkOk X.N X.env.scope scope (names S own) ∧ BlkS X N scope tE ifs x tg (evc c cond) (vOf elt (ev c elt)) ∧
      (∀ j ∈ tgSlots tg, j ∈ (names S own).map (·.2)) ∧ (∀ x, foldedSetIterable i X.env x = pure x) ∧ (names S own).map (·.2) = own := by
  cases ex with
  | comp elt tg it cond own =>
    cases gs with
    | nil => cases h
    | cons g gs =>
      obtain ⟨tE, i, ifs, a⟩ := g
      cases gs with
      | cons _ _ => cases h
      | nil =>
        obtain ⟨h, g10⟩ := ands (show (S.calm && decide (a = 0) && L2.blkC S.N S.sc scope (names S own) && decide ((names S own).map (·.2) = own) && (tgSlots tg).all (fun j => decide (j ∈ own)) && okI T S it i tE && notSet i &&
          okTg (S.blk scope) tg tE && okD T (S.blk scope) cond ifs && okE T false (S.blk scope) elt x) = true from h)
        obtain ⟨h, h9⟩ := ands h
        obtain ⟨h, h8⟩ := ands h
        obtain ⟨h, h7⟩ := ands h
        obtain ⟨h, h6⟩ := ands h
        obtain ⟨h, h5⟩ := ands h
        obtain ⟨h, h4⟩ := ands h
        obtain ⟨h, h3⟩ := ands h
        obtain ⟨h1, h2⟩ := ands h
        obtain rfl := of_decide_eq_true h2
        have eo := of_decide_eq_true h4
        have ok : BlkOk X.N X.env.scope scope (names S own) := by
          rw [C.names, C.sc]
          exact blkOk_by h3
        have cb := fun (s : Shared) (H : Hp) (A : Addr) (cl : List (Str × Addr)) (fp : List Addr) => C.blk scope ok.kind s H cl A fp
        exact ⟨elt, tg, it, cond, own, tE, i, ifs, rfl, rfl, h1, sI T it C h6, ok, ⟨fun s H A cl fp => okTg_ok (cb s H A cl fp) h8, fun s H A cl fp => sD T cond (cb s H A cl fp) h9, fun s H A cl fp => (sE T elt (cb s H A cl fp) g10).v (cb s H A cl fp) g10⟩,
          fun j hj => by rw [eo]; exact of_decide_eq_true (List.all_eq_true.mp h5 j hj), noset_fold h7, eo⟩
  | isi a t => cases h
  | lrange t es => cases h
  | sortk f e => cases h
  | const d => cases h
  | glob i => cases h
  | var i => cases h
  | tup es => cases h
  | lst es => cases h
  | lstH es => cases h
  | dic b ks vs => cases h
  | bin op a b => cases h
  | neg a => cases h
  | not a => cases h
  | and a b => cases h
  | or a b => cases h
  | cmp op a b => cases h
  | chain o1 o2 a b d => cases h
  | ite q a b => cases h
  | idx a i => cases h
  | sl a lo hi => cases h
  | rev a => cases h
  | call f es => cases h
  | blt b es => cases h
  | mth m o es => cases h
  | isx i q => cases h
  | wcall f th => cases h
  | act i => cases h
theorem okSw_of (C : Ctx T X N W c k S) {xs : List Expr} {kk : Nat} {p : Pos} {v : Expr} (h : okSw S.sc (.Tuple xs kk p) v = true) : swappedStores [.Tuple xs kk p] v X.env = pure none := by
  cases v with
  | Tuple vs k2 p2 => exact sw_of C.blk_kind C.sc (of_decide_eq_true h)
  | _ => rfl
theorem okNs_get {S : Sc} : ∀ {is : List Nat} {es : List Expr}, okNs S is es = true → is.length = es.length ∧ ∀ (j : Nat) i e, is[j]? = some i → es[j]? = some e → okN S i e = true
  | [], [], _ => ⟨rfl, fun j i e h => by simp at h⟩
  | [], _ :: _, h => by cases h
  | _ :: _, [], h => by cases h
  | i :: is, e :: es, h => by
    obtain ⟨h1, h2⟩ := ands (show (okN S i e && okNs S is es) = true from h)
    obtain ⟨g1, g2⟩ := okNs_get h2
    refine ⟨by simp [g1], fun j i' e' a b => ?_⟩
    cases j with
    | zero => simp at a b; subst a; subst b; exact h1
    | succ j => exact g2 j i' e' (by simpa using a) (by simpa using b)
theorem swS_len {sc : Scope} {ts vs : List Expr} {ns : List Str} (h : swS sc ts vs = some (some ns)) : vs.length = ts.length := by
  unfold swS at h
  split at h
  · cases h
  · rename_i c
    simp at c
    exact c.2
theorem okTg_each {S : Sc} {tg : Tg} {y : Expr} {env : Env} (h : okTg S tg y = true) : (assignEach [y] env).map (·.2) = [assign y env] := by
  cases tg with
  | name i => cases y <;> first | rfl | (cases h; done)
  | tup is => cases y <;> first | rfl | (cases h; done)
theorem mutF_bnd {m : Mt} {v : Nat} {ms : M (List Kb.D)} {f : Sl → M Fl} : (bnd (ownL v) fun _ => bnd ms fun ds => bnd (mutS m v ds) f) = bnd (mutF m v ms) f := by
  unfold mutF
  rw [bnd_assoc]
  congr 1
  funext _
  rw [bnd_assoc]
/-- a growing list's method, called -/
theorem okM_ok (C : Ctx T X N W c k S) {m : Mt} {v : Nat} {es : Exs} {x : Expr} {nm : Str} {ap p : Pos} {ys : List Expr} (h1 : okV S v x = true) (h2 : nm = mtStr m) (h3 : (ap.endLine == p.line) = true) (h4 : okEs T S es ys = true) (h5 : okM m ys = true) :
    PE X (.Call (.Attribute x nm ap) ys [] p) (TMu N W (mutF m v (evs c es))) := by
  obtain ⟨xn, xp, rfl, g1, g2, g3, g4⟩ := okV_ok C h1
  subst h2
  have one : ∀ {y : Expr}, okEs T S es [y] = true → ∃ ex, es = .cons ex .nil ∧ PE X y (TT' N W (RD N) (vOf ex (ev c ex))) ∧ notStar y = true := fun {y} h => by
    cases es with
    | nil => cases h
    | cons ex es =>
      obtain ⟨h, q3⟩ := ands (show (okE T false S ex y && notStar y && okEs T S es []) = true from h)
      obtain ⟨q1, q2⟩ := ands h
      cases es with
      | cons _ _ => cases q3
      | nil => exact ⟨ex, rfl, (sE T ex C q1).v C q1, q2⟩
  cases m with
  | append =>
    cases ys with
    | nil => cases h5
    | cons y ys =>
      cases ys with
      | cons _ _ => cases h5
      | nil =>
        obtain ⟨ex, rfl, q1, q2⟩ := one h4
        exact mu_append g1 g2 g3 g4 q1 h3 q2
  | extend =>
    cases ys with
    | nil => cases h5
    | cons y ys =>
      cases ys with
      | cons _ _ => cases h5
      | nil =>
        obtain ⟨ex, rfl, q1, q2⟩ := one h4
        exact mu_extend g1 g2 g3 g4 q1 h3 q2
  | pop =>
    cases ys with
    | cons _ _ => cases h5
    | nil =>
      cases es with
      | cons _ _ => cases h4
      | nil => exact mu_pop g1 g2 g3 g4 h3
  | _ => cases h5
mutual
theorem sS (T : Tb) : ∀ (st : Stm) {S : Sc} {x : Stmt} {X : Cx} {N : Cn} {W : WX} {c : Cfg} {k : Nat}, Ctx T X N W c k S → okS T S st x = true → PS X x (TS' N W (exec c st))
  | .set i ex, S, st, X, N, W, c, k, C, h => by
    unfold okS at h
    split at h
    · rename_i x p v q
      obtain ⟨h, h4⟩ := ands h
      obtain ⟨h, h3⟩ := ands h
      obtain ⟨h1, h2⟩ := ands h
      obtain ⟨x', p', e, hN, hx, hf⟩ := okN_ok C h1
      cases e
      have o := (sE T ex C h2).o C h2
      cases v with
      | ListComp elt gs scope p2 =>
        cases hs : swC S x p (.ListComp elt gs scope p2) with
        | false => exact st_set C.nd hN hx hf o (by rw [lc_sw C, hs])
        | true =>
          obtain ⟨elt', tg, it, cond, own, tE, i', ifs, rfl, rfl, g1, g2, g3, g4, g5, g6, g7⟩ := comp_parts (W := W) C h2
          have hl : X.env.scope.names.lookup x = some .local := by
            unfold swC at hs
            obtain ⟨hs, _⟩ := ands hs
            obtain ⟨hs, _⟩ := ands hs
            rw [C.sc]
            simpa using hs
          have r := st_setLc (pos := q) (p1 := p) (W := W) (C.calm g1) C.nd hN hl (by rw [lc_sw C, hs]) g2 g3 g4 g5 g6
          rw [g7] at r
          exact r
      | SetComp elt gs scope p2 => cases h3
      | DictComp a b gs scope p2 => cases h3
      | _ => exact st_set C.nd hN hx hf o (nocomp_sw rfl)
    · rename_i x p v q
      obtain ⟨h1, h2⟩ := ands h
      obtain ⟨x', p', e, hN, hx, hf⟩ := okN_ok C h1
      cases e
      split at h2
      · rename_i j e2
        obtain ⟨h3, h4⟩ := ands h2
        obtain rfl := of_decide_eq_true h3
        exact st_aug C.nd hN hx hf ((sE T e2 C h4).e rfl)
      · cases h2
    · cases h
  | .setDc i ek ev tg it cond own, S, st, X, N, W, c, k, C, h => by
    unfold okS at h
    split at h
    · rename_i x px kx vx t i' ifs a scope p2 q
      obtain ⟨h, h15⟩ := ands h
      obtain ⟨h, h14⟩ := ands h
      obtain ⟨h, h13⟩ := ands h
      obtain ⟨h, h12⟩ := ands h
      obtain ⟨h, h11⟩ := ands h
      obtain ⟨h, h10⟩ := ands h
      obtain ⟨h, h9⟩ := ands h
      obtain ⟨h, h8⟩ := ands h
      obtain ⟨h, h7⟩ := ands h
      obtain ⟨h, h6⟩ := ands h
      obtain ⟨h, h5⟩ := ands h
      obtain ⟨h, h4⟩ := ands h
      obtain ⟨h, h3⟩ := ands h
      obtain ⟨h1, h2⟩ := ands h
      obtain rfl := of_decide_eq_true h2
      have eo := of_decide_eq_true h4
      have ok : BlkOk X.N X.env.scope scope (names S own) := by
        rw [C.names, C.sc]
        exact blkOk_by h3
      have cb := fun (s : Shared) (H : Hp) (A : Addr) (cl : List (Str × Addr)) (fp : List Addr) => C.blk scope ok.kind s H cl A fp
      have hl : X.env.scope.names.lookup x = some .local := by rw [C.sc]; exact of_decide_eq_true h13
      have hN : X.N[i]? = some x := by rw [C.names]; exact of_decide_eq_true h12
      have r := st_setDc (pos := q) (p1 := px) (p2 := p2) (W := W) (mi := evi c it) (mc := evc c cond) (mk := vOf ek (Kb.ev c ek)) (mv := vOf ev (Kb.ev c ev)) (tg := tg) (kx := kx) (vx := vx) (tgE := t) (iter := i') (ifs := ifs) (own := names S own) (C.calm h1) C.nd hN hl (sw_trueD C.kind hl h14 (by simpa using h15)) (sI T it C h6) ok
        ⟨fun s H A cl fp => okTg_ok (cb s H A cl fp) h8, fun s H A cl fp => sD T cond (cb s H A cl fp) h9, fun s H A cl fp => (sE T ek (cb s H A cl fp) h10).v (cb s H A cl fp) h10, fun s H A cl fp => (sE T ev (cb s H A cl fp) h11).v (cb s H A cl fp) h11⟩
        (fun j hj => by rw [eo]; exact of_decide_eq_true (List.all_eq_true.mp h5 j hj)) (noset_fold h7)
      rw [eo] at r
      exact r
    · cases h
  | .unp is ex, S, st, X, N, W, c, k, C, h => by
    unfold okS at h
    split at h
    · rename_i xs kk p v q
      obtain ⟨h, h3⟩ := ands h
      obtain ⟨h1, h2⟩ := ands h
      exact st_asg ((sE T ex C h2).v C h2) (okTg_ok C h1) (show swapsWith v (some (.Tuple xs kk p)) q.line X.env = pure false from tup_sw) (okSw_of C h3) rfl
    · cases h
  | .par is es, S, st, X, N, W, c, k, C, h => by
    unfold okS at h
    split at h
    · rename_i xs kk p vs k2 p2 q
      obtain ⟨h, h6⟩ := ands h
      obtain ⟨h, h5⟩ := ands h
      obtain ⟨h, h4⟩ := ands h
      obtain ⟨h, h3⟩ := ands h
      obtain ⟨h1, h2⟩ := ands h
      have o := sEs T es C h3
      obtain ⟨l1, at_⟩ := okNs_get h2
      have nd : is.Nodup := of_decide_eq_true h5
      split at h6
      · rename_i x px y py
        obtain ⟨h6, h9⟩ := ands h6
        obtain ⟨h7, h8⟩ := ands h6
        have l2 : vs.length = 2 := swS_len (of_decide_eq_true h7)
        match is, l1 with
        | [i, j], _ =>
          obtain ⟨_, _, e1, n1, _⟩ := okN_ok C (at_ 0 i _ rfl rfl)
          cases e1
          obtain ⟨_, _, e2, n2, _⟩ := okN_ok C (at_ 1 j _ rfl rfl)
          cases e2
          match vs, l2 with
          | [a, b], _ => exact st_par2 (C.calm h1) C.nd n1 n2 (by simpa using nd) (by rw [C.sc]; exact of_decide_eq_true h8) (by rw [C.sc]; exact of_decide_eq_true h9) o.o (sw_of C.blk_kind C.sc (of_decide_eq_true h7))
      · rename_i x px y py z pz
        obtain ⟨h6, h10⟩ := ands h6
        obtain ⟨h6, h9⟩ := ands h6
        obtain ⟨h7, h8⟩ := ands h6
        have l2 : vs.length = 3 := swS_len (of_decide_eq_true h7)
        match is, l1 with
        | [i, j, l], _ =>
          obtain ⟨_, _, e1, n1, _⟩ := okN_ok C (at_ 0 i _ rfl rfl)
          cases e1
          obtain ⟨_, _, e2, n2, _⟩ := okN_ok C (at_ 1 j _ rfl rfl)
          cases e2
          obtain ⟨_, _, e3, n3, _⟩ := okN_ok C (at_ 2 l _ rfl rfl)
          cases e3
          have nd : (¬i = j ∧ ¬i = l) ∧ ¬j = l := by simpa using nd
          match vs, l2 with
          | [a, b, d], _ => exact st_par3 (C.calm h1) C.nd n1 n2 n3 nd.1.1 nd.1.2 nd.2 (by rw [C.sc]; exact of_decide_eq_true h8) (by rw [C.sc]; exact of_decide_eq_true h9) (by rw [C.sc]; exact of_decide_eq_true h10) o.o (sw_of C.blk_kind C.sc (of_decide_eq_true h7))
      · cases h6
    · cases h
  | .setIx v i ex, S, st, X, N, W, c, k, C, h => by
    unfold okS at h
    split at h
    · rename_i x y ip w q
      obtain ⟨h, h4⟩ := ands h
      obtain ⟨h, h3⟩ := ands h
      obtain ⟨h1, h2⟩ := ands h
      obtain ⟨xn, xp, rfl, g1, g2, g3, g4⟩ := okV_ok C h1
      exact st_setIx (by have := C.un; omega) g1 g2 g3 g4 ((sE T ex C h4).v C h4) ((sE T i C h2).v C h2) h3 (show swapsWith w (some (.Subscript (.Name xn xp) y ip)) q.line X.env = pure false from sub_sw)
    · cases h
  | .expr ex, S, st, X, N, W, c, k, C, h => by
    unfold okS at h
    split at h
    · rename_i v q
      obtain ⟨h1, h2⟩ := ands h
      exact st_expr ((sE T ex C h1).e rfl) (nocomp_sw h2)
    · cases h
  | .mut m v es t, S, st, X, N, W, c, k, C, h => by
    unfold okS at h
    split at h
    · rename_i x nm ap ys p q
      obtain ⟨h, h5⟩ := ands h
      obtain ⟨h, h4⟩ := ands h
      obtain ⟨h, h3⟩ := ands h
      obtain ⟨h1, h2⟩ := ands h
      have r := st_mut (pos := q) (okM_ok (W := W) C h1 (of_decide_eq_true h2) h3 h4 h5) rfl
      rw [← mutF_bnd] at r
      exact r
    · rename_i y x nm ap ys p q tg
      obtain ⟨h, h5⟩ := ands h
      obtain ⟨h, h4⟩ := ands h
      obtain ⟨h, h3⟩ := ands h
      obtain ⟨h, h2⟩ := ands h
      obtain ⟨h0, h1⟩ := ands h
      have r := st_mutT (pos := q) (okM_ok (W := W) C h1 (of_decide_eq_true h2) h3 h4 h5) (okTg_ok C h0) (show swapsWith (.Call (.Attribute x nm ap) ys [] p) (some y) q.line X.env = pure false from nocomp_sw rfl) (by cases y <;> rfl) (okTg_each h0)
      rw [← mutF_bnd] at r
      exact r
    · cases h
  | .ret eo, S, st, X, N, W, c, k, C, h => by
    unfold okS at h
    split at h
    · exact st_retN
    · exact st_ret ((sE T _ C h).e rfl)
    · cases h
  | .ifs q a b, S, st, X, N, W, c, k, C, h => by
    unfold okS at h
    split at h
    · rename_i v x y p
      obtain ⟨h, h3⟩ := ands h
      obtain ⟨h1, h2⟩ := ands h
      exact st_if ((sE T q C h1).t rfl) (sSs T a C h2) (sSs T b C h3)
    · cases h
  | .for_ tg it body, S, st, X, N, W, c, k, C, h => by
    unfold okS at h
    split at h
    · rename_i t i x p
      obtain ⟨h, h6⟩ := ands h
      obtain ⟨h, h5⟩ := ands h
      obtain ⟨h, h4⟩ := ands h
      obtain ⟨h, h3⟩ := ands h
      obtain ⟨h1, h2⟩ := ands h
      exact st_for (C.own h1) (C.calm h2) (sI T it C h3) (okTg_ok C h5) (sSs T body C h6) (noset_fold h4)
    · cases h
  | .while_ q body, S, st, X, N, W, c, k, C, h => by
    unfold okS at h
    split at h
    · rename_i v x p
      obtain ⟨h, h3⟩ := ands h
      obtain ⟨h1, h2⟩ := ands h
      exact st_while (C.own h1) ((sE T q C h2).t rfl) (sSs T body C h3) many
    · cases h
  | .raise q es, S, st, X, N, W, c, k, C, h => by
    unfold okS at h
    split at h
    · rename_i x p1 p2 p3
      obtain ⟨h, h4⟩ := ands h
      obtain ⟨h, h3⟩ := ands h
      obtain ⟨h1, h2⟩ := ands h
      obtain ⟨B, ni, ii, bm, F, g1, g2, g3, g4⟩ := C.tb.ex q x (of_decide_eq_true h2)
      exact st_raise (C.calm h1) C.tk (pmk_own0 F g1 g2 g3 g4 (C.gl h3) (ndC_ok h4).1) fun σ H Q h => h
    · cases h
  | .try_ body ck i suite, S, st, X, N, W, c, k, C, h => by
    unfold okS at h
    split at h
    · rename_i b x np n y ys hp p
      obtain ⟨h, h8⟩ := ands h
      obtain ⟨h, h7⟩ := ands h
      obtain ⟨h, h6⟩ := ands h
      obtain ⟨h, h5⟩ := ands h
      obtain ⟨h, h4⟩ := ands h
      obtain ⟨h, h3⟩ := ands h
      obtain ⟨h1, h2⟩ := ands h
      obtain ⟨s1, s2⟩ := C.stk h1
      have hi : S.isx = none := by simpa using h2
      obtain ⟨cv, cu, g3, g4, g5, _, g6⟩ := C.tb.cat ck x (of_decide_eq_true h3)
      have hc : Names X x cu := ⟨C.gl h4, (ndC_ok h5).1, g3⟩
      have hb : ∀ (W : WX) (pn : List (Addr × Obj)) (xe : Value → Shared → Prop), Takes (X.tr pn xe) W → PassesOwn (model X.prog X.w) X.A X.env xe → PSs (X.tr pn xe) b (TS' N W (execs c body)) := fun W' pn xe tk own => sSs T body (C.tr hi tk own) h6
      cases n with
      | none =>
        cases i with
        | some i => cases h8
        | none =>
          have r := st_try_only (pos := p) (pos' := hp) (np := np) (sub := c.sub) (ms := fun x fs => execs { c with exc := some (x, fs) } suite) s1 s2 hc C.tk g6 hb (fun q a oe pn hz hf => sSs T suite (C.suiteNo q a oe pn) h7)
          exact r
      | some nm =>
        cases i with
        | none => cases h8
        | some i =>
          obtain ⟨h8, h9⟩ := ands (show (decide (S.N[i]? = some nm) && decide (S.sc.names.lookup nm = some .local)) = true from h8)
          have hk : X.env.kindOf nm = some .local := by unfold Env.kindOf; rw [C.sc]; exact of_decide_eq_true h9
          have r := st_try_as (pos := p) (pos' := hp) (np := np) (sub := c.sub) (ms := fun x fs => execs { c with exc := some (x, fs) } suite) s1 s2 C.nd (by rw [C.names]; exact of_decide_eq_true h8) hk hc C.tk g6 hb (fun q a oe pn hz hf => sSs T suite (C.suiteAs i q a oe pn hz hf) h7)
          exact r
    · cases h
  | .pass, S, st, X, N, W, c, k, C, h => by
    unfold okS at h
    split at h
    · exact st_pass
    · cases h
  | .brk, S, st, X, N, W, c, k, C, h => by
    unfold okS at h
    split at h
    · exact st_brk
    · cases h
  | .cnt, S, st, X, N, W, c, k, C, h => by
    unfold okS at h
    split at h
    · exact st_cnt
    · cases h
theorem sSs (T : Tb) : ∀ (ss : Stms) {S : Sc} {xs : List Stmt} {X : Cx} {N : Cn} {W : WX} {c : Cfg} {k : Nat}, Ctx T X N W c k S → okSs T S ss xs = true → PSs X xs (TS' N W (execs c ss))
  | .nil, S, xs, X, N, W, c, k, C, h => by
    cases xs with
    | nil => exact ss_nil
    | cons _ _ => cases h
  | .cons st ss, S, xs, X, N, W, c, k, C, h => by
    cases xs with
    | nil => cases h
    | cons x xs =>
      obtain ⟨h1, h2⟩ := ands (show (okS T S st x && okSs T S ss xs) = true from h)
      exact ss_cons (sS T st C h1) (sSs T ss C h2)
end
end
end Kb

set_option Elab.async false
set_option linter.all false
set_option maxRecDepth 100000
set_option maxHeartbeats 400000
/-! KbFn: the defs, by gas. -/
namespace Kb
open PySem PySem.Spec PyProof.Rows L2 TL
/-- a def of the text -/
structure Fs where
  x : Str
  ps : List Str
  ns : List Str
  body : List Stmt
  scope : Scope
  lam : Bool
  th : Bool
  gd : Bool := false
/-- the qualified name of a def's lambdas -/
abbrev lamQ (x : Str) : Str := (x ++ ".<locals>.") ++ "<lambda>"
def Fs.S (f : Fs) : Sc := { N := f.ns, sc := f.scope, lam := f.lam, act := f.th, gd := f.gd, slk := !f.th }
/-- what the head says of a def -/
def FnFact (K : Fg) (mg : Str → Option Value) (base : Heap) (TT : List (Addr × Str)) (s : Fs) : Prop :=
  ∃ (f : Addr) (fd : FuncData) (params : Arguments), mg s.x = some (.ref f) ∧ FunD K s.x s.x params s.body s.scope [] [] f fd ∧ FnScope s.ns s.ps s.scope ∧ Binds K fd s.ps [] ∧
    (s.lam = true → ∃ cd P, LamX.TabB base mg cd P ∧ fd.code = .ref cd ∧ (P, lamQ s.x) ∈ TT ∧ ∀ p ∈ TT, p.1 = P → p.2 = lamQ s.x)
/-- the text is checked -/
structure PrgOk (T : Tb) (Fl : List Fs) (Pl : List Fd) : Prop where
  fn : T.fn = Fl.map Fs.x
  len : Pl.length = Fl.length
  th : ∀ (j : Nat) s, Fl[j]? = some s → T.th j = s.th
  gd : ∀ (j : Nat) s, Fl[j]? = some s → T.gd j = s.gd ∧ (s.th = true → s.gd = false)
  thl : ∀ (j : Nat) s, Fl[j]? = some s → s.th = true → s.lam = false ∧ ∃ a, s.ps = [a] ∧ Vis s.scope a ∧ ndC a = true
  np : ∀ (j : Nat) s d, Fl[j]? = some s → Pl[j]? = some d → d.np = s.ps.length ∧ d.ns = s.ns.length
  ok : ∀ (j : Nat) s d, Fl[j]? = some s → Pl[j]? = some d → okSs T s.S d.body s.body = true
/-- facts that no gas is asked for -/
structure TbB (T : Tb) (P : Program) (w : World) (K : Fg) (mg : Str → Option Value) (base : Heap) (N : Cn) (sub : Nat → Nat → Bool) (ks : List D) : Prop where
  eK : N.K = K
  ew : N.w = w
  blt : ∀ b, mg (blStr b) = none
  ty : ∀ t, mg (tyStr t) = none
  rng : mg "range" = none
  zip : mg "zip" = none ∧ mg "enumerate" = none
  isi : mg "isinstance" = none
  ks : ∀ (i : Nat) x d, T.ks[i]? = some x → ks[i]? = some d → ∃ v u, mg x = some u ∧ RelV v u ∧ (∀ γ H, Rel N γ H d v) ∧ KT K d v
  ex : ∀ (q : Nat) x, T.exs[q]? = some x → ∃ B ni ii bm, ∃ _ : ExcBaseFacts B ni ii bm, PySem.W.excIn K (N.cls q) bm ni = true ∧ mg x = some (.ref (N.cls q)) ∧ PySem.W.keepIn K (.ref (N.cls q)) = true ∧ ∀ (M : Model) (h : Heap), K.In h → PySem.W.Looks M h (isSubtype (.ref (N.cls q)) (.type "BaseException")) true ∧ PySem.W.Looks M h (typeOf (.ref (N.cls q))) (.type "type")
  cat : ∀ (j : Nat) x, T.cat[j]? = some x → ∃ cv cu, (mg x = some cu ∨ (mg x = none ∧ bootBuiltins x = some cu ∧ x ≠ "__name__")) ∧ RelV cv cu ∧ (∀ u, RelV cv u → u = cu) ∧ (∀ q, PySem.W.kitOne K (.ref (N.cls q)) cu = some (sub q j)) ∧ ∀ q, PySem.W.exmOne K (.ref (N.cls q)) cu = some (sub q j)
  excC : ∀ q, ExcC K (N.cls q)
section
variable {T : Tb} {P : Program} {w : World} {K : Fg} {mg : Str → Option Value} {base : Heap} {N : Cn} {sub : Nat → Nat → Bool} {ks : List D} {Fl : List Fs} {Pl : List Fd}
/-- other knowledge of the same world -/
theorem TbOk.re {c c' : Cfg} {k : Nat} (h : TbOk T P w K mg base N c k) (e1 : c'.call = c.call) (e2 : c'.ks = c.ks) (e3 : c'.sub = c.sub) (b : Nat → Option Addr) (g : Gh) (hh : Hp) : TbOk T P w K mg base ⟨N.K, N.w, N.cls, N.T, b, g, hh⟩ c' k where
  eK := h.eK
  ew := h.ew
  blt := h.blt
  ty := h.ty
  rng := h.rng
  zip := h.zip
  isi := h.isi
  ks := fun i x d h1 h2 => by
    rw [e2] at h2
    obtain ⟨v, u, g1, g2, g3, g4⟩ := h.ks i x d h1 h2
    exact ⟨v, u, g1, g2, fun γ H => (g3 γ H).re, g4⟩
  fn := by rw [e1]; exact h.fn
  ex := h.ex
  cat := by rw [e3]; exact h.cat
  excC := h.excC
  th := by rw [e1]; exact h.th
abbrev cfg (sub : Nat → Nat → Bool) (ks : List D) (Pl : List Fd) (g : Nat) (th : Th) : Cfg := ⟨run sub ks Pl g, sub, th, ks, none⟩
theorem Fs.at {j : Nat} {x : Str} (O : PrgOk T Fl Pl) (h : T.fn[j]? = some x) : ∃ s d, Fl[j]? = some s ∧ Pl[j]? = some d ∧ s.x = x := by
  rw [O.fn, List.getElem?_map] at h
  cases e : Fl[j]? with
  | none => rw [e] at h; cases h
  | some s =>
    rw [e] at h
    cases h
    have hl : j < Pl.length := by
      rw [O.len]
      exact (List.getElem?_eq_some_iff.mp e).1
    exact ⟨s, Pl[j], rfl, List.getElem?_eq_getElem hl, rfl⟩
/-- the context of a def's body -/
theorem ctx_def {s : Fs} {g : Nat} {f : Addr} {cdv : Value} {A : Around} {outer : List Env} {sh : Shared} {H : Hp} {E : XK} (tb : TbOk T P w K mg base N (cfg sub ks Pl g none) (3 * g)) (hs : FnScope s.ns s.ps s.scope) (ht : s.th = false) (hgd : s.gd = true → A.guards = some [])
    (hl : s.lam = true → ∃ cd Pt, LamX.TabB base mg cd Pt ∧ cdv = .ref cd ∧ (Pt, lamQ s.x) ∈ N.T ∧ ∀ p ∈ N.T, p.1 = Pt → p.2 = lamQ s.x) (hr : Room (3 * g + 2) (A.deeper (envOfC s.x s.scope sh.heap.objs.size f cdv))) :
    Ctx T (cxOf (L2.CX P w) P w K mg base s.ns s.x s.scope f cdv A outer sh H E) N (fun cls d _ H' => E cls d H') (cfg sub ks Pl g none) (3 * g) s.S where
  tb := tb
  names := rfl
  nd := hs.nd
  sc := rfl
  kind := hs.kind
  fn := fun x _ => .inl rfl
  calm := fun _ => rfl
  room := fun _ => hr.mono (by split <;> omega)
  un := by
    have := hr.un
    show (A.deeper (envOfC s.x s.scope sh.heap.objs.size f cdv)).units + 65 < cLine
    omega
  gd := fun h => hgd h
  tk := takes_of rfl rfl rfl rfl
  own := fun _ => passes_of rfl
  stk := fun _ => ⟨rfl, rfl⟩
  isx := fun i h => by
    have h : (none : Option Nat) = some i := h
    cases h
  act := fun h => by
    have h : s.th = true := h
    rw [ht] at h
    cases h
  lam := fun h => by
    have h : s.lam = true := h
    obtain ⟨cd, Pt, h1, h2, h3, h4⟩ := hl h
    exact ⟨cd, Pt, h1, h2, h3, h4⟩
theorem run_none {g j : Nat} {ds : List D} {hp : List Ob} {d : Fd} (h : Pl[j]? = some d) : run sub ks Pl (g + 1) j ds none hp = if ds.length = d.np then done (execs (cfg sub ks Pl g none) d.body ⟨begin_ d ds, hp⟩) else none := by
  unfold run
  rw [h]
theorem run_some {g j : Nat} {tf : List Ob → Option Rf} {ds : List D} {hp : List Ob} {d : Fd} (h : Pl[j]? = some d) : run sub ks Pl (g + 1) j ds (some tf) hp = if d.np = 1 then done (execs (cfg sub ks Pl g (some tf)) d.body ⟨beginT d, hp⟩) else none := by
  unfold run
  rw [h]
theorem fn_gas {s : Fs} {d : Fd} {j g : Nat} {f : Addr} {fd : FuncData} {params : Arguments} (O : PrgOk T Fl Pl) (h1 : Fl[j]? = some s) (h2 : Pl[j]? = some d) (ht : s.th = false) (tb : TbOk T P w K mg base N.base (cfg sub ks Pl g none) (3 * g)) (F : FunD K s.x s.x params s.body s.scope [] [] f fd) (hs : FnScope s.ns s.ps s.scope)
    (hl : s.lam = true → ∃ cd Pt, LamX.TabB base mg cd Pt ∧ fd.code = .ref cd ∧ (Pt, lamQ s.x) ∈ N.T ∧ ∀ p ∈ N.T, p.1 = Pt → p.2 = lamQ s.x) : FnG s.gd P w K mg base (3 * (g + 1)) f fd s.ps (spOf N.base (fun ds hp => run sub ks Pl (g + 1) j ds none hp)) := by
  obtain ⟨oc, od, dV, kV, doc, pm, an, cdv, ct, osl, rfl, lk, hcd, _, _⟩ := F.ex
  obtain ⟨n1, n2⟩ := O.np j s d h1 h2
  have len : ∀ vs H Q E, spOf N.base (fun ds hp => run sub ks Pl (g + 1) j ds none hp) vs H Q E → vs.length = s.ps.length := by
    rintro vs H Q E ⟨γ, ds, hp, hr, rel, h⟩
    have h : PostC N.base γ H (run sub ks Pl (g + 1) j ds none hp) Q E := h
    rw [run_none h2] at h
    split at h
    · rename_i c
      rw [← rel.length, c, n1]
    · exact h.elim
  refine fnG_of (k := 3 * g + 2) lk hcd hs (fun {vs H Q E} h => len vs H Q E h) fun A outer sh H vs Q E hr hgd h => ?_
  have C := ctx_def (outer := outer) (H := H) (E := E) tb hs ht hgd hl hr
  refine ⟨_, sSs T d.body C (O.ok j s d h1 h2), ?_⟩
  obtain ⟨γ, ds, hp, hh, rel, h⟩ := h
  have h : PostC N.base γ H (run sub ks Pl (g + 1) j ds none hp) Q E := h
  rw [run_none h2] at h
  split at h
  · refine ⟨γ, ⟨begin_ d ds, hp⟩, SR.start hh rel n2, body_post (N := N.base) (fun i z => ?_) h⟩
    rcases z with ⟨xs, z⟩ | ⟨t, ks, vs, z⟩
    · obtain ⟨_, _, e⟩ := begin_get z; cases e
    · obtain ⟨_, _, e⟩ := begin_get z; cases e
  · exact h.elim
/-- a def that gets a lambda -/
theorem th_gas {s : Fs} {d : Fd} {j g : Nat} {a : Str} (O : PrgOk T Fl Pl) (h1 : Fl[j]? = some s) (h2 : Pl[j]? = some d) (ht : s.th = true) (hp : s.ps = [a]) (tb : TbOk T P w K mg base N.base (cfg sub ks Pl g none) (3 * g)) (hs : FnScope s.ns s.ps s.scope) (hl : s.lam = false)
    (Y : Cx) (cdv : Value) (f : Addr) (q : Str) (eP : Y.prog = P) (ew : Y.w = w) (eK : Y.K = K) (em : Y.mg = mg) (eb : Y.base = base) (hr : Room (3 * g + 1) Y.A) :
    LamX.GivesTo Y s.ns s.x s.scope f cdv s.body a q (TTw N.base (fun t hp => run sub ks Pl (g + 1) j [] t hp)) := by
  obtain ⟨n1, n2⟩ := O.np j s d h1 h2
  have n3 : d.np = 1 := by rw [n1, hp]; rfl
  have npos : 1 ≤ s.ns.length := by
    have := congrArg List.length hs.pre
    rw [hp, List.length_take] at this
    simp at this
    omega
  have h0 : s.ns[0]? = some a := by
    have := hs.pre
    rw [hp] at this
    cases hn : s.ns with
    | nil => rw [hn] at this; cases this
    | cons x r => rw [hn] at this; cases this; rfl
  subst eP ew eK em eb
  refine gives_of (N := N.base) (fd := d) (mb := fun tf => execs (cfg sub ks Pl g (some tf)) d.body) n2 npos (fun tf hp => ?_) fun f' c' sh H tl tf kg hF hc ht' act => ?_
  · rw [run_some h2, if_pos n3]
  · have C : Ctx T (cxOf C8.CX0 Y.prog Y.w Y.K Y.mg Y.base s.ns s.x s.scope f cdv Y.A Y.stack sh H C8.E0).nox ⟨N.K, N.w, N.cls, N.T, fun j => if j = 0 then some f' else none, kg, H⟩ (fun _ _ _ _ => False) (cfg sub ks Pl g (some tf)) (3 * g) s.S := {
      tb := TbOk.re (N := N.base) (c' := cfg sub ks Pl g (some tf)) tb rfl rfl rfl _ _ _
      names := rfl
      nd := hs.nd
      sc := rfl
      kind := hs.kind
      fn := fun x _ => .inl rfl
      calm := fun _ => rfl
      room := fun _ => by
        have : (s.S.lam || s.S.slk) = false := by
          show (s.lam || !s.th) = false
          rw [show s.lam = false from hl, ht]
          rfl
        rw [this]
        exact hr.deeper _
      un := by
        have := (hr.deeper (envOfC s.x s.scope sh.heap.objs.size f cdv)).un
        show (Y.A.deeper (envOfC s.x s.scope sh.heap.objs.size f cdv)).units + 65 < cLine
        omega
      gd := fun h => by
        have h : s.gd = true := h
        rw [(O.gd j s h1).2 ht] at h
        cases h
      tk := LamX.takes0
      own := fun _ => fun s e h => h.elim
      stk := fun _ => ⟨rfl, rfl⟩
      isx := fun i h => by
        have h : (none : Option Nat) = some i := h
        cases h
      act := fun _ => ⟨tf, f', c', q, tl, a, rfl, rfl, hF, hc, ht', h0, fun W' pn xe E p1 p2 tk hW => act W' pn xe E p1 p2 tk hW⟩
      lam := fun h => by
        have h : s.lam = true := h
        rw [hl] at h
        cases h }
    exact sSs T d.body C (O.ok j s d h1 h2)
theorem TbB.tb (B : TbB T P w K mg base N.base sub ks) {g : Nat}
    (fn : ∀ (i : Nat) x, T.fn[i]? = some x → T.th i = false → ∃ f fd ps, FnG (T.gd i) P w K mg base (3 * g) f fd ps (spOf N.base (fun ds hp => run sub ks Pl g i ds none hp)) ∧ mg x = some (.ref f) ∧ PySem.W.keepIn K (.ref f) = true ∧ Binds K fd ps [])
    (th : ∀ (j : Nat) x, T.fn[j]? = some x → T.th j = true → ∃ (a : Str) (ga : Addr) (pg : Arguments) (bg : List Stmt) (sg : Scope) (dV kV doc pm cdv ct oc : Value) (an od : Option Addr) (osl : Array (Option Value)) (Ng : List Str),
      mg x = some (.ref ga) ∧ PySem.W.keepIn K (.ref ga) = true ∧ K.lookup ga = some ⟨oc, od, .func (PySem.W.fnOf x x pg bg sg dV kV doc pm an cdv ct), osl⟩ ∧ PySem.W.codeIn K cdv x = true ∧ L2.Binds K (PySem.W.fnOf x x pg bg sg dV kV doc pm an cdv ct) [a] [] ∧
      FnScope Ng [a] sg ∧ Ng[0]? = some a ∧ Vis sg a ∧ ndC a = true ∧ ∀ (Y : Cx) (q : Str), Y.prog = P → Y.w = w → Y.K = K → Y.mg = mg → Y.base = base → Room (3 * g + 2) Y.A → LamX.GivesTo Y Ng x sg ga cdv bg a q (TTw N.base (fun t hp => run sub ks Pl g j [] t hp))) :
    TbOk T P w K mg base N.base (cfg sub ks Pl g none) (3 * g) where
  eK := B.eK
  ew := B.ew
  blt := B.blt
  ty := B.ty
  rng := B.rng
  zip := B.zip
  isi := B.isi
  ks := B.ks
  fn := fn
  ex := B.ex
  cat := B.cat
  excC := B.excC
  th := th
theorem tb_gas (B : TbB T P w K mg base N.base sub ks) (hf : ∀ s ∈ Fl, FnFact K mg base N.T s) (O : PrgOk T Fl Pl) : ∀ g, TbOk T P w K mg base N.base (cfg sub ks Pl g none) (3 * g) := by
  have key : ∀ (g : Nat), (∀ (j : Nat) s d, Fl[j]? = some s → Pl[j]? = some d → s.th = false → ∀ (f : Addr) (fd : FuncData) (params : Arguments), FunD K s.x s.x params s.body s.scope [] [] f fd → FnScope s.ns s.ps s.scope →
        (s.lam = true → ∃ cd Pt, LamX.TabB base mg cd Pt ∧ fd.code = .ref cd ∧ (Pt, lamQ s.x) ∈ N.T ∧ ∀ p ∈ N.T, p.1 = Pt → p.2 = lamQ s.x) → FnG s.gd P w K mg base (3 * g) f fd s.ps (spOf N.base (fun ds hp => run sub ks Pl g j ds none hp))) →
      (∀ (j : Nat) s d a, Fl[j]? = some s → Pl[j]? = some d → s.th = true → s.ps = [a] → FnScope s.ns s.ps s.scope → s.lam = false → ∀ (Y : Cx) (cdv : Value) (f : Addr) (q : Str), Y.prog = P → Y.w = w → Y.K = K → Y.mg = mg → Y.base = base → Room (3 * g + 2) Y.A →
        LamX.GivesTo Y s.ns s.x s.scope f cdv s.body a q (TTw N.base (fun t hp => run sub ks Pl g j [] t hp))) → TbOk T P w K mg base N.base (cfg sub ks Pl g none) (3 * g) := by
    intro g k1 k2
    refine B.tb (fun i x hx ht => ?_) (fun j x hx ht => ?_)
    · obtain ⟨s, d, e1, e2, rfl⟩ := Fs.at O hx
      obtain ⟨f, fd, params, q1, q2, q3, q4, q5⟩ := hf s (List.mem_of_getElem? e1)
      exact ⟨f, fd, s.ps, by rw [(O.gd i s e1).1]; exact k1 i s d e1 e2 (by rw [← O.th i s e1]; exact ht) f fd params q2 q3 q5, q1, q2.kp, q4⟩
    · obtain ⟨s, d, e1, e2, rfl⟩ := Fs.at O hx
      obtain ⟨f, fd, params, q1, q2, q3, q4, q5⟩ := hf s (List.mem_of_getElem? e1)
      have hs : s.th = true := by rw [← O.th j s e1]; exact ht
      obtain ⟨l1, a, l2, l3, l4⟩ := O.thl j s e1 hs
      obtain ⟨oc, od, dV, kV, doc, pm, an, cdv, ct, osl, rfl, lk, hcd, _, _⟩ := q2.ex
      have h0 : s.ns[0]? = some a := by
        have := q3.pre
        rw [l2] at this
        cases hn : s.ns with
        | nil => rw [hn] at this; cases this
        | cons x r => rw [hn] at this; cases this; rfl
      exact ⟨a, f, params, s.body, s.scope, dV, kV, doc, pm, cdv, ct, oc, an, od, osl, s.ns, q1, q2.kp, lk, hcd, by rw [← l2]; exact q4, by rw [← l2]; exact q3, h0, l3, l4, fun Y q a1 a2 a3 a4 a5 hr => k2 j s d a e1 e2 hs l2 q3 l1 Y cdv f q a1 a2 a3 a4 a5 hr⟩
  intro g
  induction g with
  | zero =>
    refine key 0 (fun j s d e1 e2 ht f fd params F hs hl => ⟨fun {vs H Q E} h => ?_, fun A outer sh H args us vs Q E hr hgd he hb r h => ?_⟩) (fun j s d a e1 e2 ht hp hs hl Y cdv f q _ _ _ _ _ _ f' c' sh H Q tl act hc h => ?_)
    · obtain ⟨γ, ds, hp, _, _, h⟩ := h
      exact (show False from h).elim
    · obtain ⟨γ, ds, hp, _, _, h⟩ := h
      exact (show False from h).elim
    · obtain ⟨γ, hp, tf, _, _, h⟩ := h
      exact (show False from h).elim
  | succ g ih =>
    refine key (g + 1) (fun j s d e1 e2 ht f fd params F hs hl => fn_gas O e1 e2 ht ih F hs hl) (fun j s d a e1 e2 ht hp hs hl Y cdv f q a1 a2 a3 a4 a5 hr => th_gas O e1 e2 ht hp ih hs hl Y cdv f q a1 a2 a3 a4 a5 (hr.mono (by omega)))
end
end Kb

set_option Elab.async false
set_option linter.all false
set_option maxRecDepth 100000
set_option maxHeartbeats 4000000
/-! KbHd: what the head tells, by one check of the written part. -/
namespace Kb
open PySem PySem.Spec PyProof.Rows L2 TL
/-! ### defs -/
/-- the parameters are bound in order -/
def BindS (s : Fs) (p : Arguments) : Prop := ∀ (kV doc pm : Value) (an : Option Addr) (cdv ct : Value) (us : List Value), us.length = s.ps.length → bindArgs (PySem.W.fnOf s.x s.x p s.body s.scope .none kV doc pm an cdv ct) ⟨us, []⟩ = pure (s.ps.zip us)
def fscB (N P : List Str) (sc : Scope) : Bool := decide (sc.kind = .function) && !sc.isCoroutine && !sc.isGenerator && decide N.Nodup && decide (N.take P.length = P) && (P.all fun x => locC sc x) && (sc.names.all fun y => !decide (y.2 = .free))
theorem fscB_ok {N P : List Str} {sc : Scope} (h : fscB N P sc = true) : FnScope N P sc := by
  unfold fscB at h
  obtain ⟨h, h7⟩ := ands h
  obtain ⟨h, h6⟩ := ands h
  obtain ⟨h, h5⟩ := ands h
  obtain ⟨h, h4⟩ := ands h
  obtain ⟨h, h3⟩ := ands h
  obtain ⟨h1, h2⟩ := ands h
  refine ⟨of_decide_eq_true h1, by simpa using h2, by simpa using h3, of_decide_eq_true h4, of_decide_eq_true h5, fun x hx => ?_, fun y hy e => ?_⟩
  · have := locC_ok (List.all_eq_true.mp h6 x hx)
    exact this
  · have := List.all_eq_true.mp h7 y hy
    rw [e] at this
    cases this
/-- a def's datum for the head -/
def Fs.d (s : Fs) (p : Arguments) : He.DefD := ⟨(s.x, none), s.x, s.x, p, s.body, s.scope, [], []⟩
/-! ### constants -/
mutual
def relK (K : Fg) : D → Value → Bool
  | .non, u => (match u with
    | .none => true
    | _ => false)
  | .bl b, u => (match u with
    | .bool c => b == c
    | _ => false)
  | .int i, u => (match u with
    | .int j _ => decide (i = j)
    | _ => false)
  | .str l, u => (match u with
    | .str y _ => decide (y = St l) && l.all fun c => decide (c < 0x110000)
    | _ => false)
  | .tup ds, u => (match u with
    | .ref a => (match K.lookup a with
      | some ⟨.type c, _, .seq its _, _⟩ => decide (c = "tuple") && decide (its.size ≤ sizeLine) && relKs K ds its.toList
      | _ => false)
    | _ => false)
  | _, _ => false
def relKs (K : Fg) : List D → List Value → Bool
  | [], us => us.isEmpty
  | d :: ds, us => (match us with
    | u :: us => relK K d u && relKs K ds us
    | [] => false)
end
section
variable {N : Cn}
mutual
theorem relK_ok : ∀ {d : D} {u : Value}, relK N.K d u = true → ∃ v, RelV v u ∧ ∀ γ H, Rel N γ H d v
  | .non, u, h => by
    cases u with
    | none => exact ⟨.non, rfl, fun _ _ => rfl⟩
    | _ => cases h
  | .bl b, u, h => by
    cases u with
    | bool c =>
      have e : b = c := eq_of_beq (show (b == c) = true from h)
      subst e
      exact ⟨.bl b, rfl, fun _ _ => rfl⟩
    | _ => cases h
  | .int i, u, h => by
    cases u with
    | int j t =>
      have e : i = j := of_decide_eq_true h
      subst e
      exact ⟨.int i, ⟨t, rfl⟩, fun _ _ => rfl⟩
    | _ => cases h
  | .str l, u, h => by
    cases u with
    | str y t =>
      obtain ⟨h1, h2⟩ := ands (show (decide (y = St l) && l.all fun c => decide (c < 0x110000)) = true from h)
      have e : y = St l := of_decide_eq_true h1
      subst e
      exact ⟨.str (St l), ⟨t, rfl⟩, fun _ _ => ⟨rfl, fun c hc => of_decide_eq_true (List.all_eq_true.mp h2 c hc)⟩⟩
    | _ => cases h
  | .tup ds, u, h => by
    cases u with
    | ref a =>
      have h : (match N.K.lookup a with
        | some ⟨.type c, _, .seq its _, _⟩ => decide (c = "tuple") && decide (its.size ≤ sizeLine) && relKs N.K ds its.toList
        | _ => false) = true := h
      cases q : N.K.lookup a with
      | none => rw [q] at h; cases h
      | some o =>
        obtain ⟨oc, od, dt, osl⟩ := o
        rw [q] at h
        cases oc with
        | type c =>
          cases dt with
          | seq its n =>
            obtain ⟨h, h3⟩ := ands (show (decide (c = "tuple") && decide (its.size ≤ sizeLine) && relKs N.K ds its.toList) = true from h)
            obtain ⟨h1, h2⟩ := ands h
            obtain ⟨vs, r1, r2⟩ := relKs_ok h3
            have ec : c = "tuple" := of_decide_eq_true h1
            subst ec
            exact ⟨.ref a, rfl, fun γ H => ⟨a, vs, rfl, .inr ⟨_, its, n, q, rfl, rfl, of_decide_eq_true h2, r1⟩, r2 γ H⟩⟩
          | _ => cases h
        | _ => cases dt <;> cases h
    | _ => cases h
  | .lst _, _, h => by cases h
  | .dic _ _, _, h => by cases h
  | .set _, _, h => by cases h
  | .ref _, _, h => by cases h
  | .scr _, _, h => by cases h
  | .kdic _ _, _, h => by cases h
theorem relKs_ok : ∀ {ds : List D} {us : List Value}, relKs N.K ds us = true → ∃ vs, Vals vs us ∧ ∀ γ H, RelL N γ H ds vs
  | [], us, h => by
    cases us with
    | nil => exact ⟨[], .nil, fun _ _ => rfl⟩
    | cons _ _ => cases h
  | d :: ds, us, h => by
    cases us with
    | nil => cases h
    | cons u us =>
      obtain ⟨h1, h2⟩ := ands (show (relK N.K d u && relKs N.K ds us) = true from h)
      obtain ⟨v, r1, r2⟩ := relK_ok h1
      obtain ⟨vs, r3, r4⟩ := relKs_ok h2
      exact ⟨v :: vs, .cons r1 r3, fun γ H => .cons (r2 γ H) (r4 γ H)⟩
end
end
/-- a def's fact, by the head's -/
theorem fnFact_of {K : Fg} {mg : Str → Option Value} {base : Heap} {TT : List (Addr × Str)} {s : Fs} {p : Arguments} {fd : FuncData} (F : FunD K s.x s.x p s.body s.scope [] [] (He.fAd K (s.x, none)) fd) (hm : mg s.x = some (.ref (He.fAd K (s.x, none)))) (hs : fscB s.ns s.ps s.scope = true) (hb : BindS s p)
    (hl : s.lam = true → LamX.TabB base mg (He.cT K (s.x, none)).1 (He.cT K (s.x, none)).2 ∧ ((He.cT K (s.x, none)).2, lamQ s.x) ∈ TT ∧ ∀ q ∈ TT, q.1 = (He.cT K (s.x, none)).2 → q.2 = lamQ s.x) : FnFact K mg base TT s := by
  refine ⟨_, fd, p, hm, F, fscB_ok hs, F.bindsN hb, fun h => ?_⟩
  obtain ⟨h1, h2, h3⟩ := hl h
  obtain ⟨oc, od, dV, kV, doc, pm, an, cdv, ct, osl, rfl, lk, hcd, _, _⟩ := F.ex
  obtain ⟨c, rfl⟩ := He.codeIn_ref hcd
  have ec : He.codeOf K (s.x, none) = c := He.codeOf_eq lk rfl
  refine ⟨c, (He.cT K (s.x, none)).2, ?_, rfl, h2, h3⟩
  have : (He.cT K (s.x, none)).1 = c := ec
  rw [this] at h1
  exact h1
/-- what is known of the law's def -/
def LawG (l : PySem.W.OpenLaw) (w : World) (K : Fg) (k n : Nat) (x : Str) (mg : Str → Option Value) (fa : Addr) (h : Heap) : Prop :=
  ∃ (fd : FuncData) (cs : List (Addr × Addr)) (sp : Sp), (∀ p ∈ cs, h.get? p.2 = some { cls := .none, data := .fields #[] }) ∧ (∀ p ∈ cs, K.lookup p.2 = none) ∧ (∀ p ∈ cs, PySem.W.CodeHd h p.1 p.2) ∧ (∀ (z : Shared) (u : Value), BindsTo z fd ⟨[u], []⟩ [(x, u)]) ∧
    (∀ (H : Hp) (a : Addr) (ns : List Int), ns.length ≤ n → (∀ i ∈ ns, Builtin.Int.intBits i ≤ 1048576) → (∀ p ∈ cs, H p.2 = some (.tbl #[])) → SqL K H a (ns.map V.int) → sp [.ref a] H (fun v _ => v = .bl true) fun _ _ _ => False) ∧
    ∀ base : Heap, K.In base → base.Ns mainGlobals mg → (∀ p ∈ cs, LamX.TabB base mg p.1 p.2) → FnG true l.prog w K mg base k fa fd [x] sp
theorem FnG.quiet {gd : Bool} {P : Program} {w : World} {K : Fg} {mg : Str → Option Value} {base : Heap} {k : Nat} {f : Addr} {fd : FuncData} {ps : List Str} {sp : Sp} (F : FnG gd P w K mg base k f fd ps sp) : FnG true P w K mg base k f fd ps sp :=
  ⟨F.n, fun A up z H ar us xs Q E r g => F.go A up z H ar us xs Q E r fun _ => g rfl⟩
/-- what the head's K makes of the law -/
theorem law_at {l : PySem.W.OpenLaw} {w : World} {K : Fg} {mg : Str → Option Value} {h : Heap} {fa : Addr} {fac : List He.Fa} {fn : List He.DefD} {ts : List He.Tab} {tf : List He.Defn} {ex : Fg → Bool} {T : Tb} {N : Cn} {sub : Nat → Nat → Bool} {ks : List D} {Fl : List Fs} {Pl : List Fd} {g jl : Nat} {sl : Fs} {dl : Fd} {n : Nat}
    (KX : K.In h) (c : He.SaysX fac fn ts tf ex w h K) (eT : N.T = tf.map fun p => ((He.cT K p).2, lamQ p.1)) (nd : (tf.map fun p => (He.cT K p).2).Nodup) (ho : ∀ p ∈ tf, p.2 = none)
    (B : ∀ base, TbB T l.prog w K mg base N.base sub ks) (O : PrgOk T Fl Pl)
    (hf : ∀ s ∈ Fl, ∃ p fd, FunD K s.x s.x p s.body s.scope [] [] (He.fAd K (s.x, none)) fd ∧ mg s.x = some (.ref (He.fAd K (s.x, none))) ∧ fscB s.ns s.ps s.scope = true ∧ BindS s p ∧ (s.lam = true → (s.x, none) ∈ tf))
    (e1 : Fl[jl]? = some sl) (e2 : Pl[jl]? = some dl) (el : sl.ps = [("script" : Str)]) (et : sl.th = false) (hm : mg sl.x = some (.ref fa))
    (plain : ∀ ns : List Int, ns.length ≤ n → (∀ z ∈ ns, Builtin.Int.intBits z ≤ 1048576) → ∃ hp', run sub ks Pl (g + 1) jl [.scr ns] none [] = some (.ret (.val (.bl true)) hp')) :
    LawG l w K (3 * (g + 1)) n "script" mg fa h := by
  obtain ⟨p, fd, F, m1, fs, hb, hl⟩ := hf sl (List.mem_of_getElem? e1)
  rw [hm] at m1
  cases m1
  have facts : ∀ base : Heap, (∀ p ∈ tf.map (He.cT K), LamX.TabB base mg p.1 p.2) → ∀ (s : Fs), (s.lam = true → (s.x, none) ∈ tf) → s.lam = true → LamX.TabB base mg (He.cT K (s.x, none)).1 (He.cT K (s.x, none)).2 ∧ ((He.cT K (s.x, none)).2, lamQ s.x) ∈ N.T ∧ ∀ q ∈ N.T, q.1 = (He.cT K (s.x, none)).2 → q.2 = lamQ s.x := fun base hT s hi h => by
    have m := hi h
    refine ⟨hT _ (List.mem_map.mpr ⟨_, m, rfl⟩), by rw [eT]; exact List.mem_map.mpr ⟨_, m, rfl⟩, fun q hq e => ?_⟩
    rw [eT] at hq
    obtain ⟨r, hr, rfl⟩ := List.mem_map.mp hq
    have : r = (s.x, none) := by
      obtain ⟨i, hi', ei⟩ := List.mem_iff_getElem.mp hr
      obtain ⟨j, hj', ej⟩ := List.mem_iff_getElem.mp m
      have e : (He.cT K r).2 = (He.cT K (s.x, none)).2 := e
      have : (tf.map fun p => (He.cT K p).2)[i]'(by simpa using hi') = (tf.map fun p => (He.cT K p).2)[j]'(by simpa using hj') := by
        rw [List.getElem_map, List.getElem_map, ei, ej, e]
      have ij := (List.getElem_inj nd).mp this
      subst ij
      rw [← ei, ← ej]
    rw [this]
  refine ⟨fd, tf.map (He.cT K), spOf N.base (fun ds hp => run sub ks Pl (g + 1) jl ds none hp), fun p hp => ?_, fun p hp => ?_, fun p hp => ?_, fun s u => ?_, fun H a ns hn hbits hT hS => ?_, fun base KB G hT => ?_⟩
  · obtain ⟨r, hr, rfl⟩ := List.mem_map.mp hp
    exact c.empty r hr
  · obtain ⟨r, hr, rfl⟩ := List.mem_map.mp hp
    exact c.out r hr
  · obtain ⟨r, hr, rfl⟩ := List.mem_map.mp hp
    exact PySem.W.codeHd_of_K KX (c.hd r hr)
  · have := F.bindsA (ps := sl.ps) hb s [u] (by rw [el]; rfl)
    rw [el] at this
    exact this
  · obtain ⟨hp', er⟩ := plain ns hn hbits
    have hK : N.K = K := (B h).eK
    refine ⟨⟨[], fun b => (∃ q, H b = some (LamX.CodeO b q)) ∨ (b = a ∧ (H a = some (.lst (ns.map V.int)) ∨ ∃ o, H a = some (.frz o (.lst (ns.map V.int)))))⟩, [.scr ns], [], ⟨List.nodup_nil, rfl, fun k xs h => by simp at h, fun b hb => (by simp at hb), fun b hb n => ?_, fun q hq => ?_, keep0, fun b q hq => .inl ⟨q, hq⟩⟩, ?_, ?_⟩
    · rcases hb with ⟨q, hq⟩ | ⟨rfl, hq | ⟨o, hq⟩⟩
      · exact n.no hq (fun _ z => nomatch z)
      · exact n.no hq (fun _ z => nomatch z)
      · exact n.no hq (fun _ z => nomatch z)
    · have hq : q ∈ N.T := hq
      rw [eT] at hq
      obtain ⟨r, hr, rfl⟩ := List.mem_map.mp hq
      exact LamX.TabS.nil (hT (He.cT K r) (List.mem_map.mpr ⟨r, hr, rfl⟩))
    · refine RelL.cons ⟨a, rfl, ?_⟩ (RelL.nil_iff.mpr rfl)
      rcases hS with (hS | ⟨o, hS⟩) | hS
      · exact .inl ⟨.inr ⟨rfl, .inl hS⟩, .inl hS⟩
      · exact .inl ⟨.inr ⟨rfl, .inr ⟨o, hS⟩⟩, .inr ⟨o, hS⟩⟩
      · exact .inr (by rw [← hK] at hS; exact hS)
    · show PostC N.base _ H (run sub ks Pl (g + 1) jl [.scr ns] none []) _ _
      rw [er]
      exact fun γ' H' x _ _ rel => rel
  · have hfa : ∀ s ∈ Fl, FnFact K mg base N.T s := fun s hs => by
      obtain ⟨p, fd, F, m1, fs, hb, hl⟩ := hf s hs
      exact fnFact_of F m1 fs hb (facts base hT s hl)
    have tb := tb_gas (N := N) (B base) hfa O g
    have r := fn_gas O e1 e2 et tb F (fscB_ok fs) (fun hx => by
      obtain ⟨h1, h2, h3⟩ := facts base hT sl hl hx
      obtain ⟨oc, od, dV, kV, doc, pm, an, cdv, ct, osl, rfl, lk, hcd, _, _⟩ := F.ex
      obtain ⟨cc, rfl⟩ := He.codeIn_ref hcd
      have ec : (He.cT K (sl.x, none)).1 = cc := He.codeOf_eq lk rfl
      rw [ec] at h1
      exact ⟨cc, _, h1, rfl, h2, h3⟩)
    rw [el] at r
    exact r.quiet
end Kb

set_option Elab.async false
set_option linter.all false
set_option maxRecDepth 100000
set_option maxHeartbeats 4000000
/-! KbKd: the module's dicts with text keys. -/
namespace Kb
open PySem PySem.Spec PyProof.Rows L2 TL
def relKd (K : Fg) : List (List Nat) → List D → List DictEntry → Bool
  | [], [], [] => true
  | k :: ks, d :: ds, e :: es => (match e.key with
    | .str y _ => decide (y = St k)
    | _ => false) && relK K d e.val && relKd K ks ds es
  | _, _, _ => false
theorem relKd_ok {N : Cn} : ∀ {ks : List (List Nat)} {ds : List D} {es : List DictEntry}, relKd N.K ks ds es = true →
    ∃ vs : List V, ks.length = vs.length ∧ (∀ γ H, RelL N γ H ds vs) ∧ (∀ x, idxT x ks = none → es.find? (·.key.isStr (St x)) = none) ∧ (∀ x j, idxT x ks = some j → ∃ e v, es.find? (·.key.isStr (St x)) = some e ∧ vs[j]? = some v ∧ RelV v e.val) ∧ es.any (·.refKey) = false
  | [], [], [], _ => ⟨[], rfl, fun _ _ => rfl, fun _ _ => rfl, fun x j h => (nomatch h), rfl⟩
  | [], [], _ :: _, h => by cases h
  | [], _ :: _, _, h => by cases h
  | _ :: _, [], _, h => by cases h
  | _ :: _, _ :: _, [], h => by cases h
  | k :: ks, d :: ds, e :: es, h => by
    obtain ⟨h, h3⟩ := ands (show ((match e.key with
      | .str y _ => decide (y = St k)
      | _ => false) && relK N.K d e.val && relKd N.K ks ds es) = true from h)
    obtain ⟨h1, h2⟩ := ands h
    obtain ⟨vs, g1, g2, g3, g4, g5⟩ := relKd_ok h3
    obtain ⟨v, r1, r2⟩ := relK_ok h2
    cases ek : e.key with
    | str y t =>
      rw [ek] at h1
      have ey : y = St k := of_decide_eq_true h1
      subst ey
      have hit : ∀ x, e.key.isStr (St x) = decide (x = k) := fun x => by
        rw [ek]
        show (St k == St x) = decide (x = k)
        by_cases c : x = k
        · subst c; simp
        · rw [decide_eq_false c]
          simp only [beq_eq_false_iff_ne]
          exact fun z => c (St_inj z).symm
      refine ⟨v :: vs, by simp [g1], fun γ H => .cons (r2 γ H) (g2 γ H), fun x hx => ?_, fun x j hx => ?_, ?_⟩
      · unfold idxT at hx
        by_cases c : x = k
        · rw [if_pos c] at hx; cases hx
        · rw [if_neg c] at hx
          rw [List.find?_cons, hit, decide_eq_false c]
          exact g3 x (by cases q : idxT x ks with
            | none => rfl
            | some j => rw [q] at hx; cases hx)
      · unfold idxT at hx
        by_cases c : x = k
        · rw [if_pos c] at hx
          cases hx
          exact ⟨e, v, by rw [List.find?_cons, hit, decide_eq_true c], rfl, r1⟩
        · rw [if_neg c] at hx
          cases q : idxT x ks with
          | none => rw [q] at hx; cases hx
          | some i =>
            rw [q] at hx
            cases hx
            obtain ⟨e', v', a1, a2, a3⟩ := g4 x i q
            exact ⟨e', v', by rw [List.find?_cons, hit, decide_eq_false c]; exact a1, by simpa using a2, a3⟩
      · rw [List.any_cons, g5]
        have : e.refKey = false := by
          unfold DictEntry.refKey
          rw [ek]
        rw [this]
        rfl
    | _ => rw [ek] at h1; cases h1
theorem kdic_ok {N : Cn} {a : Addr} {es : Array DictEntry} {n : Nat} {ks : List (List Nat)} {ds : List D} (D : KDict N.K N.w a es n) (h : relKd N.K ks ds es.toList = true) : ∀ γ H, Rel N γ H (.kdic ks ds) (.ref a) := by
  obtain ⟨vs, g1, g2, g3, g4, g5⟩ := relKd_ok h
  have ns : ∀ x, PySem.W.nsIn N.K a (St x) = (match es.toList.find? (·.key.isStr (St x)) with
      | some e => some (some e.val)
      | none => some none) := fun x => by
    unfold PySem.W.nsIn
    rw [D.at_]
    dsimp only
    cases es.toList.find? (·.key.isStr (St x)) with
    | some e => rfl
    | none =>
      show (if es.toList.any (·.refKey) = true then none else some none) = some none
      rw [g5]
      rfl
  refine fun γ H => ⟨a, vs, rfl, ⟨⟨es, n, D⟩, g1, fun x hx => ?_, fun x j hx => ?_⟩, g2 γ H⟩
  · rw [ns, g3 x hx]
  · obtain ⟨e, v, a1, a2, a3⟩ := g4 x j hx
    exact ⟨e.val, v, by rw [ns, a1], a2, a3⟩
end Kb

set_option Elab.async false
set_option linter.all false
set_option maxRecDepth 100000
set_option maxHeartbeats 4000000
/-! KbTb: the facts of names, constants, classes, by one check of the written part. -/
namespace Kb
open PySem PySem.Spec PyProof.Rows L2 TL
def exAt (T : Tb) (q : Nat) : Str := T.exs.getD (if q < T.exs.length then q else 0) ""
def clsOf (T : Tb) (K : Fg) (q : Nat) : Addr := He.ga K (exAt T q)
def freeB (K : Fg) (x : Str) : Bool := He.eqO (PySem.W.nsIn K mainGlobals x) (some none)
def bls : List Bl := [.reprT, .len, .abs, .int, .str, .repr, .all, .any, .list, .tuple, .set, .dict, .sorted, .max, .min, .sum]
def tys : List Ty := [.int, .bool, .str, .tuple, .list, .dict]
def excCB (K : Fg) (C : Addr) : Bool := He.eqO (PySem.W.findIn K (.ref C) "__getattribute__") (some (some (.builtin "BaseException.__getattribute__"))) && He.eqO (PySem.W.findIn K (.ref C) "__getattr__") (some none) && decide (PySem.W.subIn K (.ref C) (.type "BaseException") = some true) && PySem.W.hasDictIn K C &&
  He.eqO (PySem.W.findIn K (.ref C) "__class__") (some (some (.builtin "object.__class__"))) && He.eqO (PySem.W.specialIn K (.builtin "object.__class__") "__get__") (some (some (.builtin "getset_descriptor.__get__"))) && decide (PySem.W.takesIn K (.builtin "object.__class__") = some true) && decide (PySem.W.mroIn K C (.type "object") = some true)
theorem excCB_ok {K : Fg} {C : Addr} (h : excCB K C = true) : ExcC K C := by
  unfold excCB at h
  obtain ⟨h, h8⟩ := ands h
  obtain ⟨h, h7⟩ := ands h
  obtain ⟨h, h6⟩ := ands h
  obtain ⟨h, h5⟩ := ands h
  obtain ⟨h, h4⟩ := ands h
  obtain ⟨h, h3⟩ := ands h
  obtain ⟨h1, h2⟩ := ands h
  exact ⟨He.eqO_ok h1, He.eqO_ok h2, of_decide_eq_true h3, h4, He.eqO_ok h5, He.eqO_ok h6, of_decide_eq_true h7, of_decide_eq_true h8⟩
/-- a class that is asked of -/
def catB (T : Tb) (sub : Nat → Nat → Bool) (K : Fg) (j : Nat) (x : Str) : Bool :=
  let all (cu : Value) : Bool := (List.range (max T.exs.length 1)).all fun q => decide (PySem.W.kitOne K (.ref (clsOf T K q)) cu = some (sub q j)) && decide (PySem.W.exmOne K (.ref (clsOf T K q)) cu = some (sub q j))
  match PySem.W.nsIn K mainGlobals x with
  | some (some (.ref C)) => all (.ref C)
  | some none => (match bootBuiltins x with
    | some (.type X) => decide (x ≠ "__name__") && all (.type X)
    | _ => false)
  | _ => false
def ktB (K : Fg) : D → Value → Bool
  | .tup _, .ref a => (match K.lookup a with
    | some ⟨.type c, none, _, _⟩ => decide (c = "tuple")
    | _ => false)
  | .tup _, _ => false
  | _, _ => true
theorem ktB_ok {K : Fg} {d : D} {u : Value} {v : V} (r : RelV v u) (h : ktB K d u = true) : KT K d v := by
  rintro xs rfl
  unfold ktB at h
  split at h
  · split at h
    · rename_i c _ _ hl
      have e := of_decide_eq_true h
      subst e
      cases v <;> first | (cases r; exact ⟨_, _, rfl, hl, rfl, rfl⟩) | (obtain ⟨_, r⟩ := r; cases r) | cases r
    · cases h
  · cases h
  · rename_i z _
    exact (z _ rfl).elim
/-- a constant of the module -/
def ksC (K : Fg) (x : Str) : D → Bool
  | .kdic ks ds => (match PySem.W.nsIn K mainGlobals x with
    | some (some (.ref a)) => decide (a = He.ga K x) && (match K.lookup a with
      | some ⟨_, _, .dict es _, _⟩ => relKd K ks ds es.toList
      | _ => false)
    | _ => false)
  | d => (match PySem.W.nsIn K mainGlobals x with
    | some (some u) => relK K d u && ktB K d u
    | _ => false)
theorem ksC_ok {K : Fg} {mg : Str → Option Value} {h : Heap} {N : Cn} (KX : K.In h) (G : h.Ns mainGlobals mg) (eK : N.K = K) {x : Str} {d : D} (hk : ∀ kl ds, d = .kdic kl ds → ∃ es n, KDict N.K N.w (He.ga K x) es n) (c : ksC K x d = true) : ∃ v u, mg x = some u ∧ RelV v u ∧ (∀ γ H, Rel N γ H d v) ∧ KT K d v := by
  have plain : (match PySem.W.nsIn K mainGlobals x with
    | some (some u) => relK K d u && ktB K d u
    | _ => false) = true → ∃ v u, mg x = some u ∧ RelV v u ∧ (∀ γ H, Rel N γ H d v) ∧ KT K d v := fun e => by
    split at e
    · rename_i u hu
      obtain ⟨e, e2⟩ := ands e
      rw [← eK] at e
      obtain ⟨v, r1, r2⟩ := relK_ok e
      exact ⟨v, u, PySem.W.mg_of KX G hu, r1, r2, ktB_ok r1 e2⟩
    · cases e
  cases d with
  | kdic kl ds =>
    unfold ksC at c
    dsimp only at c
    split at c
    · rename_i a ha
      obtain ⟨c1, c2⟩ := ands c
      have ea := of_decide_eq_true c1
      subst ea
      obtain ⟨es, n, D⟩ := hk kl ds rfl
      have lk := D.at_
      rw [eK] at lk
      rw [lk] at c2
      rw [← eK] at c2
      exact ⟨.ref _, .ref _, PySem.W.mg_of KX G ha, rfl, kdic_ok D c2, fun xs z => nomatch z⟩
    · cases c
  | _ => exact plain c
def tbC (T : Tb) (ks : List D) (sub : Nat → Nat → Bool) (K : Fg) : Bool :=
  (bls.all fun b => freeB K (blStr b)) && (tys.all fun t => freeB K (tyStr t)) && (freeB K "range" && (freeB K "zip" && freeB K "enumerate")) && freeB K "isinstance" &&
  ((T.ks.zip ks).all fun p => ksC K p.1 p.2) &&
  (T.exs.all fun x => He.eqO (PySem.W.nsIn K mainGlobals x) (some (some (.ref (He.ga K x)))) && (He.Fa.exc x).ok K) &&
  ((List.range (max T.exs.length 1)).all fun q => excCB K (clsOf T K q)) && ((List.range T.cat.length).all fun j => catB T sub K j (T.cat.getD j ""))
theorem cls_clamp (T : Tb) (K : Fg) (q : Nat) : clsOf T K q = clsOf T K (if q < T.exs.length then q else 0) := by
  unfold clsOf exAt
  by_cases c : q < T.exs.length
  · rw [if_pos c, if_pos c]
  · rw [if_neg c]
    by_cases c0 : 0 < T.exs.length
    · rw [if_pos c0]
    · rw [if_neg c0]
theorem clamp_lt (T : Tb) (q : Nat) : (if q < T.exs.length then q else 0) ∈ List.range (max T.exs.length 1) := by
  rw [List.mem_range]
  by_cases c : q < T.exs.length
  · rw [if_pos c]; omega
  · rw [if_neg c]; omega
theorem tbC_ok {T : Tb} {ks : List D} {sub : Nat → Nat → Bool} {P : Program} {w : World} {K : Fg} {mg : Str → Option Value} {base h : Heap} {N : Cn} (KX : K.In h) (G : h.Ns mainGlobals mg) (eK : N.K = K) (ew : N.w = w) (ec : N.cls = clsOf T K) (hkd : ∀ x kl ds, (x, D.kdic kl ds) ∈ T.ks.zip ks → ∃ es n, KDict N.K N.w (He.ga K x) es n) (es : ∀ q j, sub q j = sub (if q < T.exs.length then q else 0) j) (c : tbC T ks sub K = true) : TbB T P w K mg base N sub ks := by
  unfold tbC at c
  obtain ⟨c, c8⟩ := ands c
  obtain ⟨c, c7⟩ := ands c
  obtain ⟨c, c6⟩ := ands c
  obtain ⟨c, c5⟩ := ands c
  obtain ⟨c, c4⟩ := ands c
  obtain ⟨c, c3⟩ := ands c
  obtain ⟨c1, c2⟩ := ands c
  have fr : ∀ x, freeB K x = true → mg x = none := fun x e => PySem.W.mg_none_of KX G (He.eqO_ok e)
  refine ⟨eK, ew, fun b => fr _ (List.all_eq_true.mp c1 b (by cases b <;> decide)), fun t => fr _ (List.all_eq_true.mp c2 t (by cases t <;> decide)), fr _ (ands c3).1, ⟨fr _ (ands (ands c3).2).1, fr _ (ands (ands c3).2).2⟩, fr _ c4, fun i x d h1 h2 => ?_, fun q x hq => ?_, fun j x hj => ?_, fun q => ?_⟩
  · have m : (x, d) ∈ T.ks.zip ks := by
      rw [List.mem_iff_getElem?]
      exact ⟨i, by rw [List.getElem?_zip_eq_some]; exact ⟨h1, h2⟩⟩
    exact ksC_ok KX G eK (fun kl ds e => hkd x kl ds (by rw [← e]; exact m)) (List.all_eq_true.mp c5 _ m)
  · obtain ⟨d1, d2⟩ := ands (List.all_eq_true.mp c6 x (List.mem_of_getElem? hq))
    have hl := (List.getElem?_eq_some_iff.mp hq).1
    have ea : N.cls q = He.ga K x := by
      rw [ec]
      unfold clsOf exAt
      rw [if_pos hl, List.getD_eq_getElem?_getD, hq]
      rfl
    obtain ⟨x1, x2, x3, x4⟩ := He.exc_ok d2
    refine ⟨_, _, _, _, PySem.F.excBase_ValueError, ?_⟩
    rw [ea]
    exact ⟨x1, PySem.W.mg_of KX G (He.eqO_ok d1), x2, fun M hh k => ⟨PySem.W.looks_subIn k x3, PySem.W.looks_typeIn k x4⟩⟩
  · have hl := (List.getElem?_eq_some_iff.mp hj).1
    have e := List.all_eq_true.mp c8 j (List.mem_range.mpr hl)
    rw [List.getD_eq_getElem?_getD, hj] at e
    have e : catB T sub K j x = true := e
    unfold catB at e
    dsimp only at e
    have fin : ∀ cu, ((List.range (max T.exs.length 1)).all fun q => decide (PySem.W.kitOne K (.ref (clsOf T K q)) cu = some (sub q j)) && decide (PySem.W.exmOne K (.ref (clsOf T K q)) cu = some (sub q j))) = true →
        (∀ q, PySem.W.kitOne K (.ref (N.cls q)) cu = some (sub q j)) ∧ ∀ q, PySem.W.exmOne K (.ref (N.cls q)) cu = some (sub q j) := fun cu e => by
      refine ⟨fun q => ?_, fun q => ?_⟩
      · obtain ⟨a, b⟩ := ands (List.all_eq_true.mp e _ (clamp_lt T q))
        rw [ec, cls_clamp, es q j]
        exact of_decide_eq_true a
      · obtain ⟨a, b⟩ := ands (List.all_eq_true.mp e _ (clamp_lt T q))
        rw [ec, cls_clamp, es q j]
        exact of_decide_eq_true b
    split at e
    · rename_i C hC
      obtain ⟨f1, f2⟩ := fin _ e
      exact ⟨.ref C, .ref C, .inl (PySem.W.mg_of KX G hC), rfl, fun u r => r, f1, f2⟩
    · rename_i hC
      split at e
      · rename_i X hX
        obtain ⟨e1, e2⟩ := ands e
        obtain ⟨f1, f2⟩ := fin _ e2
        exact ⟨.ty X, .type X, .inr ⟨PySem.W.mg_none_of KX G hC, hX, of_decide_eq_true e1⟩, rfl, fun u r => r, f1, f2⟩
      · cases e
    · cases e
  · rw [ec, cls_clamp]
    exact excCB_ok (List.all_eq_true.mp c7 _ (clamp_lt T q))
end Kb

set_option Elab.async false
set_option linter.all false
set_option maxRecDepth 100000
set_option maxHeartbeats 4000000
/-! KbG: the law's call where nothing is under way. -/
namespace Kb
open PySem PySem.Spec PyProof.Rows L2 TL
/-- what is tracked at the law's call: the tables; the script, where the written part does not hold it -/
def Hp0 (K : Fg) (tb : List Addr) (a : Addr) (ob : Obj) (ns : List Int) : Hp := fun b =>
  if b ∈ tb then some (.tbl #[]) else if b = a ∧ (K.lookup a).isNone = true then some (.frz ob (.lst (ns.map V.int))) else none
section
variable {P : Program} {w : World} {K : Fg} {mg mb : Str → Option Value} {fa a : Addr} {cs : List (Addr × Addr)} {sh : Shared} {vs : List Value} {ns : List Int} {ob : Obj} {tb : List Addr}
inductive Hp0C (K : Fg) (tb : List Addr) (a : Addr) (ob : Obj) (ns : List Int) (b : Addr) : Prop where
  | tab (m : b ∈ tb) (e : Hp0 K tb a ob ns b = some (.tbl #[]))
  | scr (m : b ∉ tb) (eq : b = a) (k : K.lookup a = none) (e : Hp0 K tb a ob ns b = some (.frz ob (.lst (ns.map V.int))))
  | no (m : b ∉ tb) (k : b = a → ∃ o, K.lookup a = some o) (e : Hp0 K tb a ob ns b = none)
theorem hp0_case (b : Addr) : Hp0C K tb a ob ns b := by
  by_cases m : b ∈ tb
  · exact .tab m (if_pos m)
  · by_cases c : b = a ∧ (K.lookup a).isNone = true
    · exact .scr m c.1 (Option.isNone_iff_eq_none.mp c.2) ((if_neg m).trans (if_pos c))
    · refine .no m (fun e => ?_) ((if_neg m).trans (if_neg c))
      cases q : K.lookup a with
      | some o => exact ⟨o, rfl⟩
      | none => exact (c ⟨e, by rw [q]; rfl⟩).elim
/-- what stands in the heap and is neither a table nor a sequence is not tracked -/
theorem hp0_free {b : Addr} {o : Obj} (hob : ∃ its n, ob.data = .seq its n) (ha : sh.heap.get? a = some ob) (hT : ∀ p ∈ tb, sh.heap.get? p = some { cls := .none, data := .fields #[] }) (e : sh.heap.get? b = some o) (n1 : ∀ its n, o.data ≠ .seq its n) (n2 : o.data ≠ .fields #[]) : Hp0 K tb a ob ns b = none := by
  cases hp0_case (K := K) (tb := tb) (a := a) (ob := ob) (ns := ns) b with
  | tab m _ =>
    have := hT b m
    rw [e] at this
    exact absurd (congrArg Obj.data (Option.some.inj this)) n2
  | scr _ eq _ _ =>
    subst eq
    rw [e] at ha
    obtain ⟨its, n, d⟩ := hob
    exact absurd ((congrArg Obj.data (Option.some.inj ha)).trans d) (n1 its n)
  | no _ _ z => exact z
theorem CX_none {P : Program} {w : World} {H : Hp} {s s' : Shared} {e : Value} (h : L2.CX P w [] H s (fun _ _ _ => False) e s') : False := by
  obtain ⟨_, _, _, _, _, _, _, _, _, _, _, _, h⟩ := h
  exact h
theorem law_callG (KX : K.In sh.heap) (gn : sh.heap.Ns mainGlobals mg) (bn : sh.heap.Ns builtinsNs mb) (be : ∀ y : Str, y ≠ "__name__" → mb y = bootBuiltins y) (nl : sh.heap.NoLimit) (ng : sh.gens = #[])
    (tE : ∀ p ∈ cs, sh.heap.get? p.2 = some { cls := .none, data := .fields #[] }) (tK : ∀ p ∈ cs, K.lookup p.2 = none) (tC : ∀ p ∈ cs, PySem.W.CodeHd sh.heap p.1 p.2)
    (bm : ∃ (m : Addr) (o : Obj), mg "__builtins__" = some (.ref m) ∧ m ≠ builtinsNs ∧ sh.heap.get? m = some o ∧ o.cls = .type "module" ∧ o.dict = some builtinsNs ∧ o.data = .plain)
    (ha : sh.heap.get? a = some { cls := .type "list", data := .seq vs.toArray }) (iv : IntsAre vs ns) (ln : ns.length ≤ sizeLine)
    (F : ∀ (base : Heap) (H : Hp), K.In base → base.Ns mainGlobals mg → (∀ p ∈ cs, LamX.TabB base mg p.1 p.2) → Env0 P w K mg base callerA [] sh H → (∀ p ∈ cs, H p.2 = some (.tbl #[])) → SqL K H a (ns.map V.int) →
      codeAny (model P w) callerA (.call (.ref fa) ⟨[.ref a], []⟩) (CR (L2.CX P w) [] P w H sh (fun v _ => v = .bl true) fun _ _ _ => False) sh) :
    codeAny (model P w) callerA (.call (.ref fa) ⟨[.ref a], []⟩) (fun r s' => r = .ok (.ret (.bool true)) ∧ OldK sh.heap s'.heap ∧ s'.os = sh.os ∧ AllBare s'.gens) sh := by
  obtain ⟨tb, etb⟩ : ∃ tb, tb = cs.map (·.2) := ⟨_, rfl⟩
  have mem : ∀ p ∈ cs, p.2 ∈ tb := fun p hp => by rw [etb]; exact List.mem_map.mpr ⟨p, hp, rfl⟩
  have of : ∀ b ∈ tb, ∃ p ∈ cs, p.2 = b := fun b hb => by rw [etb] at hb; exact List.mem_map.mp hb
  have hT : ∀ b ∈ tb, sh.heap.get? b = some { cls := .none, data := .fields #[] } := fun b hb => by
    obtain ⟨p, hp, rfl⟩ := of b hb
    exact tE p hp
  have ivl := vals_ints iv
  have len := iv.length
  let H : Hp := Hp0 K tb a { cls := .type "list", data := .seq vs.toArray } ns
  have cas : ∀ b, Hp0C K tb a { cls := .type "list", data := .seq vs.toArray } ns b := hp0_case
  have fr : ∀ {b : Addr} {o : Obj}, sh.heap.get? b = some o → (∀ its n, o.data ≠ .seq its n) → o.data ≠ .fields #[] → H b = none := fun e => hp0_free ⟨_, _, rfl⟩ ha hT e
  have hat : ∀ {b : Addr}, H b = none → ∀ {o : Obj}, sh.heap.get? b = some o → (hidT sh.heap H).get? b = some o := fun n _ e => hidT_get e n
  have keepNs : ∀ {b : Addr} {m : Str → Option Value}, sh.heap.Ns b m → (hidT sh.heap H).Ns b m := fun {b m} z => by
    obtain ⟨o, es, n, e, d, r⟩ := z
    refine ⟨o, es, n, hat (fr e ?_ ?_) e, d, r⟩ <;> rw [d] <;> intros <;> intro y <;> cases y
  have kin : K.In (hidT sh.heap H) := fun b o e => by
    refine hat ?_ (KX b o e)
    cases cas b with
    | tab m _ =>
      obtain ⟨p, hp, rfl⟩ := of b m
      rw [tK p hp] at e
      cases e
    | scr _ q n _ =>
      subst q
      rw [n] at e
      cases e
    | no _ _ z => exact z
  have tabs : ∀ p ∈ cs, LamX.TabB (hidT sh.heap H) mg p.1 p.2 := fun p hp => by
    have gt : mainGlobals ≠ p.2 := fun q => by
      obtain ⟨o, es, n, e, d, _⟩ := gn
      rw [q, tE p hp] at e
      cases e
      cases d
    refine ⟨?_, ?_, gt⟩
    · obtain ⟨o, us, f1, f2, f3, f4, f5, f6, f7, e, r⟩ := tC p hp
      refine ⟨o, us, f1, f2, f3, f4, f5, f6, f7, hat (fr e ?_ ?_) e, r⟩
      · rw [r.2.1]; intro _ _ y; cases y
      · rw [r.2.1]; intro y; cases y
        have := r.2.2.1
        simp at this
    · obtain ⟨m, o, b1, b2, b3, b4, b5, b6⟩ := bm
      have mg' : m ≠ mainGlobals := fun q => by
        obtain ⟨o', es, n, e, d, _⟩ := gn
        rw [q, e] at b3
        cases b3
        rw [d] at b6
        cases b6
      have mp : m ≠ p.2 := fun q => by
        rw [q, tE p hp] at b3
        cases b3
        cases b6
      refine ⟨m, o, b1, b2, mg', mp, hat (fr b3 ?_ ?_) b3, b4, b5, b6⟩
      · rw [b6]; intro _ _ y; cases y
      · rw [b6]; intro y; cases y
  have hok : HOk P w H sh.heap := fun b u e => by
    have e : Hp0 K tb a _ ns b = some u := e
    cases cas b with
    | tab m z =>
      rw [z] at e
      cases e
      exact hT b m
    | scr _ q _ z =>
      rw [z] at e
      cases e
      subst q
      exact ⟨ha, by rw [List.length_map]; exact ln, vs, _, ivl, ha⟩
    | no _ _ z =>
      rw [z] at e
      cases e
  have env : Env0 P w K mg (hidT sh.heap H) callerA [] sh H := {
    frames := rfl
    mod := ⟨kin, keepNs gn, ⟨mb, keepNs bn, be⟩, let ⟨m, n1, n2⟩ := nl; ⟨m, keepNs n1, n2⟩⟩
    bs := fun b o e => of_hidT e
    bsz := Nat.le_of_eq (hidT_size _ _)
    funs := trivial
    frf := fun b m => by
      have m : b ∈ ([] : List Addr) := m
      cases m
    hok := hok
    bare := .of_eq ng }
  have tH : ∀ p ∈ cs, H p.2 = some (.tbl #[]) := fun p hp => if_pos (mem p hp)
  have aN : a ∉ tb := fun m => by
    have := hT a m
    rw [ha] at this
    cases congrArg Obj.data (Option.some.inj this)
  have scr : SqL K H a (ns.map V.int) := by
    cases cas a with
    | tab m _ => exact (aN m).elim
    | scr _ _ _ z => exact .inl (.inr ⟨_, z⟩)
    | no _ k _ =>
      obtain ⟨o, ho⟩ := k rfl
      have := KX a o ho
      rw [ha] at this
      cases this
      exact .inr ⟨_, vs.toArray, _, ho, rfl, rfl, rfl, by rw [List.size_toArray, len]; exact ln, by simpa using ivl⟩
  refine codeAny_mono (F _ H kin (keepNs gn) tabs env tH scr) fun r s' h => ?_
  cases r with
  | error e => exact (CX_none h).elim
  | ok fl =>
    cases fl with
    | next => exact h.elim
    | brk => exact h.elim
    | cont => exact h.elim
    | ret u =>
      obtain ⟨v, H', o1, o2, un, hok', rv, qv⟩ := h
      have qv : v = .bl true := qv
      subst qv
      obtain rfl : u = Value.bool true := rv
      have old : ∀ b o, b ∉ tb → sh.heap.get? b = some o → s'.heap.get? b = some o := fun b o nb e => by
        cases cas b with
        | tab m _ => exact (nb m).elim
        | no _ _ z => exact un.keep b o e z (fun y => by have y : b ∈ ([] : List Addr) := y; cases y) (by simp)
        | scr _ q _ z =>
          subst q
          obtain ⟨g1, _⟩ := hok' b _ (un.frzs b _ _ z)
          rw [ha] at e
          cases e
          exact g1
      have tab : ∀ p ∈ cs, ∃ more : Array Value, s'.heap.get? p.2 = some { cls := .none, data := .fields more } := fun p hp => by
        obtain ⟨more, z⟩ := un.tbls p.2 #[] (tH p hp)
        exact ⟨_, hok' p.2 _ z⟩
      refine ⟨rfl, ⟨fun b o e => ?_, fun b o e => ?_⟩, o1, o2⟩
      · by_cases m : b ∈ tb
        · obtain ⟨p, hp, rfl⟩ := of b m
          obtain ⟨more, g⟩ := tab p hp
          rw [tE p hp] at e
          cases e
          exact .inr (.inl ⟨((tC p hp).tab (tE p hp)).isCodeTable, rfl, #[], more, rfl, by rw [Array.empty_append]; exact g⟩)
        · exact .inl (old b o m e)
      · by_cases m : b ∈ tb
        · obtain ⟨p, hp, rfl⟩ := of b m
          exact (tab p hp).elim fun more g => ⟨_, g⟩
        · exact ⟨o, old b o m e⟩
end
/-- the walk -/
theorem walkG {l : PySem.W.OpenLaw} {n k : Nat} {q : Program} {loose : List Str} {XP : (Str → Option Value) → Heap → Prop} {YP : World → Heap → Prop} {d : DefRec} {x : Str} (hn : l.most = some n) (hz : n ≤ sizeLine) (nd : d.params.defaults = []) (room : Room k callerA)
    (F : ∀ (w : World) (mg : Str → Option Value) (fa : Addr) (h : Heap), YP w h → h.Ns mainGlobals mg → mg d.name = some (.ref fa) → ∃ K : Fg, K.In h ∧ LawG l w K k n x mg fa h) :
    PySem.W.WalkO q loose XP YP l.row.toRowW d [] (fun f vs => PySem.call f vs) := by
  refine Att.attach_callB hn nd fun w z0 z1 mg mb fa o pm cd doc a vs ns G Y ho hd hcd hmg hobj hints hlen hbits hg => ?_
  obtain ⟨K, KX, fd, cs, sp, c1, c2, c3, c4, c5, c6⟩ := F w mg fa _ Y G.T.g hmg
  refine law_callG KX G.T.g G.T.b G.T.builtins G.T.nolimit hg c1 c2 c3 G.T.bmain hobj hints (Nat.le_trans hlen hz) fun base H kin bns tabs env tH scr => ?_
  exact (c6 base kin bns tabs).go callerA [] z1 H _ [.ref a] [.ref a] _ _ room (fun _ => rfl) env (c4 z1 (.ref a)) (.cons rfl .nil) (c5 H a ns hlen hbits tH scr)
end Kb

set_option Elab.async false
set_option linter.all false
set_option maxRecDepth 100000
set_option maxHeartbeats 4000000
/-! KbLaw: from the written part's checks to the law. -/
namespace Kb
open PySem PySem.Spec PyProof.Rows L2 TL
/-- all that the head's Bool looks at -/
def exB (T : Tb) (ks : List D) (sub : Nat → Nat → Bool) (FP : List (Fs × Arguments)) (tf : List He.Defn) (K : Fg) : Bool :=
  tbC T ks sub K && (FP.all fun q => He.eqO (PySem.W.nsIn K mainGlobals q.1.x) (some (some (.ref (He.fAd K (q.1.x, none)))))) && decide ((tf.map fun p => (He.cT K p).2).Nodup)
def kdT (kd : List (Str × List Str)) : List He.Tab := kd.map fun p => (fun K => He.ga K p.1, p.2)
def kdB (kd : List (Str × List Str)) : List (Str × D) → Bool
  | [] => true
  | (x, .kdic _ _) :: r => (kd.any fun p => p.1 == x) && kdB kd r
  | _ :: r => kdB kd r
theorem kdB_ok {kd : List (Str × List Str)} : ∀ {l : List (Str × D)}, kdB kd l = true → ∀ (x : Str) (kl : List (List Nat)) (ds : List D), (x, D.kdic kl ds) ∈ l → ∃ (i : Nat) (p : Str × List Str), kd[i]? = some p ∧ p.1 = x
  | [], _, x, kl, ds, m => nomatch m
  | (y, d) :: r, h, x, kl, ds, m => by
    rcases List.mem_cons.mp m with e | m
    · cases e
      obtain ⟨h1, h2⟩ := ands (show ((kd.any fun p => p.1 == y) && kdB kd r) = true from h)
      obtain ⟨p, hp, e⟩ := List.any_eq_true.mp h1
      obtain ⟨i, hi⟩ := List.mem_iff_getElem?.mp hp
      exact ⟨i, p, hi, eq_of_beq e⟩
    · have h2 : kdB kd r = true := by
        cases d with
        | kdic _ _ => exact (ands (show ((kd.any fun p => p.1 == y) && kdB kd r) = true from h)).2
        | _ => exact h
      exact kdB_ok h2 x kl ds m
def fnD (FP : List (Fs × Arguments)) : List He.DefD := FP.map fun q => q.1.d q.2
theorem law_of {l : PySem.W.OpenLaw} {w : World} {K : Fg} {mg : Str → Option Value} {h : Heap} {fa : Addr} {T : Tb} {ks : List D} {sub : Nat → Nat → Bool} {FP : List (Fs × Arguments)} {Pl : List Fd} {tf : List He.Defn} {kd : List (Str × List Str)} {g jl : Nat} {sl : Fs} {dl : Fd} {n : Nat}
    (O : PrgOk T (FP.map (·.1)) Pl) (hs : (FP.all fun q => fscB q.1.ns q.1.ps q.1.scope && (!q.1.lam || decide ((q.1.x, none) ∈ tf))) = true) (hb : ∀ q ∈ FP, BindS q.1 q.2) (ho : ∀ p ∈ tf, p.2 = none) (hk : kdB kd (T.ks.zip ks) = true) (es : ∀ q j, sub q j = sub (if q < T.exs.length then q else 0) j)
    (e1 : (FP.map (·.1))[jl]? = some sl) (e2 : Pl[jl]? = some dl) (el : sl.ps = [("script" : Str)]) (et : sl.th = false)
    (plain : ∀ ns : List Int, ns.length ≤ n → (∀ z ∈ ns, Builtin.Int.intBits z ≤ 1048576) → ∃ hp', run sub ks Pl (g + 1) jl [.scr ns] none [] = some (.ret (.val (.bl true)) hp'))
    (KX : K.In h) (c : He.SaysX [] (fnD FP) (kdT kd) tf (exB T ks sub FP tf) w h K) (G : h.Ns mainGlobals mg) (hm : mg sl.x = some (.ref fa)) :
    LawG l w K (3 * (g + 1)) n "script" mg fa h := by
  obtain ⟨c12, c3⟩ := ands (show (tbC T ks sub K && (FP.all fun q => He.eqO (PySem.W.nsIn K mainGlobals q.1.x) (some (some (.ref (He.fAd K (q.1.x, none)))))) && decide ((tf.map fun p => (He.cT K p).2).Nodup)) = true from c.more)
  obtain ⟨c1, c2⟩ := ands c12
  refine law_at (N := { K := K, w := w, cls := clsOf T K, T := tf.map fun p => ((He.cT K p).2, lamQ p.1) }) (sub := sub) (ks := ks) (Pl := Pl) (g := g) (jl := jl) (dl := dl) KX c rfl (of_decide_eq_true c3) ho (fun base => ?_) O (fun s hs' => ?_) e1 e2 el et hm plain
  · refine tbC_ok KX G rfl rfl rfl (fun x kl ds m => ?_) es c1
    obtain ⟨i, p, hi, rfl⟩ := kdB_ok hk x kl ds m
    exact c.t.tab i (t := (fun K => He.ga K p.1, p.2)) (by unfold kdT; rw [List.getElem?_map, hi]; rfl)
  · obtain ⟨q, hq, rfl⟩ := List.mem_map.mp hs'
    obtain ⟨i, hi⟩ := List.mem_iff_getElem?.mp hq
    obtain ⟨fd, F⟩ := c.t.d.def_ i (d := q.1.d q.2) (by unfold fnD; rw [List.getElem?_map, hi]; rfl)
    obtain ⟨s1, s2⟩ := ands (List.all_eq_true.mp hs q hq)
    refine ⟨q.2, fd, F, PySem.W.mg_of KX G (He.eqO_ok (List.all_eq_true.mp c2 q hq)), s1, hb q hq, fun hl => ?_⟩
    rw [hl] at s2
    exact of_decide_eq_true (by simpa using s2)
end Kb
namespace Kb
open PySem PySem.Spec PyProof.Rows L2 TL
/-- one def's text is checked -/
def prg1 (T : Tb) (j : Nat) (s : Fs) (d : Fd) : Bool :=
  (T.th j == s.th) && (T.gd j == s.gd && (!s.th || !s.gd)) && (!s.th || (!s.lam && (match s.ps with
    | [a] => visC s.scope a && ndC a
    | _ => false))) && (d.np == s.ps.length) && (d.ns == s.ns.length) && okSs T s.S d.body s.body
def PrgL (T : Tb) : Nat → List Fs → List Fd → Prop
  | _, [], [] => True
  | j, s :: r, d :: t => prg1 T j s d = true ∧ PrgL T (j + 1) r t
  | _, _, _ => False
theorem PrgL.len {T : Tb} : ∀ {j : Nat} {Fl : List Fs} {Pl : List Fd}, PrgL T j Fl Pl → Pl.length = Fl.length
  | _, [], [], _ => rfl
  | _, _ :: _, _ :: _, h => by simp [PrgL.len h.2]
theorem PrgL.at {T : Tb} : ∀ {j : Nat} {Fl : List Fs} {Pl : List Fd}, PrgL T j Fl Pl → ∀ (i : Nat) s d, Fl[i]? = some s → Pl[i]? = some d → prg1 T (j + i) s d = true
  | _, [], [], _, i, s, d, h, _ => by simp at h
  | j, s :: r, d :: t, h, 0, s', d', e1, e2 => by
    simp at e1 e2
    subst e1 e2
    exact h.1
  | j, s :: r, d :: t, h, i + 1, s', d', e1, e2 => by
    have := PrgL.at h.2 i s' d' (by simpa using e1) (by simpa using e2)
    rw [show j + (i + 1) = j + 1 + i from by omega]
    exact this
theorem prgOk_of {T : Tb} {Fl : List Fs} {Pl : List Fd} (h : PrgL T 0 Fl Pl) (hf : T.fn = Fl.map Fs.x) : PrgOk T Fl Pl := by
  have key : ∀ (j : Nat) s, Fl[j]? = some s → ∃ d, Pl[j]? = some d ∧ prg1 T j s d = true := fun j s e => by
    have hl : j < Pl.length := by
      rw [h.len]
      exact (List.getElem?_eq_some_iff.mp e).1
    have := h.at j s Pl[j] e (List.getElem?_eq_getElem hl)
    rw [Nat.zero_add] at this
    exact ⟨_, List.getElem?_eq_getElem hl, this⟩
  refine ⟨hf, h.len, fun j s e => ?_, fun j s e => ?_, fun j s e ht => ?_, fun j s d e e2 => ?_, fun j s d e e2 => ?_⟩
  all_goals obtain ⟨d', ed, k⟩ := key j s e
  all_goals unfold prg1 at k
  all_goals obtain ⟨k, k5⟩ := ands k
  all_goals obtain ⟨k, k4⟩ := ands k
  all_goals obtain ⟨k, k3⟩ := ands k
  all_goals obtain ⟨k, k2⟩ := ands k
  all_goals obtain ⟨k1, k6⟩ := ands k
  · exact eq_of_beq k1
  · obtain ⟨k6, k7⟩ := ands k6
    exact ⟨eq_of_beq k6, fun ht => by rw [ht] at k7; simpa using k7⟩
  · rw [ht] at k2
    obtain ⟨a1, a2⟩ := ands (show (!s.lam && (match s.ps with
    | [a] => visC s.scope a && ndC a
    | _ => false)) = true from by simpa using k2)
    split at a2
    · rename_i a ea
      obtain ⟨b1, b2⟩ := ands a2
      exact ⟨by simpa using a1, a, ea, visC_ok b1, b2⟩
    · cases a2
  · rw [ed] at e2
    cases e2
    exact ⟨eq_of_beq k3, eq_of_beq k4⟩
  · rw [ed] at e2
    cases e2
    exact k5
end Kb

set_option Elab.async false
set_option linter.all false
set_option maxRecDepth 100000
/-! KbEv: what the small language does, as rules for simp. -/
namespace Kb
/-- the run ends so -/
def Wq {α : Type} (m : M α) (s : S) (Q : α → S → Prop) (E : Nat → List D → S → Prop) : Prop := match m s with
  | some (.ok a s') => Q a s'
  | some (.exn c fs s') => E c fs s'
  | none => False
def Fq (r : Option Rf) (Q : Sl → List Ob → Prop) (E : Nat → List D → List Ob → Prop) : Prop := match r with
  | some (.ret v hp) => Q v hp
  | some (.exn c fs hp) => E c fs hp
  | none => False
/-- a bound of a range -/
def inRg (n : Int) : Prop := -4611686018427387904 ≤ n ∧ n < 4611686018427387904
theorem inRg_nat {n : Nat} (h : n ≤ 16777216) : inRg (n : Int) := by unfold inRg; omega
theorem inRg_int {n : Int} (h : -16777216 ≤ n) (h2 : n ≤ 16777216) : inRg n := by unfold inRg; omega
abbrev noE : Nat → List D → List Ob → Prop := fun _ _ _ => False
section
variable {α β : Type} {c : Cfg} {s : S} {Q : α → S → Prop} {E : Nat → List D → S → Prop} {x : Option Sl} {l : List (Option Sl)} {hp : List Ob} {QS : Sl → S → Prop} {QD : D → S → Prop} {QF : Fl → S → Prop} {QL : List D → S → Prop} {QSL : List Sl → S → Prop} {QU : Unit → S → Prop} {QB : Bool → S → Prop}
theorem Wq.mono {m : M α} {Q' : α → S → Prop} {E' : Nat → List D → S → Prop} (h : Wq m s Q E) (hQ : ∀ a s', Q a s' → Q' a s') (hE : ∀ c fs s', E c fs s' → E' c fs s') : Wq m s Q' E' := by
  unfold Wq at *
  split at h
  · exact hQ _ _ h
  · exact hE _ _ _ h
  · exact h
theorem Fq.mono {r : Option Rf} {Q Q' : Sl → List Ob → Prop} {E E' : Nat → List D → List Ob → Prop} (h : Fq r Q E) (hQ : ∀ a s', Q a s' → Q' a s') (hE : ∀ c fs s', E c fs s' → E' c fs s') : Fq r Q' E' := by
  unfold Fq at *
  split at h
  · exact hQ _ _ h
  · exact hE _ _ _ h
  · exact h
theorem Fq.eq {r : Option Rf} {v : Sl} {hp : List Ob} (h : Fq r (fun v' hp' => v' = v ∧ hp' = hp) noE) : r = some (.ret v hp) := by
  unfold Fq at h
  split at h
  · rw [h.1, h.2]
  · exact h.elim
  · exact h.elim
theorem Fq.eqx {r : Option Rf} {c : Nat} {hp : List Ob} (h : Fq r (fun _ _ => False) (fun c' fs hp' => c' = c ∧ fs = [] ∧ hp' = hp)) : r = some (.exn c [] hp) := by
  unfold Fq at h
  split at h
  · exact h.elim
  · rw [h.1, h.2.1, h.2.2]
  · exact h.elim
theorem Wq.eq {m : M α} {a : α} {s s' : S} (h : Wq m s (fun a' s1 => a' = a ∧ s1 = s') (fun _ _ _ => False)) : m s = some (.ok a s') := by
  unfold Wq at h
  split at h
  · rename_i e; rw [e, h.1, h.2]
  · exact h.elim
  · exact h.elim
theorem Wq.of_eq {m : M α} {a : α} {s s' : S} (h : m s = some (.ok a s')) (q : Q a s') : Wq m s Q E := by
  unfold Wq; rw [h]; exact q
@[simp ↓] theorem Fn_noneq {Q : Sl → List Ob → Prop} {E : Nat → List D → List Ob → Prop} : Fq none Q E ↔ False := Iff.rfl
@[simp ↓] theorem Fn_retq {v : Sl} {Q : Sl → List Ob → Prop} {E : Nat → List D → List Ob → Prop} : Fq (some (.ret v hp)) Q E ↔ Q v hp := Iff.rfl
@[simp ↓] theorem Fn_exnq {k : Nat} {fs : List D} {Q : Sl → List Ob → Prop} {E : Nat → List D → List Ob → Prop} : Fq (some (.exn k fs hp)) Q E ↔ E k fs hp := Iff.rfl
@[simp ↓] theorem wp_bndq {y : M α} {f : α → M β} {Q : β → S → Prop} : Wq (bnd y f) s Q E ↔ Wq y s (fun a s' => Wq (f a) s' Q E) E := by
  unfold Wq bnd
  cases y s with
  | none => rfl
  | some r => cases r <;> rfl
@[simp ↓] theorem wp_purq (a : α) : Wq (pur a) s Q E ↔ Q a s := Iff.rfl
@[simp ↓] theorem wp_lft_someq (a : α) : Wq (lft (some a)) s Q E ↔ Q a s := Iff.rfl
@[simp ↓] theorem wp_lft_noneq : Wq (lft (none : Option α)) s Q E ↔ False := Iff.rfl
@[simp ↓] theorem wp_stkq : Wq (stk : M α) s Q E ↔ False := Iff.rfl
theorem wp_lftq {o : Option α} : Wq (lft o) s Q E ↔ ∃ a, o = some a ∧ Q a s := by
  cases o with
  | none => simp
  | some a => simp
@[simp ↓] theorem wp_iteq {p : Prop} [Decidable p] {a b : M α} : Wq (if p then a else b) s Q E ↔ (if p then Wq a s Q E else Wq b s Q E) := by
  by_cases h : p <;> simp [h]
@[simp] theorem d_val (d : D) : (Sl.val d).d = d := rfl
@[simp] theorem d_own (x : List D) : (Sl.own x).d = .lst x := rfl
@[simp] theorem d_ownd (t : Bool) (k : List Ky) (v : List D) : (Sl.ownd t k v).d = .dic k v := rfl
@[simp] theorem line_v : line = 16777216 := rfl
@[simp] theorem pl_non (n) : pl n .non = true := by cases n <;> rfl
@[simp] theorem pl_bl (n b) : pl n (.bl b) = true := by cases n <;> rfl
@[simp] theorem pl_int (n b) : pl n (.int b) = true := by cases n <;> rfl
@[simp] theorem pl_str (n b) : pl n (.str b) = true := by cases n <;> rfl
@[simp] theorem wpl_tup (n a) : pl (n + 1) (.tup a) = a.all (pl n) := rfl
@[simp] theorem wpl_lst (n a) : pl (n + 1) (.lst a) = a.all (pl n) := rfl
/-! slots -/
@[simp ↓] theorem wp_getSq {i : Nat} : Wq (getS i) ⟨x :: l, hp⟩ QS E ↔ (match (x :: l)[i]? with
  | some (some .exc) => False
  | some (some v) => QS v ⟨x :: l, hp⟩
  | _ => False) := by
  unfold Wq getS
  cases (x :: l)[i]? with
  | none => rfl
  | some o => cases o with
    | none => rfl
    | some v => cases v <;> rfl
@[simp ↓] theorem wp_putSq {i : Nat} {v : Sl} : Wq (putS i v) ⟨x :: l, hp⟩ QU E ↔ QU () ⟨(x :: l).set i (some v), hp⟩ := Iff.rfl
@[simp ↓] theorem wp_frzSq {i : Nat} : Wq (frzS i) ⟨x :: l, hp⟩ QD E ↔ (match (x :: l)[i]? with
  | some (some (.val d)) => QD d ⟨x :: l, hp⟩
  | some (some .exc) => False
  | some (some v) => QD v.d ⟨(x :: l).set i (some (.val v.d)), hp⟩
  | _ => False) := by
  unfold Wq frzS
  cases (x :: l)[i]? with
  | none => rfl
  | some o => cases o with
    | none => rfl
    | some v => cases v <;> rfl
@[simp ↓] theorem wp_vOfq {e : Ex} {m : M Sl} : Wq (vOf e m) ⟨x :: l, hp⟩ QD E ↔ (match e with
  | .var i => Wq (frzS i) ⟨x :: l, hp⟩ QD E
  | _ => Wq m ⟨x :: l, hp⟩ (fun v s => QD v.d s) E) := by
  cases e <;> first | rfl | exact wp_bndq
@[simp ↓] theorem wp_oOfq {e : Ex} {m : M Sl} : Wq (oOf e m) ⟨x :: l, hp⟩ QS E ↔ (match e with
  | .var i => Wq (frzS i) ⟨x :: l, hp⟩ (fun d s => QS (.val d) s) E
  | _ => Wq m ⟨x :: l, hp⟩ QS E) := by
  cases e <;> first | rfl | exact wp_bndq
@[simp ↓] theorem wp_testMq {m : M Sl} : Wq (testM m) ⟨x :: l, hp⟩ QB E ↔ Wq m ⟨x :: l, hp⟩ (fun v s => Wq (lft (tru v.d)) s QB E) E := wp_bndq
@[simp ↓] theorem wp_tgNq {i : Nat} {d : D} : Wq (tgD (.name i) d) ⟨x :: l, hp⟩ QU E ↔ QU () ⟨(x :: l).set i (some (.val d)), hp⟩ := Iff.rfl
@[simp ↓] theorem wp_tgTq {is : List Nat} {ds : List D} : Wq (tgD (.tup is) (.tup ds)) ⟨x :: l, hp⟩ QU E ↔ Wq (putTs is ds) ⟨x :: l, hp⟩ QU E := Iff.rfl
@[simp ↓] theorem wp_putT0q : Wq (putTs [] []) s QU E ↔ QU () s := Iff.rfl
@[simp ↓] theorem wp_putT1q {i : Nat} {is : List Nat} {d : D} {ds : List D} : Wq (putTs (i :: is) (d :: ds)) ⟨x :: l, hp⟩ QU E ↔ Wq (putTs is ds) ⟨(x :: l).set i (some (.val d)), hp⟩ QU E := Iff.rfl
@[simp ↓] theorem wp_putO0q : Wq (putOs [] []) s QU E ↔ QU () s := Iff.rfl
@[simp ↓] theorem wp_putO1q {i : Nat} {is : List Nat} {d : Sl} {ds : List Sl} : Wq (putOs (i :: is) (d :: ds)) ⟨x :: l, hp⟩ QU E ↔ Wq (putOs is ds) ⟨(x :: l).set i (some d), hp⟩ QU E := Iff.rfl
/-! expressions -/
@[simp ↓] theorem wp_constq {d : D} : Wq (ev c (.const d)) ⟨x :: l, hp⟩ QS E ↔ QS (.val d) ⟨x :: l, hp⟩ := by rw [ev]; rfl
@[simp ↓] theorem wp_varq {i : Nat} : Wq (ev c (.var i)) ⟨x :: l, hp⟩ QS E ↔ Wq (getS i) ⟨x :: l, hp⟩ QS E := by rw [ev]
@[simp ↓] theorem wp_globq {i : Nat} : Wq (ev c (.glob i)) ⟨x :: l, hp⟩ QS E ↔ Wq (lft (c.ks[i]?)) ⟨x :: l, hp⟩ (fun d s => QS (.val d) s) E := by
  rw [ev]; cases h : c.ks[i]? <;> simp [h]
@[simp ↓] theorem wp_tupq {es : Exs} : Wq (ev c (.tup es)) ⟨x :: l, hp⟩ QS E ↔ Wq (evs c es) ⟨x :: l, hp⟩ (fun ds s => QS (.val (.tup ds)) s) E := by rw [ev]; exact wp_bndq
@[simp ↓] theorem wp_lstq {es : Exs} : Wq (ev c (.lst es)) ⟨x :: l, hp⟩ QS E ↔ Wq (evs c es) ⟨x :: l, hp⟩ (fun ds s => QS (.own ds) s) E := by rw [ev]; exact wp_bndq
@[simp ↓] theorem wp_lstHq {es : Exs} : Wq (ev c (.lstH es)) ⟨x :: l, hp⟩ QS E ↔ Wq (evs c es) ⟨x :: l, hp⟩ (fun ds s => QS (.val (.ref s.hp.length)) { s with hp := s.hp ++ [.lst ds] }) E := by rw [ev]; exact wp_bndq
@[simp ↓] theorem wp_dic0q {t : Bool} : Wq (ev c (.dic t .nil .nil)) ⟨x :: l, hp⟩ QS E ↔ QS (.ownd t [] []) ⟨x :: l, hp⟩ := by
  rw [ev]; simp only [wp_bndq, evs, wp_purq, dicL]; rfl
@[simp ↓] theorem wp_binq {op : Bo} {a b : Ex} : Wq (ev c (.bin op a b)) ⟨x :: l, hp⟩ QS E ↔ Wq (ev c a) ⟨x :: l, hp⟩ (fun u s => Wq (ev c b) s (fun v s => Wq (lft (binD op u.d v.d)) s QS E) E) E := by rw [ev]; simp only [wp_bndq]
@[simp ↓] theorem wp_negq {a : Ex} : Wq (ev c (.neg a)) ⟨x :: l, hp⟩ QS E ↔ Wq (ev c a) ⟨x :: l, hp⟩ (fun u s => match u with
    | .val (.int i) => QS (.val (.int (-i))) s
    | _ => False) E := by
  rw [ev]; simp only [wp_bndq]; apply iff_of_eq; congr; funext u s
  split
  · rfl
  · rename_i h
    first
      | rfl
      | (split
         · exact (h _ rfl).elim
         · rfl)
@[simp ↓] theorem wp_notq {a : Ex} : Wq (ev c (.not a)) ⟨x :: l, hp⟩ QS E ↔ Wq (ev c a) ⟨x :: l, hp⟩ (fun u s => Wq (lft (tru u.d)) s (fun b s => QS (.val (.bl (!b))) s) E) E := by
  rw [ev]; simp only [wp_bndq, testM, wp_purq]
@[simp ↓] theorem wp_andq {a b : Ex} : Wq (ev c (.and a b)) ⟨x :: l, hp⟩ QS E ↔ Wq (ev c a) ⟨x :: l, hp⟩ (fun u s => match u with
    | .val (.bl k) => if k = true then Wq (ev c b) s (fun v s => match v with
      | .val (.bl k) => QS (.val (.bl k)) s
      | _ => False) E else QS (.val (.bl false)) s
    | _ => False) E := by
  rw [ev]; simp only [wp_bndq]; apply iff_of_eq; congr; funext u s
  split
  · simp only [wp_bndq, if_true]; congr; funext v s
    split
    · rfl
    · rename_i h
      first
        | rfl
        | (split
           · exact (h _ rfl).elim
           · rfl)
  · rfl
  · rename_i h1 h2
    split
    · rename_i k
      cases k
      · exact (h2 rfl).elim
      · exact (h1 rfl).elim
    · rfl
@[simp ↓] theorem wp_orq {a b : Ex} : Wq (ev c (.or a b)) ⟨x :: l, hp⟩ QS E ↔ Wq (ev c a) ⟨x :: l, hp⟩ (fun u s => match u with
    | .val (.bl k) => if k = true then QS (.val (.bl true)) s else Wq (ev c b) s (fun v s => match v with
      | .val (.bl k) => QS (.val (.bl k)) s
      | _ => False) E
    | _ => False) E := by
  rw [ev]; simp only [wp_bndq]; apply iff_of_eq; congr; funext u s
  split
  · simp only [wp_bndq, Bool.false_eq_true, if_false]; congr; funext v s
    split
    · rfl
    · rename_i h
      first
        | rfl
        | (split
           · exact (h _ rfl).elim
           · rfl)
  · rfl
  · rename_i h1 h2
    split
    · rename_i k
      cases k
      · exact (h1 rfl).elim
      · exact (h2 rfl).elim
    · rfl
@[simp ↓] theorem wp_cmpq {op : Co} {a b : Ex} : Wq (ev c (.cmp op a b)) ⟨x :: l, hp⟩ QS E ↔ Wq (ev c a) ⟨x :: l, hp⟩ (fun u s => Wq (ev c b) s (fun v s => Wq (lft (cmpD op u.d v.d)) s (fun k s => QS (.val (.bl k)) s) E) E) E := by
  rw [ev]; simp only [wp_bndq]; apply iff_of_eq; congr; funext u s; congr; funext v s
  cases cmpD op u.d v.d <;> simp
@[simp ↓] theorem wp_chainq {o1 o2 : Co} {a b e : Ex} : Wq (ev c (.chain o1 o2 a b e)) ⟨x :: l, hp⟩ QS E ↔ Wq (ev c a) ⟨x :: l, hp⟩ (fun u s => Wq (ev c b) s (fun v s => Wq (lft (cmpD o1 u.d v.d)) s (fun k s => if k = true then Wq (ev c e) s (fun w s => Wq (lft (cmpD o2 v.d w.d)) s (fun k s => QS (.val (.bl k)) s) E) E else QS (.val (.bl false)) s) E) E) E := by
  rw [ev]; simp only [wp_bndq]; apply iff_of_eq; congr; funext u s; congr; funext v s; congr; funext k s
  cases k
  · rfl
  · simp only [if_true, wp_bndq]; congr; funext w s
    cases cmpD o2 v.d w.d <;> simp
@[simp ↓] theorem wp_iteEq {t a b : Ex} : Wq (ev c (.ite t a b)) ⟨x :: l, hp⟩ QS E ↔ Wq (ev c t) ⟨x :: l, hp⟩ (fun u s => Wq (lft (tru u.d)) s (fun k s => if k = true then Wq (oOf a (ev c a)) s QS E else Wq (oOf b (ev c b)) s QS E) E) E := by
  rw [ev]; simp only [wp_bndq, testM]; apply iff_of_eq; congr; funext u s; congr; funext k s; cases k <;> rfl
@[simp ↓] theorem wp_idxq {a i : Ex} : Wq (ev c (.idx a i)) ⟨x :: l, hp⟩ QS E ↔ Wq (ev c a) ⟨x :: l, hp⟩ (fun u s => Wq (vOf i (ev c i)) s (fun d s => Wq (idxM u d) s QS E) E) E := by rw [ev]; simp only [wp_bndq]
@[simp ↓] theorem wp_slq {a : Ex} {lo hi : Exo} : Wq (ev c (.sl a lo hi)) ⟨x :: l, hp⟩ QS E ↔ Wq (ev c a) ⟨x :: l, hp⟩ (fun u s => Wq (evo c lo) s (fun p s => Wq (evo c hi) s (fun q s => Wq (lft (slD u.d p q)) s QS E) E) E) E := by rw [ev]; simp only [wp_bndq]
@[simp ↓] theorem wp_revq {a : Ex} : Wq (ev c (.rev a)) ⟨x :: l, hp⟩ QS E ↔ Wq (ev c a) ⟨x :: l, hp⟩ (fun u s => Wq (lft (revD u.d)) s QS E) E := by rw [ev]; simp only [wp_bndq]
@[simp ↓] theorem wp_callq {f : Nat} {es : Exs} : Wq (ev c (.call f es)) ⟨x :: l, hp⟩ QS E ↔ Wq (evs c es) ⟨x :: l, hp⟩ (fun ds s => Fq (c.call f ds none s.hp) (fun v hp' => QS v { s with hp := hp' }) (fun k fs hp' => E k fs { s with hp := hp' })) E := by
  rw [ev]; simp only [wp_bndq]; apply iff_of_eq; congr; funext ds s
  unfold Wq callM Fq
  cases c.call f ds none s.hp with
  | none => rfl
  | some r => cases r <;> rfl
@[simp ↓] theorem wp_bltq {b : Bl} {es : Exs} : Wq (ev c (.blt b es)) ⟨x :: l, hp⟩ QS E ↔ Wq (evb c es) ⟨x :: l, hp⟩ (fun ds s => Wq (lft (bltD b (ds.map Sl.d))) s QS E) E := by rw [ev]; simp only [wp_bndq, bltM]
@[simp ↓] theorem wp_mthq {m : Mt} {o : Ex} {es : Exs} : Wq (ev c (.mth m o es)) ⟨x :: l, hp⟩ QS E ↔ Wq (ev c o) ⟨x :: l, hp⟩ (fun u s => if recv m u.d = true then Wq (evb c es) s (fun ys s => Wq (lft (mthD m u.d (ys.map Sl.d))) s QS E) E else False) E := by
  rw [ev]; simp only [wp_bndq]; apply iff_of_eq; congr; funext u s
  cases recv m u.d <;> simp
@[simp ↓] theorem wp_isiq {a : Ex} {t : Ty} : Wq (ev c (.isi a t)) ⟨x :: l, hp⟩ QS E ↔ Wq (ev c a) ⟨x :: l, hp⟩ (fun u s => Wq (lft (hasTy t u.d)) s (fun k s => QS (.val (.bl k)) s) E) E := by
  rw [ev]; simp only [wp_bndq]; apply iff_of_eq; congr; funext u s
  cases hasTy t u.d <;> simp
@[simp ↓] theorem wp_isxq {i k : Nat} : Wq (ev c (.isx i k)) ⟨x :: l, hp⟩ QS E ↔ (match (x :: l)[i]?, c.exc with
    | some (some .exc), some (q, _) => QS (.val (.bl (c.sub q k))) ⟨x :: l, hp⟩
    | _, _ => False) := by
  rw [ev]; unfold Wq
  cases h : (x :: l)[i]? with
  | none => simp [h]
  | some o => cases o with
    | none => simp [h]
    | some v => cases v <;> cases h2 : c.exc <;> simp [h, h2]
@[simp ↓] theorem wp_compq {elt : Ex} {tg : Tg} {it : It} {cond : Exo} {own : List Nat} : Wq (ev c (.comp elt tg it cond own)) ⟨x :: l, hp⟩ QS E ↔ Wq (evi c it) ⟨x :: l, hp⟩ (fun items s => Wq (blk own items fun d =>
      bnd (tgD tg d) fun _ => bnd (evc c cond) fun k => if k then bnd (vOf elt (ev c elt)) fun y => pur (some y) else pur none) s QS E) E := by
  rw [ev]; simp only [wp_bndq]
@[simp ↓] theorem wp_evs0q : Wq (evs c .nil) s QL E ↔ QL [] s := by rw [evs]; rfl
@[simp ↓] theorem wp_evs1q {e : Ex} {es : Exs} : Wq (evs c (.cons e es)) ⟨x :: l, hp⟩ QL E ↔ Wq (vOf e (ev c e)) ⟨x :: l, hp⟩ (fun d s => Wq (evs c es) s (fun ds s => QL (d :: ds) s) E) E := by
  rw [evs]; simp only [wp_bndq, wp_purq]
@[simp ↓] theorem wp_evb0q : Wq (evb c .nil) s QSL E ↔ QSL [] s := by rw [evb]; rfl
@[simp ↓] theorem wp_evb1q {e : Ex} {es : Exs} : Wq (evb c (.cons e es)) ⟨x :: l, hp⟩ QSL E ↔ Wq (ev c e) ⟨x :: l, hp⟩ (fun d s => Wq (evb c es) s (fun ds s => QSL (d :: ds) s) E) E := by
  rw [evb]; simp only [wp_bndq, wp_purq]
@[simp ↓] theorem wp_evos0q : Wq (evos c .nil) s QSL E ↔ QSL [] s := by rw [evos]; rfl
@[simp ↓] theorem wp_evos1q {e : Ex} {es : Exs} : Wq (evos c (.cons e es)) ⟨x :: l, hp⟩ QSL E ↔ Wq (oOf e (ev c e)) ⟨x :: l, hp⟩ (fun d s => Wq (evos c es) s (fun ds s => QSL (d :: ds) s) E) E := by
  rw [evos]; simp only [wp_bndq, wp_purq]
@[simp ↓] theorem wp_evo0q {QO : Option Int → S → Prop} : Wq (evo c .none) s QO E ↔ QO none s := by rw [evo]; rfl
@[simp ↓] theorem wp_evo1q {e : Ex} {QO : Option Int → S → Prop} : Wq (evo c (.some e)) ⟨x :: l, hp⟩ QO E ↔ Wq (ev c e) ⟨x :: l, hp⟩ (fun d s => match d with
    | .val (.int i) => QO (some i) s
    | _ => False) E := by
  rw [evo]; simp only [wp_bndq]; apply iff_of_eq; congr; funext u s
  split
  · rfl
  · rename_i h
    first
      | rfl
      | (split
         · exact (h _ rfl).elim
         · rfl)
@[simp ↓] theorem wp_evc0q : Wq (evc c .none) s QB E ↔ QB true s := by rw [evc]; rfl
@[simp ↓] theorem wp_evc1q {e : Ex} : Wq (evc c (.some e)) ⟨x :: l, hp⟩ QB E ↔ Wq (ev c e) ⟨x :: l, hp⟩ (fun v s => Wq (lft (tru v.d)) s QB E) E := by rw [evc]; exact wp_bndq
@[simp ↓] theorem wp_evi_exq {e : Ex} : Wq (evi c (.ex e)) ⟨x :: l, hp⟩ QL E ↔ Wq (vOf e (ev c e)) ⟨x :: l, hp⟩ (fun d s => Wq (lft (itemsX d)) s QL E) E := by rw [evi]; exact wp_bndq
@[simp ↓] theorem wp_evi_rangeq {es : Exs} : Wq (evi c (.range es)) ⟨x :: l, hp⟩ QL E ↔ Wq (evs c es) ⟨x :: l, hp⟩ (fun ds s => match ds with
    | [.int n] => inRg n ∧ QL (rangeD n.toNat 0) s
    | [.int a, .int b] => (inRg a ∧ inRg b) ∧ QL (rangeD (b - a).toNat a) s
    | _ => False) E := by
  rw [evi]; simp only [wp_bndq]; apply iff_of_eq; congr; funext ds s
  split
  · rename_i n
    by_cases h : (decide (-4611686018427387904 ≤ n) && decide (n < 4611686018427387904)) = true
    · rw [if_pos h]
      have h' : inRg n := by simpa [inRg] using h
      simp only [wp_purq, h', true_and, and_self]
    · rw [if_neg h]
      have h' : ¬ inRg n := by simpa [inRg] using h
      simp only [wp_stkq, h', false_and]
  · rename_i a b
    by_cases h : (decide (-4611686018427387904 ≤ a) && decide (a < 4611686018427387904) && decide (-4611686018427387904 ≤ b) && decide (b < 4611686018427387904)) = true
    · rw [if_pos h]
      have h' : inRg a ∧ inRg b := by simpa [inRg, and_assoc] using h
      simp only [wp_purq, h', true_and, and_self]
    · rw [if_neg h]
      have h' : ¬ (inRg a ∧ inRg b) := by simpa [inRg, and_assoc] using h
      simp only [wp_stkq, h', false_and]
  · rename_i h1 h2
    first
      | rfl
      | (split
         · exact (h1 _ rfl).elim
         · exact (h2 _ _ rfl).elim
         · rfl)
@[simp ↓] theorem wp_evi_enumq {e : Ex} : Wq (evi c (.enum e)) ⟨x :: l, hp⟩ QL E ↔ Wq (vOf e (ev c e)) ⟨x :: l, hp⟩ (fun d s => Wq (lft ((itemsD d).map fun xs => enumD xs 0)) s QL E) E := by rw [evi]; exact wp_bndq
@[simp ↓] theorem wp_evi_zipq {es : Exs} : Wq (evi c (.zip es)) ⟨x :: l, hp⟩ QL E ↔ Wq (evs c es) ⟨x :: l, hp⟩ (fun ds s => Wq (lft (zipI ds)) s QL E) E := by rw [evi]; exact wp_bndq
@[simp ↓] theorem wp_lrangeq {t : Bool} {es : Exs} : Wq (ev c (.lrange t es)) ⟨x :: l, hp⟩ QS E ↔ Wq (evs c es) ⟨x :: l, hp⟩ (fun ds s => Wq (lft (rangeL t ds)) s QS E) E := by rw [ev]; exact wp_bndq
/-! statements -/
@[simp ↓] theorem wp_execs0q : Wq (execs c .nil) s QF E ↔ QF .nx s := by rw [execs]; rfl
@[simp ↓] theorem wp_execs1q {st : Stm} {ss : Stms} : Wq (execs c (.cons st ss)) ⟨x :: l, hp⟩ QF E ↔ Wq (exec c st) ⟨x :: l, hp⟩ (fun r s => match r with
    | .nx => Wq (execs c ss) s QF E
    | r => QF r s) E := by
  rw [execs]; simp only [wp_bndq]; apply iff_of_eq; congr; funext r s; cases r <;> rfl
@[simp ↓] theorem wp_setq {i : Nat} {e : Ex} : Wq (exec c (.set i e)) ⟨x :: l, hp⟩ QF E ↔ Wq (oOf e (ev c e)) ⟨x :: l, hp⟩ (fun v s => QF .nx { s with sl := s.sl.set i (some v) }) E := by
  rw [exec]; simp only [wp_bndq]; rfl
@[simp ↓] theorem wp_unpq {is : List Nat} {e : Ex} : Wq (exec c (.unp is e)) ⟨x :: l, hp⟩ QF E ↔ Wq (vOf e (ev c e)) ⟨x :: l, hp⟩ (fun d s => Wq (tgD (.tup is) d) s (fun _ s => QF .nx s) E) E := by
  rw [exec]; simp only [wp_bndq, wp_purq]
@[simp ↓] theorem wp_parq {is : List Nat} {es : Exs} : Wq (exec c (.par is es)) ⟨x :: l, hp⟩ QF E ↔ Wq (evos c es) ⟨x :: l, hp⟩ (fun vs s => Wq (putOs is vs) s (fun _ s => QF .nx s) E) E := by
  rw [exec]; simp only [wp_bndq, wp_purq]
@[simp ↓] theorem wp_setIxq {v : Nat} {i e : Ex} : Wq (exec c (.setIx v i e)) ⟨x :: l, hp⟩ QF E ↔ Wq (vOf e (ev c e)) ⟨x :: l, hp⟩ (fun d s => Wq (getS v) s (fun _ s => Wq (vOf i (ev c i)) s (fun y s => Wq (setIxM v y d) s (fun _ s => QF .nx s) E) E) E) E := by
  rw [exec]; simp only [wp_bndq, wp_purq]
@[simp ↓] theorem wp_exprq {e : Ex} : Wq (exec c (.expr e)) ⟨x :: l, hp⟩ QF E ↔ Wq (ev c e) ⟨x :: l, hp⟩ (fun _ s => QF .nx s) E := by
  rw [exec]; simp only [wp_bndq, wp_purq]
@[simp ↓] theorem wp_mutq {m : Mt} {v : Nat} {es : Exs} : Wq (exec c (.mut m v es none)) ⟨x :: l, hp⟩ QF E ↔ Wq (ownL v) ⟨x :: l, hp⟩ (fun _ s => Wq (evs c es) s (fun ds s => Wq (mutS m v ds) s (fun _ s => QF .nx s) E) E) E := by
  rw [exec]; simp only [wp_bndq, wp_purq]
@[simp ↓] theorem wp_mutTq {m : Mt} {v : Nat} {es : Exs} {t : Tg} : Wq (exec c (.mut m v es (some t))) ⟨x :: l, hp⟩ QF E ↔ Wq (ownL v) ⟨x :: l, hp⟩ (fun _ s => Wq (evs c es) s (fun ds s => Wq (mutS m v ds) s (fun r s => Wq (tgD t r.d) s (fun _ s => QF .nx s) E) E) E) E := by
  rw [exec]; simp only [wp_bndq, wp_purq]
@[simp ↓] theorem wp_ret0q : Wq (exec c (.ret .none)) s QF E ↔ QF (.rt (.val .non)) s := by rw [exec]; rfl
@[simp ↓] theorem wp_ret1q {e : Ex} : Wq (exec c (.ret (.some e))) ⟨x :: l, hp⟩ QF E ↔ Wq (ev c e) ⟨x :: l, hp⟩ (fun v s => QF (.rt v) s) E := by
  rw [exec]; simp only [wp_bndq, wp_purq]
@[simp ↓] theorem wp_ifsq {t : Ex} {a b : Stms} : Wq (exec c (.ifs t a b)) ⟨x :: l, hp⟩ QF E ↔ Wq (ev c t) ⟨x :: l, hp⟩ (fun u s => Wq (lft (tru u.d)) s (fun k s => if k = true then Wq (execs c a) s QF E else Wq (execs c b) s QF E) E) E := by
  rw [exec]; simp only [wp_bndq, testM]; apply iff_of_eq; congr; funext u s; congr; funext k s; cases k <;> rfl
@[simp ↓] theorem wp_for_q {tg : Tg} {it : It} {body : Stms} : Wq (exec c (.for_ tg it body)) ⟨x :: l, hp⟩ QF E ↔ Wq (evi c it) ⟨x :: l, hp⟩ (fun items s => Wq (forL (fun d => bnd (tgD tg d) fun _ => execs c body) items) s QF E) E := by
  rw [exec]; simp only [wp_bndq]
@[simp ↓] theorem wp_while_q {t : Ex} {body : Stms} : Wq (exec c (.while_ t body)) ⟨x :: l, hp⟩ QF E ↔ Wq (whileL (testM (ev c t)) (execs c body) many) ⟨x :: l, hp⟩ QF E := by
  rw [exec]
@[simp ↓] theorem wp_raiseq {q : Nat} {es : Exs} : Wq (exec c (.raise q es)) ⟨x :: l, hp⟩ QF E ↔ Wq (evs c es) ⟨x :: l, hp⟩ (fun ds s => E q ds s) E := by
  rw [exec]; simp only [wp_bndq]; rfl
@[simp ↓] theorem wp_passq : Wq (exec c .pass) s QF E ↔ QF .nx s := by rw [exec]; rfl
@[simp ↓] theorem wp_brkq : Wq (exec c .brk) s QF E ↔ QF .bk s := by rw [exec]; rfl
@[simp ↓] theorem wp_cntq : Wq (exec c .cnt) s QF E ↔ QF .ct s := by rw [exec]; rfl
@[simp ↓] theorem wp_tryq {body suite : Stms} {q : Nat} {i : Option Nat} : Wq (exec c (.try_ body q i suite)) ⟨x :: l, hp⟩ QF E ↔ Wq (execs c body) ⟨x :: l, hp⟩ QF (fun k fs s1 => if c.sub k q = true then (fs = [] ∧ Wq (execs { c with exc := some (k, fs) } suite) (enter1 i s1) (fun r s2 => QF r (drop1 i s2)) (fun _ _ _ => False)) else E k fs s1) := by
  rw [exec]
  unfold Wq tryM
  cases execs c body ⟨x :: l, hp⟩ with
  | none => rfl
  | some r =>
    cases r with
    | ok a s => rfl
    | exn k fs s =>
      dsimp only
      cases c.sub k q with
      | false => simp
      | true =>
        cases fs with
        | nil =>
          simp only [if_true, List.isEmpty_nil, true_and]
          cases execs { c with exc := some (k, []) } suite (enter1 i s) with
          | none => rfl
          | some r => cases r <;> rfl
        | cons _ _ => simp
end
end Kb

set_option Elab.async false
set_option linter.all false
set_option maxRecDepth 100000
/-! KbEv2: data, loops. -/
namespace Kb
section
variable {α β : Type} {c : Cfg} {s : S} {Q : α → S → Prop} {E : Nat → List D → S → Prop} {x : Option Sl} {l : List (Option Sl)} {hp : List Ob} {QS : Sl → S → Prop} {QD : D → S → Prop} {QF : Fl → S → Prop} {QL : List D → S → Prop} {QSL : List Sl → S → Prop} {QU : Unit → S → Prop} {QB : Bool → S → Prop}
theorem wp_lft_ifq {p : Prop} [Decidable p] {o : Option α} : Wq (lft (if p then o else none)) s Q E ↔ p ∧ Wq (lft o) s Q E := by
  by_cases h : p <;> simp [h]
@[simp] theorem eqD_ss (a b) : eqD (.str a) (.str b) = decide (a = b) := by rw [eqD]
@[simp] theorem eqD_ii (a b) : eqD (.int a) (.int b) = decide (a = b) := by rw [eqD]
@[simp] theorem eqD_bb (a b) : eqD (.bl a) (.bl b) = (a == b) := by rw [eqD]
@[simp] theorem eqD_tt (a b) : eqD (.tup a) (.tup b) = eqL a b := by rw [eqD]
@[simp] theorem eqD_ll (a b) : eqD (.lst a) (.lst b) = eqL a b := by rw [eqD]
@[simp] theorem eqD_nn : eqD .non .non = true := by rw [eqD]
@[simp] theorem eqL_n : eqL [] [] = true := by rw [eqL]
@[simp] theorem eqL_c (a b : D) (as bs : List D) : eqL (a :: as) (b :: bs) = (eqD a b && eqL as bs) := by rw [eqL]
@[simp] theorem eqL_nc (b : D) (bs : List D) : eqL [] (b :: bs) = false := by rw [eqL] <;> simp
@[simp] theorem eqL_cn (b : D) (bs : List D) : eqL (b :: bs) [] = false := by rw [eqL] <;> simp
theorem eqL_str {a b : List (List Nat)} : eqL (a.map .str) (b.map .str) = decide (a = b) := by
  induction a generalizing b with
  | nil => cases b <;> simp
  | cons x r ih => cases b with
    | nil => simp
    | cons y t =>
      simp only [List.map_cons, eqL_c, eqD_ss, ih, List.cons.injEq]
      by_cases h1 : x = y <;> by_cases h2 : r = t <;> simp [h1, h2]
@[simp ↓] theorem wp_addIq {i j : Int} : Wq (lft (binD .add (.int i) (.int j))) s QS E ↔ QS (.val (.int (i + j))) s := Iff.rfl
@[simp ↓] theorem wp_subIq {i j : Int} : Wq (lft (binD .sub (.int i) (.int j))) s QS E ↔ QS (.val (.int (i - j))) s := Iff.rfl
@[simp ↓] theorem wp_mulIq {i j : Int} : Wq (lft (binD .mul (.int i) (.int j))) s QS E ↔ (isInt64 i = true ∨ isInt64 j = true) ∧ QS (.val (.int (i * j))) s := by
  unfold binD; dsimp only; rw [wp_lft_ifq]; simp
@[simp ↓] theorem wp_fdivIq {i j : Int} : Wq (lft (binD .fdiv (.int i) (.int j))) s QS E ↔ (j ≠ 0 ∧ j.natAbs < 1073741824) ∧ QS (.val (.int (i.fdiv j))) s := by
  unfold binD; dsimp only; rw [wp_lft_ifq]; simp
@[simp ↓] theorem wp_modIq {i j : Int} : Wq (lft (binD .mod (.int i) (.int j))) s QS E ↔ j ≠ 0 ∧ QS (.val (.int (i.fmod j))) s := by
  unfold binD; dsimp only; rw [wp_lft_ifq]; simp
@[simp ↓] theorem wp_powIq {i j : Int} : Wq (lft (binD .pow (.int i) (.int j))) s QS E ↔ (0 ≤ j ∧ j ≤ 1000000 ∧ i.natAbs < 18446744073709551616) ∧ QS (.val (.int (i ^ j.toNat))) s := by
  unfold binD; dsimp only; rw [wp_lft_ifq]; simp [and_assoc]
@[simp ↓] theorem wp_addSq {i j : List Nat} : Wq (lft (binD .add (.str i) (.str j))) s QS E ↔ i.length + j.length ≤ 16777216 ∧ QS (.val (.str (i ++ j))) s := by
  unfold binD; dsimp only; rw [wp_lft_ifq]; simp
@[simp ↓] theorem wp_addTq {i j : List D} : Wq (lft (binD .add (.tup i) (.tup j))) s QS E ↔ i.length + j.length ≤ 16777216 ∧ QS (.val (.tup (i ++ j))) s := by
  unfold binD; dsimp only; rw [wp_lft_ifq]; simp
@[simp ↓] theorem wp_addLq {i j : List D} : Wq (lft (binD .add (.lst i) (.lst j))) s QS E ↔ i.length + j.length ≤ 16777216 ∧ QS (.own (i ++ j)) s := by
  unfold binD; dsimp only; rw [wp_lft_ifq]; simp
@[simp ↓] theorem wp_mulSq {i : List Nat} {k : Int} : Wq (lft (binD .mul (.str i) (.int k))) s QS E ↔ (-9223372036854775808 ≤ k ∧ k ≤ 16777216 ∧ i.length * k.toNat ≤ 16777216) ∧ QS (.val (.str (List.replicate k.toNat i).flatten)) s := by
  unfold binD; dsimp only; rw [wp_lft_ifq]; simp [and_assoc]
@[simp ↓] theorem wp_mulLq {i : List D} {k : Int} : Wq (lft (binD .mul (.lst i) (.int k))) s QS E ↔ (k ≤ 16777216 ∧ -9223372036854775808 ≤ k ∧ i.length * k.toNat ≤ 16777216) ∧ QS (.own (List.replicate k.toNat i).flatten) s := by
  unfold binD; dsimp only; rw [wp_lft_ifq]; simp [and_assoc]
@[simp ↓] theorem wp_mulTq {i : List D} {k : Int} : Wq (lft (binD .mul (.tup i) (.int k))) s QS E ↔ (2 ≤ k ∧ k ≤ 1000 ∧ i.length ≤ 1000 ∧ i ≠ []) ∧ QS (.val (.tup (List.replicate k.toNat i).flatten)) s := by
  unfold binD; dsimp only; rw [wp_lft_ifq]; simp [and_assoc]
@[simp ↓] theorem wp_cmpEqq {a b : D} : Wq (lft (cmpD .eq a b)) s QB E ↔ (pl 60 a = true ∧ pl 60 b = true) ∧ QB (eqD a b) s := by
  unfold cmpD; dsimp only; rw [wp_lft_ifq]; simp
@[simp ↓] theorem wp_cmpNeq {a b : D} : Wq (lft (cmpD .ne a b)) s QB E ↔ (pl 60 a = true ∧ pl 60 b = true) ∧ QB (!eqD a b) s := by
  unfold cmpD; dsimp only; rw [wp_lft_ifq]; simp
@[simp ↓] theorem wp_cmpLtq {a b : Int} : Wq (lft (cmpD .lt (.int a) (.int b))) s QB E ↔ QB (decide (a < b)) s := Iff.rfl
@[simp ↓] theorem wp_cmpLeq {a b : Int} : Wq (lft (cmpD .le (.int a) (.int b))) s QB E ↔ QB (decide (a ≤ b)) s := Iff.rfl
@[simp ↓] theorem wp_cmpGtq {a b : Int} : Wq (lft (cmpD .gt (.int a) (.int b))) s QB E ↔ QB (decide (b < a)) s := Iff.rfl
@[simp ↓] theorem wp_cmpGeq {a b : Int} : Wq (lft (cmpD .ge (.int a) (.int b))) s QB E ↔ QB (decide (b ≤ a)) s := Iff.rfl
@[simp ↓] theorem wp_inSq {a : Nat} {b : List Nat} : Wq (lft (cmpD .isin (.str [a]) (.str b))) s QB E ↔ QB (decide (a ∈ b)) s := Iff.rfl
@[simp ↓] theorem wp_inLq {a : D} {b : List D} : Wq (lft (cmpD .isin a (.lst b))) s QB E ↔ (pl 60 a = true ∧ b.all (pl 60) = true) ∧ QB (inL a b) s := by
  unfold cmpD isin; dsimp only; rw [wp_lft_ifq]; simp
@[simp ↓] theorem wp_inTq {a : D} {b : List D} : Wq (lft (cmpD .isin a (.tup b))) s QB E ↔ (pl 60 a = true ∧ b.all (pl 60) = true) ∧ QB (inL a b) s := by
  unfold cmpD isin; dsimp only; rw [wp_lft_ifq]; simp
@[simp ↓] theorem wp_inKq {a : List Nat} {k : List (List Nat)} {v : List D} : Wq (lft (cmpD .isin (.str a) (.kdic k v))) s QB E ↔ QB (hasT a k) s := Iff.rfl
@[simp ↓] theorem wp_inDSq {a : List Nat} {k : List Ky} {v : List D} : Wq (lft (cmpD .isin (.str a) (.dic k v))) s QB E ↔ QB (has (.a (.s a)) k) s := Iff.rfl
@[simp ↓] theorem wp_ninSq {a : Nat} {b : List Nat} : Wq (lft (cmpD .notin (.str [a]) (.str b))) s QB E ↔ QB (!decide (a ∈ b)) s := Iff.rfl
@[simp ↓] theorem wp_ninLq {a : D} {b : List D} : Wq (lft (cmpD .notin a (.lst b))) s QB E ↔ (pl 60 a = true ∧ b.all (pl 60) = true) ∧ QB (!inL a b) s := by
  
  show Wq (lft ((if plain a && plainL b then some (inL a b) else none).map (!·))) s QB E ↔ _
  by_cases h : (plain a && plainL b) = true
  · rw [if_pos h]
    exact ⟨fun q => ⟨Bool.and_eq_true_iff.mp h, q⟩, fun q => q.2⟩
  · rw [if_neg h]
    exact ⟨fun q => q.elim, fun q => h (Bool.and_eq_true_iff.mpr q.1)⟩
@[simp ↓] theorem wp_ninTq {a : D} {b : List D} : Wq (lft (cmpD .notin a (.tup b))) s QB E ↔ (pl 60 a = true ∧ b.all (pl 60) = true) ∧ QB (!inL a b) s := by
  
  show Wq (lft ((if plain a && plainL b then some (inL a b) else none).map (!·))) s QB E ↔ _
  by_cases h : (plain a && plainL b) = true
  · rw [if_pos h]
    exact ⟨fun q => ⟨Bool.and_eq_true_iff.mp h, q⟩, fun q => q.2⟩
  · rw [if_neg h]
    exact ⟨fun q => q.elim, fun q => h (Bool.and_eq_true_iff.mpr q.1)⟩
@[simp ↓] theorem wp_ninKq {a : List Nat} {k : List (List Nat)} {v : List D} : Wq (lft (cmpD .notin (.str a) (.kdic k v))) s QB E ↔ QB (!hasT a k) s := Iff.rfl
@[simp ↓] theorem wp_ninDSq {a : List Nat} {k : List Ky} {v : List D} : Wq (lft (cmpD .notin (.str a) (.dic k v))) s QB E ↔ QB (!has (.a (.s a)) k) s := Iff.rfl
@[simp ↓] theorem wp_isNq {a : D} : Wq (lft (cmpD .is_ a .non)) s QB E ↔ QB (match a with
  | .non => true
  | _ => false) s := by cases a <;> rfl
@[simp ↓] theorem wp_isnNq {a : D} : Wq (lft (cmpD .isnot a .non)) s QB E ↔ QB (match a with
  | .non => false
  | _ => true) s := by cases a <;> rfl
@[simp ↓] theorem wp_isBq {a b : Bool} : Wq (lft (cmpD .is_ (.bl a) (.bl b))) s QB E ↔ QB (a == b) s := Iff.rfl
@[simp ↓] theorem wp_isnBq {a b : Bool} : Wq (lft (cmpD .isnot (.bl a) (.bl b))) s QB E ↔ QB (!(a == b)) s := Iff.rfl
@[simp ↓] theorem wp_truBq {b : Bool} : Wq (lft (tru (.bl b))) s QB E ↔ QB b s := Iff.rfl
@[simp ↓] theorem wp_truLq {b : List D} : Wq (lft (tru (.lst b))) s QB E ↔ QB (!b.isEmpty) s := Iff.rfl
@[simp ↓] theorem wp_truTq {b : List D} : Wq (lft (tru (.tup b))) s QB E ↔ QB (!b.isEmpty) s := Iff.rfl
/-! o[i] -/
@[simp ↓] theorem wp_ixSq {xs : List Nat} {k : Int} : Wq (idxM (.val (.str xs)) (.int k)) s QS E ↔ xs.length ≤ 16777216 ∧ (match nth xs k with
  | some q => QS (.val (.str [q])) s
  | none => False) := by
  unfold idxM idxD; dsimp only; unfold Sl.d; dsimp only
  by_cases h : xs.length ≤ line
  · rw [if_pos h]; simp at h; cases hn : nth xs k <;> simp [h]
  · rw [if_neg h]; simp at h; simp; intro h2; omega
theorem idx_mapq {o : Option D} : Wq (lft (o.map Sl.val)) s QS E ↔ (match o with
  | some q => QS (.val q) s
  | none => False) := by cases o <;> rfl
@[simp ↓] theorem wp_ixLq {xs : List D} {k : Int} : Wq (idxM (.val (.lst xs)) (.int k)) s QS E ↔ (match nth xs k with
  | some q => QS (.val q) s
  | none => False) := idx_mapq
@[simp ↓] theorem wp_ixTq {xs : List D} {k : Int} : Wq (idxM (.val (.tup xs)) (.int k)) s QS E ↔ (match nth xs k with
  | some q => QS (.val q) s
  | none => False) := idx_mapq
@[simp ↓] theorem wp_ixOq {xs : List D} {k : Int} : Wq (idxM (.own xs) (.int k)) s QS E ↔ (match nth xs k with
  | some q => QS (.val q) s
  | none => False) := idx_mapq
@[simp ↓] theorem wp_ixKq {ks : List (List Nat)} {vs : List D} {k : List Nat} : Wq (idxM (.val (.kdic ks vs)) (.str k)) s QS E ↔ (match lookT k ks vs with
  | some q => QS (.val q) s
  | none => False) := idx_mapq
@[simp ↓] theorem wp_ixDq {ks : List Ky} {vs : List D} {k : List Nat} : Wq (idxM (.val (.dic ks vs)) (.str k)) s QS E ↔ (match look (.a (.s k)) ks vs with
  | some q => QS (.val q) s
  | none => False) := idx_mapq
@[simp ↓] theorem wp_ixODq {t : Bool} {ks : List Ky} {vs : List D} {k : List Nat} : Wq (idxM (.ownd t ks vs) (.str k)) s QS E ↔ (match look (.a (.s k)) ks vs with
  | some q => QS (.val q) s
  | none => False) := idx_mapq
@[simp ↓] theorem wp_ixRq {k : Nat} {j : Int} {o : List (Option Sl)} : Wq (idxM (.val (.ref k)) (.int j)) ⟨o, hp⟩ QS E ↔ (match hp[k]? with
  | some (.lst xs) => (match nth xs j with
    | some q => QS (.val q) ⟨o, hp⟩
    | none => False)
  | none => False) := by
  unfold Wq idxM
  dsimp only
  cases h : hp[k]? with
  | none => rfl
  | some ob =>
    cases ob with
    | lst xs =>
      dsimp only
      cases nth xs j <;> rfl
@[simp ↓] theorem wp_slLq {xs : List D} {a b : Option Int} : Wq (lft (slD (.lst xs) a b)) s QS E ↔ QS (.own (cut xs a b)) s := Iff.rfl
@[simp ↓] theorem wp_slTq {xs : List D} {a b : Option Int} : Wq (lft (slD (.tup xs) a b)) s QS E ↔ QS (.val (.tup (cut xs a b))) s := Iff.rfl
@[simp ↓] theorem wp_slSq {xs : List Nat} {a b : Option Int} : Wq (lft (slD (.str xs) a b)) s QS E ↔ xs.length ≤ 16777216 ∧ QS (.val (.str (cut xs a b))) s := by
  unfold slD; dsimp only; rw [wp_lft_ifq]; simp
@[simp ↓] theorem wp_slRq {ns : List Int} {a b : Option Int} : Wq (lft (slD (.scr ns) a b)) s QS E ↔ QS (.own ((cut ns a b).map .int)) s := Iff.rfl
@[simp ↓] theorem wp_revSq {xs : List Nat} : Wq (lft (revD (.str xs))) s QS E ↔ xs.length ≤ 16777216 ∧ QS (.val (.str xs.reverse)) s := by
  unfold revD; dsimp only; rw [wp_lft_ifq]; simp
@[simp ↓] theorem wp_itSq {xs : List Nat} {QL : List D → S → Prop} : Wq (lft (itemsX (.str xs))) s QL E ↔ QL (xs.map fun c => .str [c]) s := Iff.rfl
@[simp ↓] theorem wp_itLq {xs : List D} {QL : List D → S → Prop} : Wq (lft (itemsX (.lst xs))) s QL E ↔ QL xs s := Iff.rfl
@[simp ↓] theorem wp_itTq {xs : List D} {QL : List D → S → Prop} : Wq (lft (itemsX (.tup xs))) s QL E ↔ QL xs s := Iff.rfl
@[simp ↓] theorem wp_itDicq {ks : List Ky} {vs : List D} {QL : List D → S → Prop} : Wq (lft (itemsX (.dic ks vs))) s QL E ↔ QL (ks.map Ky.d) s := Iff.rfl
/-! built-ins -/
@[simp ↓] theorem wp_lenSq {xs : List Nat} : Wq (lft (bltD .len [.str xs])) s QS E ↔ xs.length ≤ 16777216 ∧ QS (.val (.int xs.length)) s := by
  unfold bltD; dsimp only; rw [wp_lft_ifq]; simp
@[simp ↓] theorem wp_lenLq {xs : List D} : Wq (lft (bltD .len [.lst xs])) s QS E ↔ QS (.val (.int xs.length)) s := Iff.rfl
@[simp ↓] theorem wp_lenTq {xs : List D} : Wq (lft (bltD .len [.tup xs])) s QS E ↔ QS (.val (.int xs.length)) s := Iff.rfl
@[simp ↓] theorem wp_lenDq {ks : List Ky} {vs : List D} : Wq (lft (bltD .len [.dic ks vs])) s QS E ↔ QS (.val (.int ks.length)) s := Iff.rfl
@[simp ↓] theorem wp_absIq {i : Int} : Wq (lft (bltD .abs [.int i])) s QS E ↔ QS (.val (.int (if i < 0 then -i else i))) s := Iff.rfl
@[simp ↓] theorem wp_intIq {i : Int} : Wq (lft (bltD .int [.int i])) s QS E ↔ QS (.val (.int i)) s := Iff.rfl
@[simp ↓] theorem wp_intBq {i : Bool} : Wq (lft (bltD .int [.bl i])) s QS E ↔ QS (.val (.int (if i then 1 else 0))) s := Iff.rfl
@[simp ↓] theorem wp_reprFq {d : D} : Wq (lft (bltD .repr [d])) s QS E ↔ (match reprF d with
  | some x => QS (.val (.str x)) s
  | none => False) := by
  unfold bltD; dsimp only; cases reprF d <;> rfl
@[simp ↓] theorem wp_reprTq {d : D} : Wq (lft (bltD .reprT [d])) s QS E ↔ (match reprD d with
  | some x => (pl 40 d = true ∧ x.length ≤ 1000000) ∧ QS (.val (.str x)) s
  | none => False) := by
  unfold bltD
  dsimp only
  cases reprD d with
  | none => rfl
  | some x => dsimp only; rw [wp_lft_ifq]; simp
theorem reprD_str (x : List Nat) : reprD (.str x) = reprF (.str x) := by rw [reprD]; intro ds z; cases z
theorem reprD_int (x : Int) : reprD (.int x) = reprF (.int x) := by rw [reprD]; intro ds z; cases z
theorem reprD_bl (x : Bool) : reprD (.bl x) = reprF (.bl x) := by rw [reprD]; intro ds z; cases z
theorem reprD_tup (x : List D) : reprD (.tup x) = (match reprDs x with
  | some xs => some (tupS xs)
  | none => none) := by rw [reprD]; try (cases reprDs x <;> rfl)
theorem bools_map (bs : List Bool) : bools (bs.map .bl) = some bs := by
  induction bs with
  | nil => rfl
  | cons b r ih => simp [bools, ih]
theorem txts_map (bs : List (List Nat)) : txts (bs.map .str) = some bs := by
  induction bs with
  | nil => rfl
  | cons b r ih => simp [txts, ih]
@[simp] theorem bools_mapf {A : Type} (p : A → Bool) (xs : List A) : bools (xs.map fun a => .bl (p a)) = some (xs.map p) := by
  induction xs with
  | nil => rfl
  | cons b r ih => simp [bools, ih]
@[simp] theorem txts_mapf {A : Type} (p : A → List Nat) (xs : List A) : txts (xs.map fun a => .str (p a)) = some (xs.map p) := by
  induction xs with
  | nil => rfl
  | cons b r ih => simp [txts, ih]
@[simp] theorem txts_mapc (xs : List (List Nat)) : txts (xs.map .str) = some xs := txts_map xs
@[simp] theorem bools_mapc (xs : List Bool) : bools (xs.map .bl) = some xs := bools_map xs
@[simp] theorem bools_nil : bools [] = some [] := rfl
@[simp] theorem bools_cons (b : Bool) (r : List D) : bools (.bl b :: r) = (match bools r with
  | some xs => some (b :: xs)
  | none => none) := rfl
@[simp] theorem txts_nil : txts [] = some [] := rfl
@[simp] theorem txts_cons (b : List Nat) (r : List D) : txts (.str b :: r) = (match txts r with
  | some xs => some (b :: xs)
  | none => none) := rfl
@[simp ↓] theorem wp_allq {bs : List Bool} : Wq (lft (bltD .all [.lst (bs.map .bl)])) s QS E ↔ QS (.val (.bl (bs.all id))) s := by
  unfold bltD; dsimp only; rw [bools_map]; rfl
@[simp ↓] theorem wp_anyq {bs : List Bool} : Wq (lft (bltD .any [.lst (bs.map .bl)])) s QS E ↔ QS (.val (.bl (bs.any id))) s := by
  unfold bltD; dsimp only; rw [bools_map]; rfl
@[simp ↓] theorem wp_allDq {xs : List D} : Wq (lft (bltD .all [.lst xs])) s QS E ↔ (match bools xs with
  | some bs => QS (.val (.bl (bs.all id))) s
  | none => False) := by
  unfold bltD; dsimp only; cases bools xs <;> rfl
@[simp ↓] theorem wp_anyDq {xs : List D} : Wq (lft (bltD .any [.lst xs])) s QS E ↔ (match bools xs with
  | some bs => QS (.val (.bl (bs.any id))) s
  | none => False) := by
  unfold bltD; dsimp only; cases bools xs <;> rfl
@[simp ↓] theorem wp_listLq {xs : List D} : Wq (lft (bltD .list [.lst xs])) s QS E ↔ QS (.own xs) s := Iff.rfl
@[simp ↓] theorem wp_listTq {xs : List D} : Wq (lft (bltD .list [.tup xs])) s QS E ↔ QS (.own xs) s := Iff.rfl
@[simp ↓] theorem wp_listSq {xs : List Nat} : Wq (lft (bltD .list [.str xs])) s QS E ↔ xs.length ≤ 16777216 ∧ QS (.own (xs.map fun c => .str [c])) s := by
  unfold bltD; dsimp only; rw [wp_lft_ifq]; simp
@[simp ↓] theorem wp_tupLq {xs : List D} : Wq (lft (bltD .tuple [.lst xs])) s QS E ↔ QS (.val (.tup xs)) s := Iff.rfl
@[simp ↓] theorem wp_tupTq {xs : List D} : Wq (lft (bltD .tuple [.tup xs])) s QS E ↔ QS (.val (.tup xs)) s := Iff.rfl
/-! methods -/
@[simp] theorem wrecv_count (xs) : recv .count (.lst xs) = true := rfl
@[simp] theorem wrecv_index (xs) : recv .index (.lst xs) = true := rfl
@[simp] theorem wrecv_join (xs) : recv .join (.str xs) = true := rfl
@[simp ↓] theorem wp_joinq {sep : List Nat} {ys : List (List Nat)} : Wq (lft (mthD .join (.str sep) [.lst (ys.map .str)])) s QS E ↔ sumLen ys + ys.length * sep.length ≤ 16777216 ∧ QS (.val (.str (joinS sep ys))) s := by
  unfold mthD joinD; dsimp only; rw [txts_map]; dsimp only; rw [wp_lft_ifq]; simp
@[simp ↓] theorem wp_joinDq {sep : List Nat} {ys : List D} : Wq (lft (mthD .join (.str sep) [.lst ys])) s QS E ↔ (match txts ys with
  | some ys => sumLen ys + ys.length * sep.length ≤ 16777216 ∧ QS (.val (.str (joinS sep ys))) s
  | none => False) := by
  unfold mthD joinD; dsimp only; cases txts ys with
  | none => rfl
  | some ys => dsimp only; rw [wp_lft_ifq]; simp
@[simp ↓] theorem wp_joinTq {sep : List Nat} {ys : List D} : Wq (lft (mthD .join (.str sep) [.tup ys])) s QS E ↔ (match txts ys with
  | some ys => sumLen ys + ys.length * sep.length ≤ 16777216 ∧ QS (.val (.str (joinS sep ys))) s
  | none => False) := by
  unfold mthD joinD; dsimp only; cases txts ys with
  | none => rfl
  | some ys => dsimp only; rw [wp_lft_ifq]; simp
@[simp ↓] theorem wp_indexq {xs : List D} {d : D} : Wq (lft (mthD .index (.lst xs) [d])) s QS E ↔ (pl 60 d = true ∧ xs.all (pl 60) = true) ∧ (match idx1 d xs 0 with
  | some n => QS (.val (.int n)) s
  | none => False) := by
  unfold mthD ixL; dsimp only; rw [wp_lft_ifq]
  cases idx1 d xs 0 <;> simp
@[simp ↓] theorem wp_countq {xs : List D} {d : D} : Wq (lft (mthD .count (.lst xs) [d])) s QS E ↔ (flat d = true ∧ xs.all flat = true) ∧ QS (.val (.int ((xs.filter fun y => eqD y d).length : Nat))) s := by
  unfold mthD cntL; dsimp only; rw [wp_lft_ifq]; simp
@[simp] theorem wrecv_countS (xs) : recv .countS (.str xs) = true := rfl
@[simp ↓] theorem wp_countSq {xs : List Nat} {q : Nat} : Wq (lft (mthD .countS (.str xs) [.str [q]])) s QS E ↔ QS (.val (.int (xs.count q : Nat))) s := Iff.rfl
@[simp ↓] theorem wp_zipLLq {xs ys : List D} {QL : List D → S → Prop} : Wq (lft (zipI [.lst xs, .lst ys])) s QL E ↔ QL (zipD xs ys) s := Iff.rfl
@[simp ↓] theorem wp_zipSSq {xs ys : List Nat} {QL : List D → S → Prop} : Wq (lft (zipI [.str xs, .str ys])) s QL E ↔ QL (zipD (xs.map fun c => .str [c]) (ys.map fun c => .str [c])) s := Iff.rfl
@[simp ↓] theorem wp_iaddq {i j : Int} : Wq (lft (binD .iadd (.int i) (.int j))) s QS E ↔ QS (.val (.int (i + j))) s := Iff.rfl
@[simp ↓] theorem wp_enumIq {d : D} {QL : List D → S → Prop} : Wq (lft ((itemsD d).map fun xs => enumD xs 0)) s QL E ↔ (match itemsD d with
  | some xs => QL (enumD xs 0) s
  | none => False) := by cases h : itemsD d <;> rfl
@[simp ↓] theorem wp_zipTTq {xs ys : List D} {QL : List D → S → Prop} : Wq (lft (zipI [.tup xs, .tup ys])) s QL E ↔ QL (zipD xs ys) s := Iff.rfl
@[simp ↓] theorem wp_rangeL1q {t : Bool} {n : Int} : Wq (lft (rangeL t [.int n])) s QS E ↔ rgOk 0 n = true ∧ QS (if t then .val (.tup (rangeD n.toNat 0)) else .own (rangeD n.toNat 0)) s := by
  unfold rangeL; dsimp only; rw [wp_lft_ifq]; simp
@[simp ↓] theorem wp_rangeL2q {t : Bool} {a b : Int} : Wq (lft (rangeL t [.int a, .int b])) s QS E ↔ rgOk a b = true ∧ QS (if t then .val (.tup (rangeD (b - a).toNat a)) else .own (rangeD (b - a).toNat a)) s := by
  unfold rangeL; dsimp only; rw [wp_lft_ifq]; simp
@[simp ↓] theorem wp_sortedq {xs : List D} : Wq (lft (bltD .sorted [.lst xs])) s QS E ↔ (match sortD xs with
  | some zs => QS (.own zs) s
  | none => False) := by
  unfold bltD; dsimp only; cases sortD xs <;> rfl
@[simp ↓] theorem wp_setLq {xs : List D} : Wq (lft (bltD .set [.lst xs])) s QS E ↔ (match setD xs with
  | some v => QS v s
  | none => False) := by
  unfold bltD; dsimp only; cases setD xs <;> rfl
@[simp ↓] theorem wp_setTq {xs : List D} : Wq (lft (bltD .set [.tup xs])) s QS E ↔ (match setD xs with
  | some v => QS v s
  | none => False) := by
  unfold bltD; dsimp only; cases setD xs <;> rfl
@[simp ↓] theorem wp_lenSetq {ks : List Ka} : Wq (lft (bltD .len [.set ks])) s QS E ↔ QS (.val (.int ks.length)) s := Iff.rfl
@[simp ↓] theorem wp_sortedTq {xs : List D} : Wq (lft (bltD .sorted [.tup xs])) s QS E ↔ (match sortD xs with
  | some zs => QS (.own zs) s
  | none => False) := by
  unfold bltD; dsimp only; cases sortD xs <;> rfl
@[simp ↓] theorem wp_sortedSq {ks : List Ka} : Wq (lft (bltD .sorted [.set ks])) s QS E ↔ (match sortD (ks.map Ka.d) with
  | some zs => QS (.own zs) s
  | none => False) := by
  unfold bltD; dsimp only; cases sortD (ks.map Ka.d) <;> rfl
@[simp ↓] theorem wp_sortedDq {ks : List Ky} {vs : List D} : Wq (lft (bltD .sorted [.dic ks vs])) s QS E ↔ (match sortD (ks.map Ky.d) with
  | some zs => QS (.own zs) s
  | none => False) := by
  unfold bltD; dsimp only; cases sortD (ks.map Ky.d) <;> rfl
@[simp ↓] theorem wp_maxLq {xs : List D} : Wq (lft (bltD .max [.lst xs])) s QS E ↔ (match intsD xs with
  | some (m :: is) => QS (.val (.int (maxL m is))) s
  | _ => False) := by
  unfold bltD; dsimp only
  cases intsD xs with
  | none => rfl
  | some l => cases l <;> rfl
@[simp ↓] theorem wp_minLq {xs : List D} : Wq (lft (bltD .min [.lst xs])) s QS E ↔ (match intsD xs with
  | some (m :: is) => QS (.val (.int (minL m is))) s
  | _ => False) := by
  unfold bltD; dsimp only
  cases intsD xs with
  | none => rfl
  | some l => cases l <;> rfl
@[simp ↓] theorem wp_sumLq {xs : List D} : Wq (lft (bltD .sum [.lst xs])) s QS E ↔ (match intsD xs with
  | some is => QS (.val (.int is.sum)) s
  | none => False) := by
  unfold bltD; dsimp only
  cases intsD xs <;> rfl
@[simp] theorem wrecv_indexT (xs) : recv .indexT (.tup xs) = true := rfl
@[simp ↓] theorem wp_indexTq {xs : List D} {d : D} : Wq (lft (mthD .indexT (.tup xs) [d])) s QS E ↔ (pl 60 d = true ∧ xs.all (pl 60) = true) ∧ (match idx1 d xs 0 with
  | some n => QS (.val (.int n)) s
  | none => False) := by
  unfold mthD ixL; dsimp only; rw [wp_lft_ifq]
  cases idx1 d xs 0 <;> simp
@[simp ↓] theorem wp_dictPq {xs : List D} : Wq (lft (bltD .dict [.lst xs])) s QS E ↔ (match dicP xs [] [] with
  | some v => QS v s
  | none => False) := by
  unfold bltD; dsimp only; cases dicP xs [] [] <;> rfl
theorem rgOk_small {a b : Int} (h0 : -16777216 ≤ a) (h1 : a ≤ 16777216) (h2 : -16777216 ≤ b) (h3 : b ≤ 16777216) (h4 : b - a ≤ 16777216) : rgOk a b = true := by
  unfold rgOk
  simp
  omega
/-! stores -/
@[simp ↓] theorem wp_ownLq {i : Nat} : Wq (ownL i) ⟨x :: l, hp⟩ QU E ↔ (match (x :: l)[i]? with
  | some (some (.own _)) => QU () ⟨x :: l, hp⟩
  | _ => False) := by
  unfold Wq ownL; dsimp only
  cases (x :: l)[i]? with
  | none => rfl
  | some o => cases o with
    | none => rfl
    | some v => cases v <;> rfl
@[simp ↓] theorem wp_appendq {i : Nat} {d : D} : Wq (mutS .append i [d]) ⟨x :: l, hp⟩ QS E ↔ (match (x :: l)[i]? with
  | some (some (.own xs)) => xs.length < 16777216 ∧ QS (.val .non) ⟨(x :: l).set i (some (.own (xs ++ [d]))), hp⟩
  | _ => False) := by
  unfold Wq mutS; dsimp only
  cases (x :: l)[i]? with
  | none => rfl
  | some o => cases o with
    | none => rfl
    | some v => cases v with
      | own xs =>
        dsimp only
        by_cases h : xs.length < line
        · rw [if_pos h]; simp at h; simp [h]
        · rw [if_neg h]; simp at h; simp; intro h2; omega
      | _ => rfl
@[simp ↓] theorem wp_extendq {i : Nat} {ys : List D} : Wq (mutS .extend i [.lst ys]) ⟨x :: l, hp⟩ QS E ↔ (match (x :: l)[i]? with
  | some (some (.own xs)) => xs.length + ys.length ≤ 16777216 ∧ QS (.val .non) ⟨(x :: l).set i (some (.own (xs ++ ys))), hp⟩
  | _ => False) := by
  unfold Wq mutS; dsimp only
  cases (x :: l)[i]? with
  | none => rfl
  | some o => cases o with
    | none => rfl
    | some v => cases v with
      | own xs =>
        dsimp only
        by_cases h : xs.length + ys.length ≤ line
        · rw [if_pos h]; simp at h; simp [h]
        · rw [if_neg h]; simp at h; simp; intro h2; omega
      | _ => rfl
@[simp ↓] theorem wp_setIxMq {v : Nat} {i d : D} : Wq (setIxM v i d) ⟨x :: l, hp⟩ QU E ↔ (match (x :: l)[v]? with
  | some (some (.val (.ref k))) => (match hp[k]?, i with
    | some (.lst xs), .int j => (match ixOf xs.length j with
      | some n => QU () ⟨x :: l, hp.set k (.lst (xs.set n d))⟩
      | none => False)
    | _, _ => False)
  | some (some (.own xs)) => (match i with
    | .int j => (match ixOf xs.length j with
      | some n => QU () ⟨(x :: l).set v (some (.own (xs.set n d))), hp⟩
      | none => False)
    | _ => False)
  | some (some (.ownd t ks vs)) => (match keyD i with
    | some k => if k.isT = t ∧ ks.length < 16777216 then QU () ⟨(x :: l).set v (some (.ownd t (putK k ks) (putV k d ks vs))), hp⟩ else False
    | none => False)
  | _ => False) := by
  unfold Wq setIxM
  dsimp only
  cases hv : (x :: l)[v]? with
  | none => rfl
  | some o =>
    cases o with
    | none => rfl
    | some sv =>
      cases sv with
      | exc => rfl
      | own xs =>
        dsimp only
        cases i with
        | int j => dsimp only; cases ixOf xs.length j <;> rfl
        | _ => rfl
      | ownd t ks vs =>
        dsimp only
        cases keyD i with
        | none => rfl
        | some k =>
          dsimp only
          by_cases h1 : k.isT = t
          · by_cases h2 : ks.length < line
            · rw [if_pos h1, if_pos h2]; simp at h2; simp [h1, h2]
            · rw [if_pos h1, if_neg h2]; simp at h2; simp [h1]; omega
          · rw [if_neg h1]; simp [h1]
      | val dv =>
        cases dv with
        | ref k =>
          dsimp only
          cases hp[k]? with
          | none => rfl
          | some ob =>
            cases ob with
            | lst xs =>
              cases i with
              | int j => dsimp only; cases ixOf xs.length j <;> rfl
              | _ => rfl
        | _ => rfl
theorem alD_str (a b : List Nat) : alD (.str a) (.str b) = true := by rw [alD]
def leS (a b : List Nat) : Bool := !ltS b a
theorem leD_str (a b : List Nat) : leD (.str a) (.str b) = leS a b := by
  unfold leD ltD leS
  rw [toks, toks]
  simp [lexT, atomLt]
theorem sortD_str {xs : List (List Nat)} (h : xs.length ≤ 16777216) : sortD (xs.map .str) = some ((xs.mergeSort leS).map .str) := by
  rw [sortD_ms]
  have ok : sortOk (xs.map .str) = true := by
    unfold sortOk
    simp [noTup, alD_str, h]
  rw [if_pos ok, ← List.map_mergeSort (fun a _ b _ => (leD_str a b).symm)]
end
/-! ### loops -/
section
variable {c : Cfg} {E : Nat → List D → S → Prop} {QF : Fl → S → Prop} {QS : Sl → S → Prop}
theorem wp_forq {f : D → M Fl} {xs : List D} {s : S} (I : Nat → S → Prop) (h0 : I 0 s)
    (hs : ∀ (i : Nat) (d : D) (s : S), xs[i]? = some d → I i s → Wq (f d) s (fun r s' => match r with
      | .nx => I (i + 1) s'
      | .ct => I (i + 1) s'
      | .bk => QF .nx s'
      | .rt v => QF (.rt v) s') E)
    (h1 : ∀ s, I xs.length s → QF .nx s) : Wq (forL f xs) s QF E := by
  induction xs generalizing I s with
  | nil => exact h1 s h0
  | cons d r ih =>
    unfold forL
    rw [wp_bndq]
    refine (hs 0 d s rfl h0).mono (fun a s' h => ?_) fun _ _ _ h => h
    have tl : I 1 s' → Wq (forL f r) s' QF E := fun h => ih (fun i => I (i + 1)) h (fun i d s e h => hs (i + 1) d s (by simpa using e) h) fun s h => h1 s (by simpa using h)
    cases a with
    | nx => exact tl h
    | ct => exact tl h
    | bk => exact h
    | rt v => exact h
theorem wp_for0q {f : D → M Fl} {s : S} : Wq (forL f []) s QF E ↔ QF .nx s := Iff.rfl
theorem wp_for1q {f : D → M Fl} {d : D} {r : List D} {s : S} : Wq (forL f (d :: r)) s QF E ↔ Wq (f d) s (fun a s' => match a with
    | .nx => Wq (forL f r) s' QF E
    | .ct => Wq (forL f r) s' QF E
    | .bk => QF .nx s'
    | .rt v => QF (.rt v) s') E := by
  rw [forL, wp_bndq]; apply iff_of_eq; congr; funext a s; cases a <;> rfl
theorem wp_whileq {t : M Bool} {b : M Fl} {n : Nat} {s : S} (I : Nat → S → Prop) (k : Nat) (h0 : I k s) (hk : k < n)
    (hs : ∀ (k : Nat) (s : S), I k s → Wq t s (fun a s1 => if a = true then ∃ j, j < k ∧ Wq b s1 (fun r s2 => match r with
      | .nx => I j s2
      | .ct => I j s2
      | .bk => QF .nx s2
      | .rt v => QF (.rt v) s2) E else QF .nx s1) E) : Wq (whileL t b n) s QF E := by
  induction n generalizing k s with
  | zero => omega
  | succ n ih =>
    unfold whileL
    rw [wp_bndq]
    refine (hs k s h0).mono (fun a s1 h => ?_) fun _ _ _ h => h
    cases a with
    | false => exact h
    | true =>
      obtain ⟨j, hj, h⟩ := (if_pos rfl ▸ h : ∃ j, j < k ∧ _)
      rw [if_pos rfl, wp_bndq]
      refine h.mono (fun r s2 h => ?_) fun _ _ _ h => h
      cases r with
      | nx => exact ih j h (by omega)
      | ct => exact ih j h (by omega)
      | bk => exact h
      | rt v => exact h
/-! comprehensions -/
theorem clr_clr {own : List Nat} {l : List (Option Sl)} : ∀ {m}, clr own m = clr own l → True := fun _ => trivial
theorem bck_clr (old : List (Option Sl)) : ∀ (own : List Nat) (l m : List (Option Sl)), clr own l = clr own m → bck old own l = bck old own m
  | [], l, m, h => h
  | i :: is, l, m, h => by
    unfold bck
    apply bck_clr
    have e : ∀ (is : List Nat) (l m : List (Option Sl)) (v : Option Sl), clr is (l.set i none) = clr is (m.set i none) → clr is (l.set i v) = clr is (m.set i v) := by
      intro is
      induction is with
      | nil =>
        intro l m v h
        have h : l.set i none = m.set i none := h
        show l.set i v = m.set i v
        have := congrArg (fun z : List (Option Sl) => z.set i v) h
        simpa using this
      | cons j js ih =>
        intro l m v h
        have h : clr js ((l.set i none).set j none) = clr js ((m.set i none).set j none) := h
        show clr js ((l.set i v).set j none) = clr js ((m.set i v).set j none)
        by_cases c : j = i
        · subst c
          simpa using h
        · rw [List.set_comm _ _ (Ne.symm c), List.set_comm (l := m) _ _ (Ne.symm c)]
          rw [List.set_comm _ _ (Ne.symm c), List.set_comm (l := m) _ _ (Ne.symm c)] at h
          exact ih _ _ v h
    exact e is l m _ h
theorem clr_idem (own : List Nat) (l : List (Option Sl)) : clr own (clr own l) = clr own l := by
  have e : ∀ (own : List Nat) (i : Nat) (l : List (Option Sl)), clr own (l.set i none) = (clr own l).set i none := by
    intro own
    induction own with
    | nil => intro i l; rfl
    | cons j js ih =>
      intro i l
      show clr js ((l.set i none).set j none) = (clr js (l.set j none)).set i none
      by_cases c : j = i
      · subst c; simp [ih]
      · rw [List.set_comm _ _ (Ne.symm c), ih]
  induction own generalizing l with
  | nil => rfl
  | cons i is ih =>
    show clr is ((clr is (l.set i none)).set i none) = clr is (l.set i none)
    rw [e, e, e, ih]
    simp
def consO : Option D → List D → List D
  | some y, ys => y :: ys
  | none, ys => ys
theorem compL_step {F : D → M (Option D)} {d : D} {r : List D} {s s1 s2 : S} {o : Option D} {ys : List D} (h1 : F d s = some (.ok o s1)) (h2 : compL F r s1 = some (.ok ys s2)) : compL F (d :: r) s = some (.ok (consO o ys) s2) := by
  cases o <;> simp only [compL, bnd, h1, h2, pur, consO]
/-- a comprehension that leaves all but the heap: J: what has come, the heap -/
theorem wp_blkq {own : List Nat} {items : List D} {f : D → M (Option D)} {l : List (Option Sl)} {hp : List Ob} (J : Nat → List D → List Ob → Prop) (hl : items.length ≤ line) (h0 : J 0 [] hp)
    (hs : ∀ (i : Nat) (d : D) (ys : List D) (hp : List Ob), items[i]? = some d → J i ys hp → Wq (f d) ⟨clr own l, hp⟩ (fun o s' => clr own s'.sl = clr own l ∧ J (i + 1) (match o with
      | some y => ys ++ [y]
      | none => ys) s'.hp) (fun _ _ _ => False))
    (h1 : ∀ ys hp', J items.length ys hp' → QS (.own ys) ⟨bck l own (clr own l), hp'⟩) : Wq (blk own items f) ⟨l, hp⟩ QS E := by
  have key : ∀ (items : List D) (J : Nat → List D → List Ob → Prop) (s : S) (pre : List D), clr own s.sl = clr own l → J 0 pre s.hp →
      (∀ (i : Nat) (d : D) (ys : List D) (hp : List Ob), items[i]? = some d → J i ys hp → Wq (f d) ⟨clr own l, hp⟩ (fun o s' => clr own s'.sl = clr own l ∧ J (i + 1) (match o with
      | some y => ys ++ [y]
      | none => ys) s'.hp) (fun _ _ _ => False)) →
      ∃ ys s', compL (fun d => bnd (clrM own) fun _ => f d) items s = some (.ok ys s') ∧ clr own s'.sl = clr own l ∧ J items.length (pre ++ ys) s'.hp := by
    intro items
    induction items with
    | nil => intro J s pre h h0 _; exact ⟨[], s, rfl, h, by simpa using h0⟩
    | cons d r ih =>
      intro J s pre h h0 hs
      have z := hs 0 d pre s.hp rfl h0
      unfold Wq at z
      cases e : f d ⟨clr own l, s.hp⟩ with
      | none => rw [e] at z; exact z.elim
      | some rs =>
        rw [e] at z
        cases rs with
        | exn _ _ _ => exact z.elim
        | ok o s1 =>
          obtain ⟨z1, z2⟩ := z
          obtain ⟨ys, s', e1, e2, e3⟩ := ih (fun i => J (i + 1)) s1 _ z1 z2 fun i d ys hp e h => hs (i + 1) d ys hp (by simpa using e) h
          have e0 : (fun d => bnd (clrM own) fun _ => f d) d s = some (.ok o s1) := by
            show f d ⟨clr own s.sl, s.hp⟩ = _
            rw [h, e]
          have e4 := compL_step (F := fun d => bnd (clrM own) fun _ => f d) e0 e1
          cases o with
          | none => exact ⟨ys, s', e4, e2, by simpa using e3⟩
          | some y => exact ⟨y :: ys, s', e4, e2, by simpa using e3⟩
  obtain ⟨ys, s', e1, e2, e3⟩ := key items J ⟨l, hp⟩ [] rfl h0 hs
  unfold Wq blk
  rw [if_pos hl]
  dsimp only
  rw [e1]
  dsimp only
  rw [bck_clr l own s'.sl (clr own l) (by rw [e2, clr_idem])]
  exact h1 _ _ (by simpa using e3)
/-- a comprehension that leaves the heap -/
theorem wp_blkPq {own : List Nat} {items : List D} {f : D → M (Option D)} {l : List (Option Sl)} {hp : List Ob} (g : D → Option D) (hl : items.length ≤ line)
    (hs : ∀ d ∈ items, Wq (f d) ⟨clr own l, hp⟩ (fun o s' => o = g d ∧ clr own s'.sl = clr own l ∧ s'.hp = hp) (fun _ _ _ => False))
    (h1 : QS (.own (items.filterMap g)) ⟨bck l own (clr own l), hp⟩) : Wq (blk own items f) ⟨l, hp⟩ QS E := by
  refine wp_blkq (fun i ys hp' => ys = (items.take i).filterMap g ∧ hp' = hp) hl (by simp) (fun i d ys hp' e h => ?_) fun ys hp' h => ?_
  · obtain ⟨rfl, rfl⟩ := h
    refine (hs d (List.mem_of_getElem? e)).mono (fun o s' h => ?_) fun _ _ _ h => h
    obtain ⟨rfl, h2, h3⟩ := h
    refine ⟨h2, ?_, h3⟩
    have : items.take (i + 1) = items.take i ++ [d] := by
      rw [List.take_add_one, e]; rfl
    rw [this, List.filterMap_append]
    cases hg : g d <;> simp [hg]
  · obtain ⟨rfl, rfl⟩ := h
    simpa using h1
/-- .. that makes one of each -/
theorem wp_blkMq {own : List Nat} {items : List D} {f : D → M (Option D)} {l : List (Option Sl)} {hp : List Ob} (g : D → D) (hl : items.length ≤ line)
    (hs : ∀ d ∈ items, Wq (f d) ⟨clr own l, hp⟩ (fun o s' => o = some (g d) ∧ clr own s'.sl = clr own l ∧ s'.hp = hp) (fun _ _ _ => False))
    (h1 : QS (.own (items.map g)) ⟨bck l own (clr own l), hp⟩) : Wq (blk own items f) ⟨l, hp⟩ QS E :=
  wp_blkPq (fun d => some (g d)) hl hs (by rw [List.filterMap_eq_map']; exact h1)
/-- .. of texts' signs etc.: the items as a map -/
theorem wp_blkAq {A : Type} {own : List Nat} {as : List A} {j : A → D} {f : D → M (Option D)} {l : List (Option Sl)} {hp : List Ob} (g : A → D) (hl : as.length ≤ line)
    (hs : ∀ a ∈ as, Wq (f (j a)) ⟨clr own l, hp⟩ (fun o s' => o = some (g a) ∧ clr own s'.sl = clr own l ∧ s'.hp = hp) (fun _ _ _ => False))
    (h1 : QS (.own (as.map g)) ⟨bck l own (clr own l), hp⟩) : Wq (blk own (as.map j) f) ⟨l, hp⟩ QS E := by
  refine wp_blkq (fun i ys hp' => ys = (as.take i).map g ∧ hp' = hp) (by simpa using hl) (by simp) (fun i d ys hp' e h => ?_) fun ys hp' h => ?_
  · obtain ⟨rfl, rfl⟩ := h
    rw [List.getElem?_map] at e
    cases ea : as[i]? with
    | none => rw [ea] at e; cases e
    | some a =>
      rw [ea] at e
      cases e
      refine (hs a (List.mem_of_getElem? ea)).mono (fun o s' h => ?_) fun _ _ _ h => h
      obtain ⟨rfl, h2, h3⟩ := h
      refine ⟨h2, ?_, h3⟩
      rw [List.take_add_one, ea]
      simp
  · obtain ⟨rfl, rfl⟩ := h
    simpa using h1
theorem wp_blkOq {A : Type} {own : List Nat} {as : List A} {j : A → D} {f : D → M (Option D)} {l : List (Option Sl)} {hp : List Ob} (g : A → Option D) (hl : as.length ≤ line)
    (hs : ∀ a ∈ as, Wq (f (j a)) ⟨clr own l, hp⟩ (fun o s' => o = g a ∧ clr own s'.sl = clr own l ∧ s'.hp = hp) (fun _ _ _ => False))
    (h1 : QS (.own (as.filterMap g)) ⟨bck l own (clr own l), hp⟩) : Wq (blk own (as.map j) f) ⟨l, hp⟩ QS E := by
  refine wp_blkq (fun i ys hp' => ys = (as.take i).filterMap g ∧ hp' = hp) (by simpa using hl) (by simp) (fun i d ys hp' e h => ?_) fun ys hp' h => ?_
  · obtain ⟨rfl, rfl⟩ := h
    rw [List.getElem?_map] at e
    cases ea : as[i]? with
    | none => rw [ea] at e; cases e
    | some a =>
      rw [ea] at e
      cases e
      refine (hs a (List.mem_of_getElem? ea)).mono (fun o s' h => ?_) fun _ _ _ h => h
      obtain ⟨rfl, h2, h3⟩ := h
      refine ⟨h2, ?_, h3⟩
      rw [List.take_add_one, ea]
      cases hg : g a <;> simp [hg]
  · obtain ⟨rfl, rfl⟩ := h
    simpa using h1
theorem filt_map {A : Type} {B : Type} (p : A → Bool) (f : A → B) : ∀ l : List A, (l.filterMap fun x => if p x = true then some (f x) else none) = (l.filter p).map f
  | [] => rfl
  | a :: l => by
    by_cases h : p a = true
    · simp [h, filt_map p f l]
    · simp [h, filt_map p f l]
theorem zipD_map {A : Type} (f g : A → D) : ∀ l : List A, zipD (l.map f) (l.map g) = l.map fun a => .tup [f a, g a]
  | [] => rfl
  | a :: l => by simp [zipD, zipD_map f g l]
end
end Kb

set_option Elab.async false
set_option linter.all false
set_option maxRecDepth 100000
/-! KbEv3: defs. -/
namespace Kb
/-- run, not to be unfolded -/
@[irreducible] def Run (sb : Nat → Nat → Bool) (kss : List D) (P : List Fd) (g : Nat) : Nat → List D → Th → List Ob → Option Rf := run sb kss P g
theorem Run_eq {sb kss P g} : Run sb kss P g = run sb kss P g := by unfold Run; rfl
section
variable {sb : Nat → Nat → Bool} {kss : List D} {P : List Fd}
theorem fn_of_wpq {g f : Nat} {ds : List D} {hp : List Ob} {fd : Fd} {Q : Sl → List Ob → Prop} {E : Nat → List D → List Ob → Prop} (h : P[f]? = some fd) (hl : ds.length = fd.np)
    (w : Wq (execs ⟨Run sb kss P g, sb, none, kss, none⟩ fd.body) ⟨begin_ fd ds, hp⟩ (fun r s => match r with
      | .rt v => Q v s.hp
      | .nx => Q (.val .non) s.hp
      | _ => False) (fun c fs s => E c fs s.hp)) : Fq (Run sb kss P (g + 1) f ds none hp) Q E := by
  rw [Run_eq] at *
  unfold run
  rw [h]
  dsimp only
  rw [if_pos hl]
  unfold Wq at w
  unfold Fq done
  cases hx : execs ⟨run sb kss P g, sb, none, kss, none⟩ fd.body ⟨begin_ fd ds, hp⟩ with
  | none => rw [hx] at w; exact w.elim
  | some r =>
    rw [hx] at w
    cases r with
    | ok a s => cases a <;> first | exact w | exact w.elim
    | exn c fs s => exact w
theorem fnT_of_wpq {g f : Nat} {tf : List Ob → Option Rf} {ds : List D} {hp : List Ob} {fd : Fd} {Q : Sl → List Ob → Prop} {E : Nat → List D → List Ob → Prop} (h : P[f]? = some fd) (hl : fd.np = 1)
    (w : Wq (execs ⟨Run sb kss P g, sb, some tf, kss, none⟩ fd.body) ⟨beginT fd, hp⟩ (fun r s => match r with
      | .rt v => Q v s.hp
      | .nx => Q (.val .non) s.hp
      | _ => False) (fun c fs s => E c fs s.hp)) : Fq (Run sb kss P (g + 1) f ds (some tf) hp) Q E := by
  rw [Run_eq] at *
  unfold run
  rw [h]
  dsimp only
  rw [if_pos hl]
  unfold Wq at w
  unfold Fq done
  cases hx : execs ⟨run sb kss P g, sb, some tf, kss, none⟩ fd.body ⟨beginT fd, hp⟩ with
  | none => rw [hx] at w; exact w.elim
  | some r =>
    rw [hx] at w
    cases r with
    | ok a s => cases a <;> first | exact w | exact w.elim
    | exn c fs s => exact w
section
variable {g f n : Nat} {hp : List Ob} {b : Stms} {Q : Sl → List Ob → Prop} {E : Nat → List D → List Ob → Prop}
abbrev Bodyq (sb : Nat → Nat → Bool) (kss : List D) (P : List Fd) (g : Nat) (b : Stms) (l : List (Option Sl)) (hp : List Ob) (Q : Sl → List Ob → Prop) (E : Nat → List D → List Ob → Prop) : Prop :=
  Wq (execs ⟨Run sb kss P g, sb, none, kss, none⟩ b) ⟨l, hp⟩ (fun r s => match r with
      | .rt v => Q v s.hp
      | .nx => Q (.val .non) s.hp
      | _ => False) (fun c fs s => E c fs s.hp)
theorem fn0q (h : P[f]? = some ⟨0, n + 1, b⟩) (w : Bodyq sb kss P g b (none :: List.replicate n none) hp Q E) : Fq (Run sb kss P (g + 1) f [] none hp) Q E := fn_of_wpq h rfl w
theorem fn1q {a1 : D} (h : P[f]? = some ⟨1, n + 1, b⟩) (w : Bodyq sb kss P g b (some (.val a1) :: List.replicate n none) hp Q E) : Fq (Run sb kss P (g + 1) f [a1] none hp) Q E := fn_of_wpq h rfl w
theorem fn2q {a1 a2 : D} (h : P[f]? = some ⟨2, n + 2, b⟩) (w : Bodyq sb kss P g b (some (.val a1) :: some (.val a2) :: List.replicate n none) hp Q E) : Fq (Run sb kss P (g + 1) f [a1, a2] none hp) Q E := fn_of_wpq h rfl w
theorem fn3q {a1 a2 a3 : D} (h : P[f]? = some ⟨3, n + 3, b⟩) (w : Bodyq sb kss P g b (some (.val a1) :: some (.val a2) :: some (.val a3) :: List.replicate n none) hp Q E) : Fq (Run sb kss P (g + 1) f [a1, a2, a3] none hp) Q E := fn_of_wpq h rfl w
theorem fn4q {a1 a2 a3 a4 : D} (h : P[f]? = some ⟨4, n + 4, b⟩) (w : Bodyq sb kss P g b (some (.val a1) :: some (.val a2) :: some (.val a3) :: some (.val a4) :: List.replicate n none) hp Q E) : Fq (Run sb kss P (g + 1) f [a1, a2, a3, a4] none hp) Q E := fn_of_wpq h rfl w
end
/-- a call of a lambda -/
theorem wp_actq {c : Cfg} {tf : List Ob → Option Rf} {l : List (Option Sl)} {hp : List Ob} {QS : Sl → S → Prop} {E : Nat → List D → S → Prop} (h : c.th = some tf)
    (w : Fq (tf hp) (fun v hp' => QS v ⟨some .exc :: l, hp'⟩) (fun k fs hp' => E k fs ⟨List.replicate (l.length + 1) none, hp'⟩)) : Wq (ev c (.act 0)) ⟨some .exc :: l, hp⟩ QS E := by
  rw [ev, if_pos rfl]
  unfold Wq actM
  rw [h]
  dsimp only [List.getElem?_cons_zero]
  unfold Fq at w
  cases hx : tf hp with
  | none => rw [hx] at w; exact w.elim
  | some r =>
    rw [hx] at w
    cases r with
    | ret v hp' => exact w
    | exn k fs hp' => exact w
/-- handing a lambda to a def -/
theorem wp_wcallq {c : Cfg} {f : Nat} {th : Ex} {l : List (Option Sl)} {hp : List Ob} {QS : Sl → S → Prop} {E : Nat → List D → S → Prop}
    (w : ∀ tf : List Ob → Option Rf, (∀ hp Q E', Wq (vOf th (ev c th)) ⟨hidO l, hp⟩ (fun d s => Q (.val d) s.hp) (fun k fs s => E' k fs s.hp) → Fq (tf hp) Q E') →
      Fq (c.call f [] (some tf) hp) (fun v hp' => QS v ⟨l, hp'⟩) noE) : Wq (ev c (.wcall f th)) ⟨l, hp⟩ QS E := by
  rw [ev]
  unfold Wq wcallM
  dsimp only
  have z := w (thk (vOf th (ev c th)) (hidO l)) fun hp Q E' h => by
      unfold Wq at h
      unfold Fq thk
      cases hx : vOf th (ev c th) ⟨hidO l, hp⟩ with
      | none => rw [hx] at h; exact h.elim
      | some r =>
        rw [hx] at h
        cases r <;> exact h
  unfold Fq at z
  split at z
  · rename_i e; rw [e]; exact z
  · exact z.elim
  · exact z.elim
end
@[simp] theorem begin_1 {n : Nat} {b : Stms} {a : D} : begin_ ⟨1, n, b⟩ [a] = some (.val a) :: List.replicate (n - 1) none := rfl
@[simp] theorem begin_2 {n : Nat} {b : Stms} {a a2 : D} : begin_ ⟨2, n, b⟩ [a, a2] = some (.val a) :: some (.val a2) :: List.replicate (n - 2) none := rfl
@[simp] theorem begin_3 {n : Nat} {b : Stms} {a a2 a3 : D} : begin_ ⟨3, n, b⟩ [a, a2, a3] = some (.val a) :: some (.val a2) :: some (.val a3) :: List.replicate (n - 3) none := rfl
@[simp] theorem begin_4 {n : Nat} {b : Stms} {a a2 a3 a4 : D} : begin_ ⟨4, n, b⟩ [a, a2, a3, a4] = some (.val a) :: some (.val a2) :: some (.val a3) :: some (.val a4) :: List.replicate (n - 4) none := rfl
@[simp] theorem begin_T {n : Nat} {b : Stms} : beginT ⟨1, n, b⟩ = some .exc :: List.replicate (n - 1) none := rfl
end Kb

set_option Elab.async false
set_option linter.all false
set_option maxRecDepth 100000
/-! KbEv4: the rules of KbEv .. KbEv3 for defs that are not unfolded. -/
namespace Kb
@[irreducible] def Wp {α : Type} (m : M α) (s : S) (Q : α → S → Prop) (E : Nat → List D → S → Prop) : Prop := Wq m s Q E
@[irreducible] def Fn (r : Option Rf) (Q : Sl → List Ob → Prop) (E : Nat → List D → List Ob → Prop) : Prop := Fq r Q E
section
variable {α β : Type} {c : Cfg} {s : S} {Q : α → S → Prop} {E : Nat → List D → S → Prop} {x : Option Sl} {l : List (Option Sl)} {hp : List Ob} {QS : Sl → S → Prop} {QD : D → S → Prop} {QF : Fl → S → Prop} {QL : List D → S → Prop} {QSL : List Sl → S → Prop} {QU : Unit → S → Prop} {QB : Bool → S → Prop}
theorem Wp.mono {m : M α} {Q' : α → S → Prop} {E' : Nat → List D → S → Prop} (h : Wp m s Q E) (hQ : ∀ a s', Q a s' → Q' a s') (hE : ∀ c fs s', E c fs s' → E' c fs s') : Wp m s Q' E' := by with_unfolding_all exact Wq.mono h hQ hE
theorem Fn.mono {r : Option Rf} {Q Q' : Sl → List Ob → Prop} {E E' : Nat → List D → List Ob → Prop} (h : Fn r Q E) (hQ : ∀ a s', Q a s' → Q' a s') (hE : ∀ c fs s', E c fs s' → E' c fs s') : Fn r Q' E' := by with_unfolding_all exact Fq.mono h hQ hE
theorem Fn.eq {r : Option Rf} {v : Sl} {hp : List Ob} (h : Fn r (fun v' hp' => v' = v ∧ hp' = hp) noE) : r = some (.ret v hp) := by with_unfolding_all exact Fq.eq h
theorem Fn.eqx {r : Option Rf} {c : Nat} {hp : List Ob} (h : Fn r (fun _ _ => False) (fun c' fs hp' => c' = c ∧ fs = [] ∧ hp' = hp)) : r = some (.exn c [] hp) := by with_unfolding_all exact Fq.eqx h
theorem Wp.eq {m : M α} {a : α} {s s' : S} (h : Wp m s (fun a' s1 => a' = a ∧ s1 = s') (fun _ _ _ => False)) : m s = some (.ok a s') := by with_unfolding_all exact Wq.eq h
theorem Wp.of_eq {m : M α} {a : α} {s s' : S} (h : m s = some (.ok a s')) (q : Q a s') : Wp m s Q E := by with_unfolding_all exact Wq.of_eq h q
@[simp ↓] theorem Fn_none {Q : Sl → List Ob → Prop} {E : Nat → List D → List Ob → Prop} : Fn none Q E ↔ False := by with_unfolding_all exact Fn_noneq 
@[simp ↓] theorem Fn_ret {v : Sl} {Q : Sl → List Ob → Prop} {E : Nat → List D → List Ob → Prop} : Fn (some (.ret v hp)) Q E ↔ Q v hp := by with_unfolding_all exact Fn_retq 
@[simp ↓] theorem Fn_exn {k : Nat} {fs : List D} {Q : Sl → List Ob → Prop} {E : Nat → List D → List Ob → Prop} : Fn (some (.exn k fs hp)) Q E ↔ E k fs hp := by with_unfolding_all exact Fn_exnq 
@[simp ↓] theorem wp_bnd {y : M α} {f : α → M β} {Q : β → S → Prop} : Wp (bnd y f) s Q E ↔ Wp y s (fun a s' => Wp (f a) s' Q E) E := by with_unfolding_all exact wp_bndq 
@[simp ↓] theorem wp_pur (a : α) : Wp (pur a) s Q E ↔ Q a s := by with_unfolding_all exact wp_purq a
@[simp ↓] theorem wp_lft_some (a : α) : Wp (lft (some a)) s Q E ↔ Q a s := by with_unfolding_all exact wp_lft_someq a
@[simp ↓] theorem wp_lft_none : Wp (lft (none : Option α)) s Q E ↔ False := by with_unfolding_all exact wp_lft_noneq 
@[simp ↓] theorem wp_stk : Wp (stk : M α) s Q E ↔ False := by with_unfolding_all exact wp_stkq 
theorem wp_lft {o : Option α} : Wp (lft o) s Q E ↔ ∃ a, o = some a ∧ Q a s := by with_unfolding_all exact wp_lftq 
@[simp ↓] theorem wp_ite {p : Prop} [Decidable p] {a b : M α} : Wp (if p then a else b) s Q E ↔ (if p then Wp a s Q E else Wp b s Q E) := by with_unfolding_all exact wp_iteq 
@[simp ↓] theorem wp_getS {i : Nat} : Wp (getS i) ⟨x :: l, hp⟩ QS E ↔ (match (x :: l)[i]? with
  | some (some .exc) => False
  | some (some v) => QS v ⟨x :: l, hp⟩
  | _ => False) := by with_unfolding_all exact wp_getSq 
@[simp ↓] theorem wp_putS {i : Nat} {v : Sl} : Wp (putS i v) ⟨x :: l, hp⟩ QU E ↔ QU () ⟨(x :: l).set i (some v), hp⟩ := by with_unfolding_all exact wp_putSq 
@[simp ↓] theorem wp_frzS {i : Nat} : Wp (frzS i) ⟨x :: l, hp⟩ QD E ↔ (match (x :: l)[i]? with
  | some (some (.val d)) => QD d ⟨x :: l, hp⟩
  | some (some .exc) => False
  | some (some v) => QD v.d ⟨(x :: l).set i (some (.val v.d)), hp⟩
  | _ => False) := by with_unfolding_all exact wp_frzSq 
@[simp ↓] theorem wp_vOf {e : Ex} {m : M Sl} : Wp (vOf e m) ⟨x :: l, hp⟩ QD E ↔ (match e with
  | .var i => Wp (frzS i) ⟨x :: l, hp⟩ QD E
  | _ => Wp m ⟨x :: l, hp⟩ (fun v s => QD v.d s) E) := by with_unfolding_all exact wp_vOfq 
@[simp ↓] theorem wp_oOf {e : Ex} {m : M Sl} : Wp (oOf e m) ⟨x :: l, hp⟩ QS E ↔ (match e with
  | .var i => Wp (frzS i) ⟨x :: l, hp⟩ (fun d s => QS (.val d) s) E
  | _ => Wp m ⟨x :: l, hp⟩ QS E) := by with_unfolding_all exact wp_oOfq 
@[simp ↓] theorem wp_testM {m : M Sl} : Wp (testM m) ⟨x :: l, hp⟩ QB E ↔ Wp m ⟨x :: l, hp⟩ (fun v s => Wp (lft (tru v.d)) s QB E) E := by with_unfolding_all exact wp_testMq 
@[simp ↓] theorem wp_tgN {i : Nat} {d : D} : Wp (tgD (.name i) d) ⟨x :: l, hp⟩ QU E ↔ QU () ⟨(x :: l).set i (some (.val d)), hp⟩ := by with_unfolding_all exact wp_tgNq 
@[simp ↓] theorem wp_tgT {is : List Nat} {ds : List D} : Wp (tgD (.tup is) (.tup ds)) ⟨x :: l, hp⟩ QU E ↔ Wp (putTs is ds) ⟨x :: l, hp⟩ QU E := by with_unfolding_all exact wp_tgTq 
@[simp ↓] theorem wp_putT0 : Wp (putTs [] []) s QU E ↔ QU () s := by with_unfolding_all exact wp_putT0q 
@[simp ↓] theorem wp_putT1 {i : Nat} {is : List Nat} {d : D} {ds : List D} : Wp (putTs (i :: is) (d :: ds)) ⟨x :: l, hp⟩ QU E ↔ Wp (putTs is ds) ⟨(x :: l).set i (some (.val d)), hp⟩ QU E := by with_unfolding_all exact wp_putT1q 
@[simp ↓] theorem wp_putO0 : Wp (putOs [] []) s QU E ↔ QU () s := by with_unfolding_all exact wp_putO0q 
@[simp ↓] theorem wp_putO1 {i : Nat} {is : List Nat} {d : Sl} {ds : List Sl} : Wp (putOs (i :: is) (d :: ds)) ⟨x :: l, hp⟩ QU E ↔ Wp (putOs is ds) ⟨(x :: l).set i (some d), hp⟩ QU E := by with_unfolding_all exact wp_putO1q 
@[simp ↓] theorem wp_const {d : D} : Wp (ev c (.const d)) ⟨x :: l, hp⟩ QS E ↔ QS (.val d) ⟨x :: l, hp⟩ := by with_unfolding_all exact wp_constq 
@[simp ↓] theorem wp_var {i : Nat} : Wp (ev c (.var i)) ⟨x :: l, hp⟩ QS E ↔ Wp (getS i) ⟨x :: l, hp⟩ QS E := by with_unfolding_all exact wp_varq 
@[simp ↓] theorem wp_glob {i : Nat} : Wp (ev c (.glob i)) ⟨x :: l, hp⟩ QS E ↔ Wp (lft (c.ks[i]?)) ⟨x :: l, hp⟩ (fun d s => QS (.val d) s) E := by with_unfolding_all exact wp_globq 
@[simp ↓] theorem wp_tup {es : Exs} : Wp (ev c (.tup es)) ⟨x :: l, hp⟩ QS E ↔ Wp (evs c es) ⟨x :: l, hp⟩ (fun ds s => QS (.val (.tup ds)) s) E := by with_unfolding_all exact wp_tupq 
@[simp ↓] theorem wp_lst {es : Exs} : Wp (ev c (.lst es)) ⟨x :: l, hp⟩ QS E ↔ Wp (evs c es) ⟨x :: l, hp⟩ (fun ds s => QS (.own ds) s) E := by with_unfolding_all exact wp_lstq 
@[simp ↓] theorem wp_lstH {es : Exs} : Wp (ev c (.lstH es)) ⟨x :: l, hp⟩ QS E ↔ Wp (evs c es) ⟨x :: l, hp⟩ (fun ds s => QS (.val (.ref s.hp.length)) { s with hp := s.hp ++ [.lst ds] }) E := by with_unfolding_all exact wp_lstHq 
@[simp ↓] theorem wp_dic0 {t : Bool} : Wp (ev c (.dic t .nil .nil)) ⟨x :: l, hp⟩ QS E ↔ QS (.ownd t [] []) ⟨x :: l, hp⟩ := by with_unfolding_all exact wp_dic0q 
@[simp ↓] theorem wp_bin {op : Bo} {a b : Ex} : Wp (ev c (.bin op a b)) ⟨x :: l, hp⟩ QS E ↔ Wp (ev c a) ⟨x :: l, hp⟩ (fun u s => Wp (ev c b) s (fun v s => Wp (lft (binD op u.d v.d)) s QS E) E) E := by with_unfolding_all exact wp_binq 
@[simp ↓] theorem wp_neg {a : Ex} : Wp (ev c (.neg a)) ⟨x :: l, hp⟩ QS E ↔ Wp (ev c a) ⟨x :: l, hp⟩ (fun u s => match u with
    | .val (.int i) => QS (.val (.int (-i))) s
    | _ => False) E := by with_unfolding_all exact wp_negq 
@[simp ↓] theorem wp_not {a : Ex} : Wp (ev c (.not a)) ⟨x :: l, hp⟩ QS E ↔ Wp (ev c a) ⟨x :: l, hp⟩ (fun u s => Wp (lft (tru u.d)) s (fun b s => QS (.val (.bl (!b))) s) E) E := by with_unfolding_all exact wp_notq 
@[simp ↓] theorem wp_and {a b : Ex} : Wp (ev c (.and a b)) ⟨x :: l, hp⟩ QS E ↔ Wp (ev c a) ⟨x :: l, hp⟩ (fun u s => match u with
    | .val (.bl k) => if k = true then Wp (ev c b) s (fun v s => match v with
      | .val (.bl k) => QS (.val (.bl k)) s
      | _ => False) E else QS (.val (.bl false)) s
    | _ => False) E := by with_unfolding_all exact wp_andq 
@[simp ↓] theorem wp_or {a b : Ex} : Wp (ev c (.or a b)) ⟨x :: l, hp⟩ QS E ↔ Wp (ev c a) ⟨x :: l, hp⟩ (fun u s => match u with
    | .val (.bl k) => if k = true then QS (.val (.bl true)) s else Wp (ev c b) s (fun v s => match v with
      | .val (.bl k) => QS (.val (.bl k)) s
      | _ => False) E
    | _ => False) E := by with_unfolding_all exact wp_orq 
@[simp ↓] theorem wp_cmp {op : Co} {a b : Ex} : Wp (ev c (.cmp op a b)) ⟨x :: l, hp⟩ QS E ↔ Wp (ev c a) ⟨x :: l, hp⟩ (fun u s => Wp (ev c b) s (fun v s => Wp (lft (cmpD op u.d v.d)) s (fun k s => QS (.val (.bl k)) s) E) E) E := by with_unfolding_all exact wp_cmpq 
@[simp ↓] theorem wp_chain {o1 o2 : Co} {a b e : Ex} : Wp (ev c (.chain o1 o2 a b e)) ⟨x :: l, hp⟩ QS E ↔ Wp (ev c a) ⟨x :: l, hp⟩ (fun u s => Wp (ev c b) s (fun v s => Wp (lft (cmpD o1 u.d v.d)) s (fun k s => if k = true then Wp (ev c e) s (fun w s => Wp (lft (cmpD o2 v.d w.d)) s (fun k s => QS (.val (.bl k)) s) E) E else QS (.val (.bl false)) s) E) E) E := by with_unfolding_all exact wp_chainq 
@[simp ↓] theorem wp_iteE {t a b : Ex} : Wp (ev c (.ite t a b)) ⟨x :: l, hp⟩ QS E ↔ Wp (ev c t) ⟨x :: l, hp⟩ (fun u s => Wp (lft (tru u.d)) s (fun k s => if k = true then Wp (oOf a (ev c a)) s QS E else Wp (oOf b (ev c b)) s QS E) E) E := by with_unfolding_all exact wp_iteEq 
@[simp ↓] theorem wp_idx {a i : Ex} : Wp (ev c (.idx a i)) ⟨x :: l, hp⟩ QS E ↔ Wp (ev c a) ⟨x :: l, hp⟩ (fun u s => Wp (vOf i (ev c i)) s (fun d s => Wp (idxM u d) s QS E) E) E := by with_unfolding_all exact wp_idxq 
@[simp ↓] theorem wp_sl {a : Ex} {lo hi : Exo} : Wp (ev c (.sl a lo hi)) ⟨x :: l, hp⟩ QS E ↔ Wp (ev c a) ⟨x :: l, hp⟩ (fun u s => Wp (evo c lo) s (fun p s => Wp (evo c hi) s (fun q s => Wp (lft (slD u.d p q)) s QS E) E) E) E := by with_unfolding_all exact wp_slq 
@[simp ↓] theorem wp_rev {a : Ex} : Wp (ev c (.rev a)) ⟨x :: l, hp⟩ QS E ↔ Wp (ev c a) ⟨x :: l, hp⟩ (fun u s => Wp (lft (revD u.d)) s QS E) E := by with_unfolding_all exact wp_revq 
@[simp ↓] theorem wp_call {f : Nat} {es : Exs} : Wp (ev c (.call f es)) ⟨x :: l, hp⟩ QS E ↔ Wp (evs c es) ⟨x :: l, hp⟩ (fun ds s => Fn (c.call f ds none s.hp) (fun v hp' => QS v { s with hp := hp' }) (fun k fs hp' => E k fs { s with hp := hp' })) E := by with_unfolding_all exact wp_callq 
@[simp ↓] theorem wp_blt {b : Bl} {es : Exs} : Wp (ev c (.blt b es)) ⟨x :: l, hp⟩ QS E ↔ Wp (evb c es) ⟨x :: l, hp⟩ (fun ds s => Wp (lft (bltD b (ds.map Sl.d))) s QS E) E := by with_unfolding_all exact wp_bltq 
@[simp ↓] theorem wp_mth {m : Mt} {o : Ex} {es : Exs} : Wp (ev c (.mth m o es)) ⟨x :: l, hp⟩ QS E ↔ Wp (ev c o) ⟨x :: l, hp⟩ (fun u s => if recv m u.d = true then Wp (evb c es) s (fun ys s => Wp (lft (mthD m u.d (ys.map Sl.d))) s QS E) E else False) E := by with_unfolding_all exact wp_mthq 
@[simp ↓] theorem wp_isi {a : Ex} {t : Ty} : Wp (ev c (.isi a t)) ⟨x :: l, hp⟩ QS E ↔ Wp (ev c a) ⟨x :: l, hp⟩ (fun u s => Wp (lft (hasTy t u.d)) s (fun k s => QS (.val (.bl k)) s) E) E := by with_unfolding_all exact wp_isiq 
@[simp ↓] theorem wp_isx {i k : Nat} : Wp (ev c (.isx i k)) ⟨x :: l, hp⟩ QS E ↔ (match (x :: l)[i]?, c.exc with
    | some (some .exc), some (q, _) => QS (.val (.bl (c.sub q k))) ⟨x :: l, hp⟩
    | _, _ => False) := by with_unfolding_all exact wp_isxq 
@[simp ↓] theorem wp_comp {elt : Ex} {tg : Tg} {it : It} {cond : Exo} {own : List Nat} : Wp (ev c (.comp elt tg it cond own)) ⟨x :: l, hp⟩ QS E ↔ Wp (evi c it) ⟨x :: l, hp⟩ (fun items s => Wp (blk own items fun d =>
      bnd (tgD tg d) fun _ => bnd (evc c cond) fun k => if k then bnd (vOf elt (ev c elt)) fun y => pur (some y) else pur none) s QS E) E := by with_unfolding_all exact wp_compq 
@[simp ↓] theorem wp_evs0 : Wp (evs c .nil) s QL E ↔ QL [] s := by with_unfolding_all exact wp_evs0q 
@[simp ↓] theorem wp_evs1 {e : Ex} {es : Exs} : Wp (evs c (.cons e es)) ⟨x :: l, hp⟩ QL E ↔ Wp (vOf e (ev c e)) ⟨x :: l, hp⟩ (fun d s => Wp (evs c es) s (fun ds s => QL (d :: ds) s) E) E := by with_unfolding_all exact wp_evs1q 
@[simp ↓] theorem wp_evb0 : Wp (evb c .nil) s QSL E ↔ QSL [] s := by with_unfolding_all exact wp_evb0q 
@[simp ↓] theorem wp_evb1 {e : Ex} {es : Exs} : Wp (evb c (.cons e es)) ⟨x :: l, hp⟩ QSL E ↔ Wp (ev c e) ⟨x :: l, hp⟩ (fun d s => Wp (evb c es) s (fun ds s => QSL (d :: ds) s) E) E := by with_unfolding_all exact wp_evb1q 
@[simp ↓] theorem wp_evos0 : Wp (evos c .nil) s QSL E ↔ QSL [] s := by with_unfolding_all exact wp_evos0q 
@[simp ↓] theorem wp_evos1 {e : Ex} {es : Exs} : Wp (evos c (.cons e es)) ⟨x :: l, hp⟩ QSL E ↔ Wp (oOf e (ev c e)) ⟨x :: l, hp⟩ (fun d s => Wp (evos c es) s (fun ds s => QSL (d :: ds) s) E) E := by with_unfolding_all exact wp_evos1q 
@[simp ↓] theorem wp_evo0 {QO : Option Int → S → Prop} : Wp (evo c .none) s QO E ↔ QO none s := by with_unfolding_all exact wp_evo0q 
@[simp ↓] theorem wp_evo1 {e : Ex} {QO : Option Int → S → Prop} : Wp (evo c (.some e)) ⟨x :: l, hp⟩ QO E ↔ Wp (ev c e) ⟨x :: l, hp⟩ (fun d s => match d with
    | .val (.int i) => QO (some i) s
    | _ => False) E := by with_unfolding_all exact wp_evo1q 
@[simp ↓] theorem wp_evc0 : Wp (evc c .none) s QB E ↔ QB true s := by with_unfolding_all exact wp_evc0q 
@[simp ↓] theorem wp_evc1 {e : Ex} : Wp (evc c (.some e)) ⟨x :: l, hp⟩ QB E ↔ Wp (ev c e) ⟨x :: l, hp⟩ (fun v s => Wp (lft (tru v.d)) s QB E) E := by with_unfolding_all exact wp_evc1q 
@[simp ↓] theorem wp_evi_ex {e : Ex} : Wp (evi c (.ex e)) ⟨x :: l, hp⟩ QL E ↔ Wp (vOf e (ev c e)) ⟨x :: l, hp⟩ (fun d s => Wp (lft (itemsX d)) s QL E) E := by with_unfolding_all exact wp_evi_exq 
@[simp ↓] theorem wp_evi_range {es : Exs} : Wp (evi c (.range es)) ⟨x :: l, hp⟩ QL E ↔ Wp (evs c es) ⟨x :: l, hp⟩ (fun ds s => match ds with
    | [.int n] => inRg n ∧ QL (rangeD n.toNat 0) s
    | [.int a, .int b] => (inRg a ∧ inRg b) ∧ QL (rangeD (b - a).toNat a) s
    | _ => False) E := by with_unfolding_all exact wp_evi_rangeq 
@[simp ↓] theorem wp_evi_enum {e : Ex} : Wp (evi c (.enum e)) ⟨x :: l, hp⟩ QL E ↔ Wp (vOf e (ev c e)) ⟨x :: l, hp⟩ (fun d s => Wp (lft ((itemsD d).map fun xs => enumD xs 0)) s QL E) E := by with_unfolding_all exact wp_evi_enumq 
@[simp ↓] theorem wp_evi_zip {es : Exs} : Wp (evi c (.zip es)) ⟨x :: l, hp⟩ QL E ↔ Wp (evs c es) ⟨x :: l, hp⟩ (fun ds s => Wp (lft (zipI ds)) s QL E) E := by with_unfolding_all exact wp_evi_zipq 
@[simp ↓] theorem wp_lrange {t : Bool} {es : Exs} : Wp (ev c (.lrange t es)) ⟨x :: l, hp⟩ QS E ↔ Wp (evs c es) ⟨x :: l, hp⟩ (fun ds s => Wp (lft (rangeL t ds)) s QS E) E := by with_unfolding_all exact wp_lrangeq 
@[simp ↓] theorem wp_execs0 : Wp (execs c .nil) s QF E ↔ QF .nx s := by with_unfolding_all exact wp_execs0q 
@[simp ↓] theorem wp_execs1 {st : Stm} {ss : Stms} : Wp (execs c (.cons st ss)) ⟨x :: l, hp⟩ QF E ↔ Wp (exec c st) ⟨x :: l, hp⟩ (fun r s => match r with
    | .nx => Wp (execs c ss) s QF E
    | r => QF r s) E := by with_unfolding_all exact wp_execs1q 
@[simp ↓] theorem wp_set {i : Nat} {e : Ex} : Wp (exec c (.set i e)) ⟨x :: l, hp⟩ QF E ↔ Wp (oOf e (ev c e)) ⟨x :: l, hp⟩ (fun v s => QF .nx { s with sl := s.sl.set i (some v) }) E := by with_unfolding_all exact wp_setq 
@[simp ↓] theorem wp_unp {is : List Nat} {e : Ex} : Wp (exec c (.unp is e)) ⟨x :: l, hp⟩ QF E ↔ Wp (vOf e (ev c e)) ⟨x :: l, hp⟩ (fun d s => Wp (tgD (.tup is) d) s (fun _ s => QF .nx s) E) E := by with_unfolding_all exact wp_unpq 
@[simp ↓] theorem wp_par {is : List Nat} {es : Exs} : Wp (exec c (.par is es)) ⟨x :: l, hp⟩ QF E ↔ Wp (evos c es) ⟨x :: l, hp⟩ (fun vs s => Wp (putOs is vs) s (fun _ s => QF .nx s) E) E := by with_unfolding_all exact wp_parq 
@[simp ↓] theorem wp_setIx {v : Nat} {i e : Ex} : Wp (exec c (.setIx v i e)) ⟨x :: l, hp⟩ QF E ↔ Wp (vOf e (ev c e)) ⟨x :: l, hp⟩ (fun d s => Wp (getS v) s (fun _ s => Wp (vOf i (ev c i)) s (fun y s => Wp (setIxM v y d) s (fun _ s => QF .nx s) E) E) E) E := by with_unfolding_all exact wp_setIxq 
@[simp ↓] theorem wp_expr {e : Ex} : Wp (exec c (.expr e)) ⟨x :: l, hp⟩ QF E ↔ Wp (ev c e) ⟨x :: l, hp⟩ (fun _ s => QF .nx s) E := by with_unfolding_all exact wp_exprq 
@[simp ↓] theorem wp_mut {m : Mt} {v : Nat} {es : Exs} : Wp (exec c (.mut m v es none)) ⟨x :: l, hp⟩ QF E ↔ Wp (ownL v) ⟨x :: l, hp⟩ (fun _ s => Wp (evs c es) s (fun ds s => Wp (mutS m v ds) s (fun _ s => QF .nx s) E) E) E := by with_unfolding_all exact wp_mutq 
@[simp ↓] theorem wp_mutT {m : Mt} {v : Nat} {es : Exs} {t : Tg} : Wp (exec c (.mut m v es (some t))) ⟨x :: l, hp⟩ QF E ↔ Wp (ownL v) ⟨x :: l, hp⟩ (fun _ s => Wp (evs c es) s (fun ds s => Wp (mutS m v ds) s (fun r s => Wp (tgD t r.d) s (fun _ s => QF .nx s) E) E) E) E := by with_unfolding_all exact wp_mutTq 
@[simp ↓] theorem wp_ret0 : Wp (exec c (.ret .none)) s QF E ↔ QF (.rt (.val .non)) s := by with_unfolding_all exact wp_ret0q 
@[simp ↓] theorem wp_ret1 {e : Ex} : Wp (exec c (.ret (.some e))) ⟨x :: l, hp⟩ QF E ↔ Wp (ev c e) ⟨x :: l, hp⟩ (fun v s => QF (.rt v) s) E := by with_unfolding_all exact wp_ret1q 
@[simp ↓] theorem wp_ifs {t : Ex} {a b : Stms} : Wp (exec c (.ifs t a b)) ⟨x :: l, hp⟩ QF E ↔ Wp (ev c t) ⟨x :: l, hp⟩ (fun u s => Wp (lft (tru u.d)) s (fun k s => if k = true then Wp (execs c a) s QF E else Wp (execs c b) s QF E) E) E := by with_unfolding_all exact wp_ifsq 
@[simp ↓] theorem wp_for_ {tg : Tg} {it : It} {body : Stms} : Wp (exec c (.for_ tg it body)) ⟨x :: l, hp⟩ QF E ↔ Wp (evi c it) ⟨x :: l, hp⟩ (fun items s => Wp (forL (fun d => bnd (tgD tg d) fun _ => execs c body) items) s QF E) E := by with_unfolding_all exact wp_for_q 
@[simp ↓] theorem wp_while_ {t : Ex} {body : Stms} : Wp (exec c (.while_ t body)) ⟨x :: l, hp⟩ QF E ↔ Wp (whileL (testM (ev c t)) (execs c body) many) ⟨x :: l, hp⟩ QF E := by with_unfolding_all exact wp_while_q 
@[simp ↓] theorem wp_raise {q : Nat} {es : Exs} : Wp (exec c (.raise q es)) ⟨x :: l, hp⟩ QF E ↔ Wp (evs c es) ⟨x :: l, hp⟩ (fun ds s => E q ds s) E := by with_unfolding_all exact wp_raiseq 
@[simp ↓] theorem wp_pass : Wp (exec c .pass) s QF E ↔ QF .nx s := by with_unfolding_all exact wp_passq 
@[simp ↓] theorem wp_brk : Wp (exec c .brk) s QF E ↔ QF .bk s := by with_unfolding_all exact wp_brkq 
@[simp ↓] theorem wp_cnt : Wp (exec c .cnt) s QF E ↔ QF .ct s := by with_unfolding_all exact wp_cntq 
@[simp ↓] theorem wp_try {body suite : Stms} {q : Nat} {i : Option Nat} : Wp (exec c (.try_ body q i suite)) ⟨x :: l, hp⟩ QF E ↔ Wp (execs c body) ⟨x :: l, hp⟩ QF (fun k fs s1 => if c.sub k q = true then (fs = [] ∧ Wp (execs { c with exc := some (k, fs) } suite) (enter1 i s1) (fun r s2 => QF r (drop1 i s2)) (fun _ _ _ => False)) else E k fs s1) := by with_unfolding_all exact wp_tryq 
end
section
variable {α β : Type} {c : Cfg} {s : S} {Q : α → S → Prop} {E : Nat → List D → S → Prop} {x : Option Sl} {l : List (Option Sl)} {hp : List Ob} {QS : Sl → S → Prop} {QD : D → S → Prop} {QF : Fl → S → Prop} {QL : List D → S → Prop} {QSL : List Sl → S → Prop} {QU : Unit → S → Prop} {QB : Bool → S → Prop}
theorem wp_lft_if {p : Prop} [Decidable p] {o : Option α} : Wp (lft (if p then o else none)) s Q E ↔ p ∧ Wp (lft o) s Q E := by with_unfolding_all exact wp_lft_ifq 
@[simp ↓] theorem wp_addI {i j : Int} : Wp (lft (binD .add (.int i) (.int j))) s QS E ↔ QS (.val (.int (i + j))) s := by with_unfolding_all exact wp_addIq 
@[simp ↓] theorem wp_subI {i j : Int} : Wp (lft (binD .sub (.int i) (.int j))) s QS E ↔ QS (.val (.int (i - j))) s := by with_unfolding_all exact wp_subIq 
@[simp ↓] theorem wp_mulI {i j : Int} : Wp (lft (binD .mul (.int i) (.int j))) s QS E ↔ (isInt64 i = true ∨ isInt64 j = true) ∧ QS (.val (.int (i * j))) s := by with_unfolding_all exact wp_mulIq 
@[simp ↓] theorem wp_fdivI {i j : Int} : Wp (lft (binD .fdiv (.int i) (.int j))) s QS E ↔ (j ≠ 0 ∧ j.natAbs < 1073741824) ∧ QS (.val (.int (i.fdiv j))) s := by with_unfolding_all exact wp_fdivIq 
@[simp ↓] theorem wp_modI {i j : Int} : Wp (lft (binD .mod (.int i) (.int j))) s QS E ↔ j ≠ 0 ∧ QS (.val (.int (i.fmod j))) s := by with_unfolding_all exact wp_modIq 
@[simp ↓] theorem wp_powI {i j : Int} : Wp (lft (binD .pow (.int i) (.int j))) s QS E ↔ (0 ≤ j ∧ j ≤ 1000000 ∧ i.natAbs < 18446744073709551616) ∧ QS (.val (.int (i ^ j.toNat))) s := by with_unfolding_all exact wp_powIq 
@[simp ↓] theorem wp_addS {i j : List Nat} : Wp (lft (binD .add (.str i) (.str j))) s QS E ↔ i.length + j.length ≤ 16777216 ∧ QS (.val (.str (i ++ j))) s := by with_unfolding_all exact wp_addSq 
@[simp ↓] theorem wp_addT {i j : List D} : Wp (lft (binD .add (.tup i) (.tup j))) s QS E ↔ i.length + j.length ≤ 16777216 ∧ QS (.val (.tup (i ++ j))) s := by with_unfolding_all exact wp_addTq 
@[simp ↓] theorem wp_addL {i j : List D} : Wp (lft (binD .add (.lst i) (.lst j))) s QS E ↔ i.length + j.length ≤ 16777216 ∧ QS (.own (i ++ j)) s := by with_unfolding_all exact wp_addLq 
@[simp ↓] theorem wp_mulS {i : List Nat} {k : Int} : Wp (lft (binD .mul (.str i) (.int k))) s QS E ↔ (-9223372036854775808 ≤ k ∧ k ≤ 16777216 ∧ i.length * k.toNat ≤ 16777216) ∧ QS (.val (.str (List.replicate k.toNat i).flatten)) s := by with_unfolding_all exact wp_mulSq 
@[simp ↓] theorem wp_mulL {i : List D} {k : Int} : Wp (lft (binD .mul (.lst i) (.int k))) s QS E ↔ (k ≤ 16777216 ∧ -9223372036854775808 ≤ k ∧ i.length * k.toNat ≤ 16777216) ∧ QS (.own (List.replicate k.toNat i).flatten) s := by with_unfolding_all exact wp_mulLq 
@[simp ↓] theorem wp_mulT {i : List D} {k : Int} : Wp (lft (binD .mul (.tup i) (.int k))) s QS E ↔ (2 ≤ k ∧ k ≤ 1000 ∧ i.length ≤ 1000 ∧ i ≠ []) ∧ QS (.val (.tup (List.replicate k.toNat i).flatten)) s := by with_unfolding_all exact wp_mulTq 
@[simp ↓] theorem wp_cmpEq {a b : D} : Wp (lft (cmpD .eq a b)) s QB E ↔ (pl 60 a = true ∧ pl 60 b = true) ∧ QB (eqD a b) s := by with_unfolding_all exact wp_cmpEqq 
@[simp ↓] theorem wp_cmpNe {a b : D} : Wp (lft (cmpD .ne a b)) s QB E ↔ (pl 60 a = true ∧ pl 60 b = true) ∧ QB (!eqD a b) s := by with_unfolding_all exact wp_cmpNeq 
@[simp ↓] theorem wp_cmpLt {a b : Int} : Wp (lft (cmpD .lt (.int a) (.int b))) s QB E ↔ QB (decide (a < b)) s := by with_unfolding_all exact wp_cmpLtq 
@[simp ↓] theorem wp_cmpLe {a b : Int} : Wp (lft (cmpD .le (.int a) (.int b))) s QB E ↔ QB (decide (a ≤ b)) s := by with_unfolding_all exact wp_cmpLeq 
@[simp ↓] theorem wp_cmpGt {a b : Int} : Wp (lft (cmpD .gt (.int a) (.int b))) s QB E ↔ QB (decide (b < a)) s := by with_unfolding_all exact wp_cmpGtq 
@[simp ↓] theorem wp_cmpGe {a b : Int} : Wp (lft (cmpD .ge (.int a) (.int b))) s QB E ↔ QB (decide (b ≤ a)) s := by with_unfolding_all exact wp_cmpGeq 
@[simp ↓] theorem wp_inS {a : Nat} {b : List Nat} : Wp (lft (cmpD .isin (.str [a]) (.str b))) s QB E ↔ QB (decide (a ∈ b)) s := by with_unfolding_all exact wp_inSq 
@[simp ↓] theorem wp_inL {a : D} {b : List D} : Wp (lft (cmpD .isin a (.lst b))) s QB E ↔ (pl 60 a = true ∧ b.all (pl 60) = true) ∧ QB (inL a b) s := by with_unfolding_all exact wp_inLq 
@[simp ↓] theorem wp_inT {a : D} {b : List D} : Wp (lft (cmpD .isin a (.tup b))) s QB E ↔ (pl 60 a = true ∧ b.all (pl 60) = true) ∧ QB (inL a b) s := by with_unfolding_all exact wp_inTq 
@[simp ↓] theorem wp_inK {a : List Nat} {k : List (List Nat)} {v : List D} : Wp (lft (cmpD .isin (.str a) (.kdic k v))) s QB E ↔ QB (hasT a k) s := by with_unfolding_all exact wp_inKq 
@[simp ↓] theorem wp_inDS {a : List Nat} {k : List Ky} {v : List D} : Wp (lft (cmpD .isin (.str a) (.dic k v))) s QB E ↔ QB (has (.a (.s a)) k) s := by with_unfolding_all exact wp_inDSq 
@[simp ↓] theorem wp_ninS {a : Nat} {b : List Nat} : Wp (lft (cmpD .notin (.str [a]) (.str b))) s QB E ↔ QB (!decide (a ∈ b)) s := by with_unfolding_all exact wp_ninSq 
@[simp ↓] theorem wp_ninL {a : D} {b : List D} : Wp (lft (cmpD .notin a (.lst b))) s QB E ↔ (pl 60 a = true ∧ b.all (pl 60) = true) ∧ QB (!inL a b) s := by with_unfolding_all exact wp_ninLq 
@[simp ↓] theorem wp_ninT {a : D} {b : List D} : Wp (lft (cmpD .notin a (.tup b))) s QB E ↔ (pl 60 a = true ∧ b.all (pl 60) = true) ∧ QB (!inL a b) s := by with_unfolding_all exact wp_ninTq 
@[simp ↓] theorem wp_ninK {a : List Nat} {k : List (List Nat)} {v : List D} : Wp (lft (cmpD .notin (.str a) (.kdic k v))) s QB E ↔ QB (!hasT a k) s := by with_unfolding_all exact wp_ninKq 
@[simp ↓] theorem wp_ninDS {a : List Nat} {k : List Ky} {v : List D} : Wp (lft (cmpD .notin (.str a) (.dic k v))) s QB E ↔ QB (!has (.a (.s a)) k) s := by with_unfolding_all exact wp_ninDSq 
@[simp ↓] theorem wp_isN {a : D} : Wp (lft (cmpD .is_ a .non)) s QB E ↔ QB (match a with
  | .non => true
  | _ => false) s := by with_unfolding_all exact wp_isNq 
@[simp ↓] theorem wp_isnN {a : D} : Wp (lft (cmpD .isnot a .non)) s QB E ↔ QB (match a with
  | .non => false
  | _ => true) s := by with_unfolding_all exact wp_isnNq 
@[simp ↓] theorem wp_isB {a b : Bool} : Wp (lft (cmpD .is_ (.bl a) (.bl b))) s QB E ↔ QB (a == b) s := by with_unfolding_all exact wp_isBq 
@[simp ↓] theorem wp_isnB {a b : Bool} : Wp (lft (cmpD .isnot (.bl a) (.bl b))) s QB E ↔ QB (!(a == b)) s := by with_unfolding_all exact wp_isnBq 
@[simp ↓] theorem wp_truB {b : Bool} : Wp (lft (tru (.bl b))) s QB E ↔ QB b s := by with_unfolding_all exact wp_truBq 
@[simp ↓] theorem wp_truL {b : List D} : Wp (lft (tru (.lst b))) s QB E ↔ QB (!b.isEmpty) s := by with_unfolding_all exact wp_truLq 
@[simp ↓] theorem wp_truT {b : List D} : Wp (lft (tru (.tup b))) s QB E ↔ QB (!b.isEmpty) s := by with_unfolding_all exact wp_truTq 
@[simp ↓] theorem wp_ixS {xs : List Nat} {k : Int} : Wp (idxM (.val (.str xs)) (.int k)) s QS E ↔ xs.length ≤ 16777216 ∧ (match nth xs k with
  | some q => QS (.val (.str [q])) s
  | none => False) := by with_unfolding_all exact wp_ixSq 
theorem idx_map {o : Option D} : Wp (lft (o.map Sl.val)) s QS E ↔ (match o with
  | some q => QS (.val q) s
  | none => False) := by with_unfolding_all exact idx_mapq 
@[simp ↓] theorem wp_ixL {xs : List D} {k : Int} : Wp (idxM (.val (.lst xs)) (.int k)) s QS E ↔ (match nth xs k with
  | some q => QS (.val q) s
  | none => False) := by with_unfolding_all exact wp_ixLq 
@[simp ↓] theorem wp_ixT {xs : List D} {k : Int} : Wp (idxM (.val (.tup xs)) (.int k)) s QS E ↔ (match nth xs k with
  | some q => QS (.val q) s
  | none => False) := by with_unfolding_all exact wp_ixTq 
@[simp ↓] theorem wp_ixO {xs : List D} {k : Int} : Wp (idxM (.own xs) (.int k)) s QS E ↔ (match nth xs k with
  | some q => QS (.val q) s
  | none => False) := by with_unfolding_all exact wp_ixOq 
@[simp ↓] theorem wp_ixK {ks : List (List Nat)} {vs : List D} {k : List Nat} : Wp (idxM (.val (.kdic ks vs)) (.str k)) s QS E ↔ (match lookT k ks vs with
  | some q => QS (.val q) s
  | none => False) := by with_unfolding_all exact wp_ixKq 
@[simp ↓] theorem wp_ixD {ks : List Ky} {vs : List D} {k : List Nat} : Wp (idxM (.val (.dic ks vs)) (.str k)) s QS E ↔ (match look (.a (.s k)) ks vs with
  | some q => QS (.val q) s
  | none => False) := by with_unfolding_all exact wp_ixDq 
@[simp ↓] theorem wp_ixOD {t : Bool} {ks : List Ky} {vs : List D} {k : List Nat} : Wp (idxM (.ownd t ks vs) (.str k)) s QS E ↔ (match look (.a (.s k)) ks vs with
  | some q => QS (.val q) s
  | none => False) := by with_unfolding_all exact wp_ixODq 
@[simp ↓] theorem wp_ixR {k : Nat} {j : Int} {o : List (Option Sl)} : Wp (idxM (.val (.ref k)) (.int j)) ⟨o, hp⟩ QS E ↔ (match hp[k]? with
  | some (.lst xs) => (match nth xs j with
    | some q => QS (.val q) ⟨o, hp⟩
    | none => False)
  | none => False) := by with_unfolding_all exact wp_ixRq 
@[simp ↓] theorem wp_slL {xs : List D} {a b : Option Int} : Wp (lft (slD (.lst xs) a b)) s QS E ↔ QS (.own (cut xs a b)) s := by with_unfolding_all exact wp_slLq 
@[simp ↓] theorem wp_slT {xs : List D} {a b : Option Int} : Wp (lft (slD (.tup xs) a b)) s QS E ↔ QS (.val (.tup (cut xs a b))) s := by with_unfolding_all exact wp_slTq 
@[simp ↓] theorem wp_slS {xs : List Nat} {a b : Option Int} : Wp (lft (slD (.str xs) a b)) s QS E ↔ xs.length ≤ 16777216 ∧ QS (.val (.str (cut xs a b))) s := by with_unfolding_all exact wp_slSq 
@[simp ↓] theorem wp_slR {ns : List Int} {a b : Option Int} : Wp (lft (slD (.scr ns) a b)) s QS E ↔ QS (.own ((cut ns a b).map .int)) s := by with_unfolding_all exact wp_slRq 
@[simp ↓] theorem wp_revS {xs : List Nat} : Wp (lft (revD (.str xs))) s QS E ↔ xs.length ≤ 16777216 ∧ QS (.val (.str xs.reverse)) s := by with_unfolding_all exact wp_revSq 
@[simp ↓] theorem wp_itS {xs : List Nat} {QL : List D → S → Prop} : Wp (lft (itemsX (.str xs))) s QL E ↔ QL (xs.map fun c => .str [c]) s := by with_unfolding_all exact wp_itSq 
@[simp ↓] theorem wp_itL {xs : List D} {QL : List D → S → Prop} : Wp (lft (itemsX (.lst xs))) s QL E ↔ QL xs s := by with_unfolding_all exact wp_itLq 
@[simp ↓] theorem wp_itT {xs : List D} {QL : List D → S → Prop} : Wp (lft (itemsX (.tup xs))) s QL E ↔ QL xs s := by with_unfolding_all exact wp_itTq 
@[simp ↓] theorem wp_itDic {ks : List Ky} {vs : List D} {QL : List D → S → Prop} : Wp (lft (itemsX (.dic ks vs))) s QL E ↔ QL (ks.map Ky.d) s := by with_unfolding_all exact wp_itDicq 
@[simp ↓] theorem wp_lenS {xs : List Nat} : Wp (lft (bltD .len [.str xs])) s QS E ↔ xs.length ≤ 16777216 ∧ QS (.val (.int xs.length)) s := by with_unfolding_all exact wp_lenSq 
@[simp ↓] theorem wp_lenL {xs : List D} : Wp (lft (bltD .len [.lst xs])) s QS E ↔ QS (.val (.int xs.length)) s := by with_unfolding_all exact wp_lenLq 
@[simp ↓] theorem wp_lenT {xs : List D} : Wp (lft (bltD .len [.tup xs])) s QS E ↔ QS (.val (.int xs.length)) s := by with_unfolding_all exact wp_lenTq 
@[simp ↓] theorem wp_lenD {ks : List Ky} {vs : List D} : Wp (lft (bltD .len [.dic ks vs])) s QS E ↔ QS (.val (.int ks.length)) s := by with_unfolding_all exact wp_lenDq 
@[simp ↓] theorem wp_absI {i : Int} : Wp (lft (bltD .abs [.int i])) s QS E ↔ QS (.val (.int (if i < 0 then -i else i))) s := by with_unfolding_all exact wp_absIq 
@[simp ↓] theorem wp_intI {i : Int} : Wp (lft (bltD .int [.int i])) s QS E ↔ QS (.val (.int i)) s := by with_unfolding_all exact wp_intIq 
@[simp ↓] theorem wp_intB {i : Bool} : Wp (lft (bltD .int [.bl i])) s QS E ↔ QS (.val (.int (if i then 1 else 0))) s := by with_unfolding_all exact wp_intBq 
@[simp ↓] theorem wp_reprF {d : D} : Wp (lft (bltD .repr [d])) s QS E ↔ (match reprF d with
  | some x => QS (.val (.str x)) s
  | none => False) := by with_unfolding_all exact wp_reprFq 
@[simp ↓] theorem wp_reprT {d : D} : Wp (lft (bltD .reprT [d])) s QS E ↔ (match reprD d with
  | some x => (pl 40 d = true ∧ x.length ≤ 1000000) ∧ QS (.val (.str x)) s
  | none => False) := by with_unfolding_all exact wp_reprTq 
@[simp ↓] theorem wp_all {bs : List Bool} : Wp (lft (bltD .all [.lst (bs.map .bl)])) s QS E ↔ QS (.val (.bl (bs.all id))) s := by with_unfolding_all exact wp_allq 
@[simp ↓] theorem wp_any {bs : List Bool} : Wp (lft (bltD .any [.lst (bs.map .bl)])) s QS E ↔ QS (.val (.bl (bs.any id))) s := by with_unfolding_all exact wp_anyq 
@[simp ↓] theorem wp_allD {xs : List D} : Wp (lft (bltD .all [.lst xs])) s QS E ↔ (match bools xs with
  | some bs => QS (.val (.bl (bs.all id))) s
  | none => False) := by with_unfolding_all exact wp_allDq 
@[simp ↓] theorem wp_anyD {xs : List D} : Wp (lft (bltD .any [.lst xs])) s QS E ↔ (match bools xs with
  | some bs => QS (.val (.bl (bs.any id))) s
  | none => False) := by with_unfolding_all exact wp_anyDq 
@[simp ↓] theorem wp_listL {xs : List D} : Wp (lft (bltD .list [.lst xs])) s QS E ↔ QS (.own xs) s := by with_unfolding_all exact wp_listLq 
@[simp ↓] theorem wp_listT {xs : List D} : Wp (lft (bltD .list [.tup xs])) s QS E ↔ QS (.own xs) s := by with_unfolding_all exact wp_listTq 
@[simp ↓] theorem wp_listS {xs : List Nat} : Wp (lft (bltD .list [.str xs])) s QS E ↔ xs.length ≤ 16777216 ∧ QS (.own (xs.map fun c => .str [c])) s := by with_unfolding_all exact wp_listSq 
@[simp ↓] theorem wp_tupL {xs : List D} : Wp (lft (bltD .tuple [.lst xs])) s QS E ↔ QS (.val (.tup xs)) s := by with_unfolding_all exact wp_tupLq 
@[simp ↓] theorem wp_tupT {xs : List D} : Wp (lft (bltD .tuple [.tup xs])) s QS E ↔ QS (.val (.tup xs)) s := by with_unfolding_all exact wp_tupTq 
@[simp ↓] theorem wp_join {sep : List Nat} {ys : List (List Nat)} : Wp (lft (mthD .join (.str sep) [.lst (ys.map .str)])) s QS E ↔ sumLen ys + ys.length * sep.length ≤ 16777216 ∧ QS (.val (.str (joinS sep ys))) s := by with_unfolding_all exact wp_joinq 
@[simp ↓] theorem wp_joinD {sep : List Nat} {ys : List D} : Wp (lft (mthD .join (.str sep) [.lst ys])) s QS E ↔ (match txts ys with
  | some ys => sumLen ys + ys.length * sep.length ≤ 16777216 ∧ QS (.val (.str (joinS sep ys))) s
  | none => False) := by with_unfolding_all exact wp_joinDq 
@[simp ↓] theorem wp_joinT {sep : List Nat} {ys : List D} : Wp (lft (mthD .join (.str sep) [.tup ys])) s QS E ↔ (match txts ys with
  | some ys => sumLen ys + ys.length * sep.length ≤ 16777216 ∧ QS (.val (.str (joinS sep ys))) s
  | none => False) := by with_unfolding_all exact wp_joinTq 
@[simp ↓] theorem wp_index {xs : List D} {d : D} : Wp (lft (mthD .index (.lst xs) [d])) s QS E ↔ (pl 60 d = true ∧ xs.all (pl 60) = true) ∧ (match idx1 d xs 0 with
  | some n => QS (.val (.int n)) s
  | none => False) := by with_unfolding_all exact wp_indexq 
@[simp ↓] theorem wp_count {xs : List D} {d : D} : Wp (lft (mthD .count (.lst xs) [d])) s QS E ↔ (flat d = true ∧ xs.all flat = true) ∧ QS (.val (.int ((xs.filter fun y => eqD y d).length : Nat))) s := by with_unfolding_all exact wp_countq 
@[simp ↓] theorem wp_countS {xs : List Nat} {q : Nat} : Wp (lft (mthD .countS (.str xs) [.str [q]])) s QS E ↔ QS (.val (.int (xs.count q : Nat))) s := by with_unfolding_all exact wp_countSq 
@[simp ↓] theorem wp_zipLL {xs ys : List D} {QL : List D → S → Prop} : Wp (lft (zipI [.lst xs, .lst ys])) s QL E ↔ QL (zipD xs ys) s := by with_unfolding_all exact wp_zipLLq 
@[simp ↓] theorem wp_zipSS {xs ys : List Nat} {QL : List D → S → Prop} : Wp (lft (zipI [.str xs, .str ys])) s QL E ↔ QL (zipD (xs.map fun c => .str [c]) (ys.map fun c => .str [c])) s := by with_unfolding_all exact wp_zipSSq 
@[simp ↓] theorem wp_iadd {i j : Int} : Wp (lft (binD .iadd (.int i) (.int j))) s QS E ↔ QS (.val (.int (i + j))) s := by with_unfolding_all exact wp_iaddq 
@[simp ↓] theorem wp_enumI {d : D} {QL : List D → S → Prop} : Wp (lft ((itemsD d).map fun xs => enumD xs 0)) s QL E ↔ (match itemsD d with
  | some xs => QL (enumD xs 0) s
  | none => False) := by with_unfolding_all exact wp_enumIq 
@[simp ↓] theorem wp_zipTT {xs ys : List D} {QL : List D → S → Prop} : Wp (lft (zipI [.tup xs, .tup ys])) s QL E ↔ QL (zipD xs ys) s := by with_unfolding_all exact wp_zipTTq 
@[simp ↓] theorem wp_rangeL1 {t : Bool} {n : Int} : Wp (lft (rangeL t [.int n])) s QS E ↔ rgOk 0 n = true ∧ QS (if t then .val (.tup (rangeD n.toNat 0)) else .own (rangeD n.toNat 0)) s := by with_unfolding_all exact wp_rangeL1q 
@[simp ↓] theorem wp_rangeL2 {t : Bool} {a b : Int} : Wp (lft (rangeL t [.int a, .int b])) s QS E ↔ rgOk a b = true ∧ QS (if t then .val (.tup (rangeD (b - a).toNat a)) else .own (rangeD (b - a).toNat a)) s := by with_unfolding_all exact wp_rangeL2q 
@[simp ↓] theorem wp_sorted {xs : List D} : Wp (lft (bltD .sorted [.lst xs])) s QS E ↔ (match sortD xs with
  | some zs => QS (.own zs) s
  | none => False) := by with_unfolding_all exact wp_sortedq 
@[simp ↓] theorem wp_setL {xs : List D} : Wp (lft (bltD .set [.lst xs])) s QS E ↔ (match setD xs with
  | some v => QS v s
  | none => False) := by with_unfolding_all exact wp_setLq 
@[simp ↓] theorem wp_setT {xs : List D} : Wp (lft (bltD .set [.tup xs])) s QS E ↔ (match setD xs with
  | some v => QS v s
  | none => False) := by with_unfolding_all exact wp_setTq 
@[simp ↓] theorem wp_lenSet {ks : List Ka} : Wp (lft (bltD .len [.set ks])) s QS E ↔ QS (.val (.int ks.length)) s := by with_unfolding_all exact wp_lenSetq 
@[simp ↓] theorem wp_sortedT {xs : List D} : Wp (lft (bltD .sorted [.tup xs])) s QS E ↔ (match sortD xs with
  | some zs => QS (.own zs) s
  | none => False) := by with_unfolding_all exact wp_sortedTq 
@[simp ↓] theorem wp_sortedS {ks : List Ka} : Wp (lft (bltD .sorted [.set ks])) s QS E ↔ (match sortD (ks.map Ka.d) with
  | some zs => QS (.own zs) s
  | none => False) := by with_unfolding_all exact wp_sortedSq 
@[simp ↓] theorem wp_sortedD {ks : List Ky} {vs : List D} : Wp (lft (bltD .sorted [.dic ks vs])) s QS E ↔ (match sortD (ks.map Ky.d) with
  | some zs => QS (.own zs) s
  | none => False) := by with_unfolding_all exact wp_sortedDq 
@[simp ↓] theorem wp_maxL {xs : List D} : Wp (lft (bltD .max [.lst xs])) s QS E ↔ (match intsD xs with
  | some (m :: is) => QS (.val (.int (maxL m is))) s
  | _ => False) := by with_unfolding_all exact wp_maxLq 
@[simp ↓] theorem wp_minL {xs : List D} : Wp (lft (bltD .min [.lst xs])) s QS E ↔ (match intsD xs with
  | some (m :: is) => QS (.val (.int (minL m is))) s
  | _ => False) := by with_unfolding_all exact wp_minLq 
@[simp ↓] theorem wp_sumL {xs : List D} : Wp (lft (bltD .sum [.lst xs])) s QS E ↔ (match intsD xs with
  | some is => QS (.val (.int is.sum)) s
  | none => False) := by with_unfolding_all exact wp_sumLq 
@[simp ↓] theorem wp_indexT {xs : List D} {d : D} : Wp (lft (mthD .indexT (.tup xs) [d])) s QS E ↔ (pl 60 d = true ∧ xs.all (pl 60) = true) ∧ (match idx1 d xs 0 with
  | some n => QS (.val (.int n)) s
  | none => False) := by with_unfolding_all exact wp_indexTq 
@[simp ↓] theorem wp_dictP {xs : List D} : Wp (lft (bltD .dict [.lst xs])) s QS E ↔ (match dicP xs [] [] with
  | some v => QS v s
  | none => False) := by with_unfolding_all exact wp_dictPq 
@[simp ↓] theorem wp_ownL {i : Nat} : Wp (ownL i) ⟨x :: l, hp⟩ QU E ↔ (match (x :: l)[i]? with
  | some (some (.own _)) => QU () ⟨x :: l, hp⟩
  | _ => False) := by with_unfolding_all exact wp_ownLq 
@[simp ↓] theorem wp_append {i : Nat} {d : D} : Wp (mutS .append i [d]) ⟨x :: l, hp⟩ QS E ↔ (match (x :: l)[i]? with
  | some (some (.own xs)) => xs.length < 16777216 ∧ QS (.val .non) ⟨(x :: l).set i (some (.own (xs ++ [d]))), hp⟩
  | _ => False) := by with_unfolding_all exact wp_appendq 
@[simp ↓] theorem wp_extend {i : Nat} {ys : List D} : Wp (mutS .extend i [.lst ys]) ⟨x :: l, hp⟩ QS E ↔ (match (x :: l)[i]? with
  | some (some (.own xs)) => xs.length + ys.length ≤ 16777216 ∧ QS (.val .non) ⟨(x :: l).set i (some (.own (xs ++ ys))), hp⟩
  | _ => False) := by with_unfolding_all exact wp_extendq 
@[simp ↓] theorem wp_setIxM {v : Nat} {i d : D} : Wp (setIxM v i d) ⟨x :: l, hp⟩ QU E ↔ (match (x :: l)[v]? with
  | some (some (.val (.ref k))) => (match hp[k]?, i with
    | some (.lst xs), .int j => (match ixOf xs.length j with
      | some n => QU () ⟨x :: l, hp.set k (.lst (xs.set n d))⟩
      | none => False)
    | _, _ => False)
  | some (some (.own xs)) => (match i with
    | .int j => (match ixOf xs.length j with
      | some n => QU () ⟨(x :: l).set v (some (.own (xs.set n d))), hp⟩
      | none => False)
    | _ => False)
  | some (some (.ownd t ks vs)) => (match keyD i with
    | some k => if k.isT = t ∧ ks.length < 16777216 then QU () ⟨(x :: l).set v (some (.ownd t (putK k ks) (putV k d ks vs))), hp⟩ else False
    | none => False)
  | _ => False) := by with_unfolding_all exact wp_setIxMq 
end
section
variable {c : Cfg} {E : Nat → List D → S → Prop} {QF : Fl → S → Prop} {QS : Sl → S → Prop}
theorem wp_for {f : D → M Fl} {xs : List D} {s : S} (I : Nat → S → Prop) (h0 : I 0 s)
    (hs : ∀ (i : Nat) (d : D) (s : S), xs[i]? = some d → I i s → Wp (f d) s (fun r s' => match r with
      | .nx => I (i + 1) s'
      | .ct => I (i + 1) s'
      | .bk => QF .nx s'
      | .rt v => QF (.rt v) s') E)
    (h1 : ∀ s, I xs.length s → QF .nx s) : Wp (forL f xs) s QF E := by with_unfolding_all exact wp_forq I h0 hs h1
theorem wp_for0 {f : D → M Fl} {s : S} : Wp (forL f []) s QF E ↔ QF .nx s := by with_unfolding_all exact wp_for0q 
theorem wp_for1 {f : D → M Fl} {d : D} {r : List D} {s : S} : Wp (forL f (d :: r)) s QF E ↔ Wp (f d) s (fun a s' => match a with
    | .nx => Wp (forL f r) s' QF E
    | .ct => Wp (forL f r) s' QF E
    | .bk => QF .nx s'
    | .rt v => QF (.rt v) s') E := by with_unfolding_all exact wp_for1q 
theorem wp_while {t : M Bool} {b : M Fl} {n : Nat} {s : S} (I : Nat → S → Prop) (k : Nat) (h0 : I k s) (hk : k < n)
    (hs : ∀ (k : Nat) (s : S), I k s → Wp t s (fun a s1 => if a = true then ∃ j, j < k ∧ Wp b s1 (fun r s2 => match r with
      | .nx => I j s2
      | .ct => I j s2
      | .bk => QF .nx s2
      | .rt v => QF (.rt v) s2) E else QF .nx s1) E) : Wp (whileL t b n) s QF E := by with_unfolding_all exact wp_whileq I k h0 hk hs
theorem wp_blk {own : List Nat} {items : List D} {f : D → M (Option D)} {l : List (Option Sl)} {hp : List Ob} (J : Nat → List D → List Ob → Prop) (hl : items.length ≤ line) (h0 : J 0 [] hp)
    (hs : ∀ (i : Nat) (d : D) (ys : List D) (hp : List Ob), items[i]? = some d → J i ys hp → Wp (f d) ⟨clr own l, hp⟩ (fun o s' => clr own s'.sl = clr own l ∧ J (i + 1) (match o with
      | some y => ys ++ [y]
      | none => ys) s'.hp) (fun _ _ _ => False))
    (h1 : ∀ ys hp', J items.length ys hp' → QS (.own ys) ⟨bck l own (clr own l), hp'⟩) : Wp (blk own items f) ⟨l, hp⟩ QS E := by with_unfolding_all exact wp_blkq J hl h0 hs h1
theorem wp_blkP {own : List Nat} {items : List D} {f : D → M (Option D)} {l : List (Option Sl)} {hp : List Ob} (g : D → Option D) (hl : items.length ≤ line)
    (hs : ∀ d ∈ items, Wp (f d) ⟨clr own l, hp⟩ (fun o s' => o = g d ∧ clr own s'.sl = clr own l ∧ s'.hp = hp) (fun _ _ _ => False))
    (h1 : QS (.own (items.filterMap g)) ⟨bck l own (clr own l), hp⟩) : Wp (blk own items f) ⟨l, hp⟩ QS E := by with_unfolding_all exact wp_blkPq g hl hs h1
theorem wp_blkM {own : List Nat} {items : List D} {f : D → M (Option D)} {l : List (Option Sl)} {hp : List Ob} (g : D → D) (hl : items.length ≤ line)
    (hs : ∀ d ∈ items, Wp (f d) ⟨clr own l, hp⟩ (fun o s' => o = some (g d) ∧ clr own s'.sl = clr own l ∧ s'.hp = hp) (fun _ _ _ => False))
    (h1 : QS (.own (items.map g)) ⟨bck l own (clr own l), hp⟩) : Wp (blk own items f) ⟨l, hp⟩ QS E := by with_unfolding_all exact wp_blkMq g hl hs h1
theorem wp_blkA {A : Type} {own : List Nat} {as : List A} {j : A → D} {f : D → M (Option D)} {l : List (Option Sl)} {hp : List Ob} (g : A → D) (hl : as.length ≤ line)
    (hs : ∀ a ∈ as, Wp (f (j a)) ⟨clr own l, hp⟩ (fun o s' => o = some (g a) ∧ clr own s'.sl = clr own l ∧ s'.hp = hp) (fun _ _ _ => False))
    (h1 : QS (.own (as.map g)) ⟨bck l own (clr own l), hp⟩) : Wp (blk own (as.map j) f) ⟨l, hp⟩ QS E := by with_unfolding_all exact wp_blkAq g hl hs h1
theorem wp_blkO {A : Type} {own : List Nat} {as : List A} {j : A → D} {f : D → M (Option D)} {l : List (Option Sl)} {hp : List Ob} (g : A → Option D) (hl : as.length ≤ line)
    (hs : ∀ a ∈ as, Wp (f (j a)) ⟨clr own l, hp⟩ (fun o s' => o = g a ∧ clr own s'.sl = clr own l ∧ s'.hp = hp) (fun _ _ _ => False))
    (h1 : QS (.own (as.filterMap g)) ⟨bck l own (clr own l), hp⟩) : Wp (blk own (as.map j) f) ⟨l, hp⟩ QS E := by with_unfolding_all exact wp_blkOq g hl hs h1
end
section
variable {sb : Nat → Nat → Bool} {kss : List D} {P : List Fd}
theorem fn_of_wp {g f : Nat} {ds : List D} {hp : List Ob} {fd : Fd} {Q : Sl → List Ob → Prop} {E : Nat → List D → List Ob → Prop} (h : P[f]? = some fd) (hl : ds.length = fd.np)
    (w : Wp (execs ⟨Run sb kss P g, sb, none, kss, none⟩ fd.body) ⟨begin_ fd ds, hp⟩ (fun r s => match r with
      | .rt v => Q v s.hp
      | .nx => Q (.val .non) s.hp
      | _ => False) (fun c fs s => E c fs s.hp)) : Fn (Run sb kss P (g + 1) f ds none hp) Q E := by with_unfolding_all exact fn_of_wpq h hl w
theorem fnT_of_wp {g f : Nat} {tf : List Ob → Option Rf} {ds : List D} {hp : List Ob} {fd : Fd} {Q : Sl → List Ob → Prop} {E : Nat → List D → List Ob → Prop} (h : P[f]? = some fd) (hl : fd.np = 1)
    (w : Wp (execs ⟨Run sb kss P g, sb, some tf, kss, none⟩ fd.body) ⟨beginT fd, hp⟩ (fun r s => match r with
      | .rt v => Q v s.hp
      | .nx => Q (.val .non) s.hp
      | _ => False) (fun c fs s => E c fs s.hp)) : Fn (Run sb kss P (g + 1) f ds (some tf) hp) Q E := by with_unfolding_all exact fnT_of_wpq h hl w
section
variable {g f n : Nat} {hp : List Ob} {b : Stms} {Q : Sl → List Ob → Prop} {E : Nat → List D → List Ob → Prop}
abbrev Body (sb : Nat → Nat → Bool) (kss : List D) (P : List Fd) (g : Nat) (b : Stms) (l : List (Option Sl)) (hp : List Ob) (Q : Sl → List Ob → Prop) (E : Nat → List D → List Ob → Prop) : Prop :=
  Wp (execs ⟨Run sb kss P g, sb, none, kss, none⟩ b) ⟨l, hp⟩ (fun r s => match r with
      | .rt v => Q v s.hp
      | .nx => Q (.val .non) s.hp
      | _ => False) (fun c fs s => E c fs s.hp)
theorem fn0 (h : P[f]? = some ⟨0, n + 1, b⟩) (w : Body sb kss P g b (none :: List.replicate n none) hp Q E) : Fn (Run sb kss P (g + 1) f [] none hp) Q E := by with_unfolding_all exact fn0q h w
theorem fn1 {a1 : D} (h : P[f]? = some ⟨1, n + 1, b⟩) (w : Body sb kss P g b (some (.val a1) :: List.replicate n none) hp Q E) : Fn (Run sb kss P (g + 1) f [a1] none hp) Q E := by with_unfolding_all exact fn1q h w
theorem fn2 {a1 a2 : D} (h : P[f]? = some ⟨2, n + 2, b⟩) (w : Body sb kss P g b (some (.val a1) :: some (.val a2) :: List.replicate n none) hp Q E) : Fn (Run sb kss P (g + 1) f [a1, a2] none hp) Q E := by with_unfolding_all exact fn2q h w
theorem fn3 {a1 a2 a3 : D} (h : P[f]? = some ⟨3, n + 3, b⟩) (w : Body sb kss P g b (some (.val a1) :: some (.val a2) :: some (.val a3) :: List.replicate n none) hp Q E) : Fn (Run sb kss P (g + 1) f [a1, a2, a3] none hp) Q E := by with_unfolding_all exact fn3q h w
theorem fn4 {a1 a2 a3 a4 : D} (h : P[f]? = some ⟨4, n + 4, b⟩) (w : Body sb kss P g b (some (.val a1) :: some (.val a2) :: some (.val a3) :: some (.val a4) :: List.replicate n none) hp Q E) : Fn (Run sb kss P (g + 1) f [a1, a2, a3, a4] none hp) Q E := by with_unfolding_all exact fn4q h w
end
theorem wp_act {c : Cfg} {tf : List Ob → Option Rf} {l : List (Option Sl)} {hp : List Ob} {QS : Sl → S → Prop} {E : Nat → List D → S → Prop} (h : c.th = some tf)
    (w : Fn (tf hp) (fun v hp' => QS v ⟨some .exc :: l, hp'⟩) (fun k fs hp' => E k fs ⟨List.replicate (l.length + 1) none, hp'⟩)) : Wp (ev c (.act 0)) ⟨some .exc :: l, hp⟩ QS E := by with_unfolding_all exact wp_actq h w
theorem wp_wcall {c : Cfg} {f : Nat} {th : Ex} {l : List (Option Sl)} {hp : List Ob} {QS : Sl → S → Prop} {E : Nat → List D → S → Prop}
    (w : ∀ tf : List Ob → Option Rf, (∀ hp Q E', Wp (vOf th (ev c th)) ⟨hidO l, hp⟩ (fun d s => Q (.val d) s.hp) (fun k fs s => E' k fs s.hp) → Fn (tf hp) Q E') →
      Fn (c.call f [] (some tf) hp) (fun v hp' => QS v ⟨l, hp'⟩) noE) : Wp (ev c (.wcall f th)) ⟨l, hp⟩ QS E := by with_unfolding_all exact wp_wcallq w
end
end Kb

set_option Elab.async false
set_option linter.all false
set_option maxRecDepth 100000
set_option maxHeartbeats 0
/-! Pk86a: the text of k86 in the small language. -/
namespace Kb.Pr
open Kb

def i_is_integer : Nat := 0
def i_is_within : Nat := 1
def i_is_sized : Nat := 2
def i_is_lot : Nat := 3
def i_is_bit : Nat := 4
def i_is_order : Nat := 5
def i_all_orders : Nat := 6
def i_rows_of : Nat := 7
def i_number_of : Nat := 8
def i_other_bit : Nat := 9
def i_turned_row : Nat := 10
def i_flipped_row : Nat := 11
def i_lots_of : Nat := 12
def i_by_size : Nat := 13
def i_is_gate : Nat := 14
def i_check_gate : Nat := 15
def i_raw_ins : Nat := 16
def i_raw_tells : Nat := 17
def i_check_many : Nat := 18
def i_check_place : Nat := 19
def i_raw_of : Nat := 20
def i_raw_turned : Nat := 21
def i_turned : Nat := 22
def i_raw_flipped : Nat := 23
def i_flipped : Nat := 24
def i_raw_moved : Nat := 25
def i_check_order : Nat := 26
def i_moved : Nat := 27
def i_raw_needed : Nat := 28
def i_needed : Nat := 29
def i_raw_kin : Nat := 30
def i_plain_kin : Nat := 31
def i_are_kin : Nat := 32
def i_is_turn_of : Nat := 33
def i_check_turn : Nat := 34
def i_raw_led : Nat := 35
def i_led_by : Nat := 36
def i_all_turns : Nat := 37
def i_turns_many : Nat := 38
def i_raw_family : Nat := 39
def i_family : Nat := 40
def i_plain : Nat := 41
def i_raw_between : Nat := 42
def i_turn_to_plain : Nat := 43
def i_keepers : Nat := 44
def i_turn_between : Nat := 45
def i_lot_of_row : Nat := 46
def i_is_below : Nat := 47
def i_raw_sums : Nat := 48
def i_raw_degree : Nat := 49
def i_degree : Nat := 50
def i_check_two : Nat := 51
def i_raw_is_sum : Nat := 52
def i_is_sum : Nat := 53
def i_raw_far : Nat := 54
def i_far : Nat := 55
def i__law_hand : Nat := 56
def i__law_draw : Nat := 57
def i__law_any : Nat := 58
def i__law_gate : Nat := 59
def i__law_rows : Nat := 60
def i__law_orders : Nat := 61
def i__law_turns : Nat := 62
def i__law_led : Nat := 63
def i__law_word : Nat := 64
def i__law_is_family_right : Nat := 65
def i__law_is_between_right : Nat := 66
def i__law_is_kept : Nat := 67
def i__law_are_turns : Nat := 68
def i_law : Nat := 69
def g_BITS : Nat := 0
def g_MOST_INPUTS : Nat := 1
def g_PLACES : Nat := 2
def g_SIZES : Nat := 3
def c_GateError : Nat := 0
def c_NoGate : Nat := 1
def c_NoMany : Nat := 2
def c_NoPlace : Nat := 3
def c_NoOrder : Nat := 4
def c_NoPair : Nat := 5
def c_NoTurn : Nat := 6
def k_GateError : Nat := 0
def k_NoGate : Nat := 1
def k_NoPair : Nat := 2
def k_ValueError : Nat := 3
def b_is_integer : Stms := (.cons (.ret (.some (.and (.isi (.var 0) .int) (.not (.isi (.var 0) .bool))))) .nil)
def f_is_integer : Fd := ⟨1, 1, b_is_integer⟩
def b_is_within : Stms := (.cons (.ret (.some (.and (.call i_is_integer (.cons (.var 0) .nil)) (.chain .le .le (.var 1) (.var 0) (.var 2))))) .nil)
def f_is_within : Fd := ⟨3, 3, b_is_within⟩
def b_is_sized : Stms := (.cons (.ret (.some (.and (.isi (.var 0) .tuple) (.chain .le .le (.var 1) (.blt .len (.cons (.var 0) .nil)) (.var 2))))) .nil)
def f_is_sized : Fd := ⟨3, 3, b_is_sized⟩
def b_is_lot : Stms := (.cons (.ifs (.or (.not (.isi (.var 0) .tuple)) (.not (.blt .all (.cons (.comp (.call i_is_within (.cons (.var 2) (.cons (.const (.int 0)) (.cons (.bin .sub (.var 1) (.const (.int 1))) .nil)))) (.name 2) (.ex (.var 0)) .none [2]) .nil)))) (.cons (.ret (.some (.const (.bl false)))) .nil) .nil) (.cons (.ret (.some (.blt .all (.cons (.comp (.cmp .lt (.var 2) (.var 3)) (.tup [2, 3]) (.zip (.cons (.var 0) (.cons (.sl (.var 0) (.some (.const (.int 1))) .none) .nil))) .none [2, 3]) .nil)))) .nil))
def f_is_lot : Fd := ⟨2, 4, b_is_lot⟩
def b_is_bit : Stms := (.cons (.ret (.some (.and (.isi (.var 0) .str) (.and (.cmp .eq (.blt .len (.cons (.var 0) .nil)) (.const (.int 1))) (.cmp .isin (.var 0) (.glob g_BITS)))))) .nil)
def f_is_bit : Fd := ⟨1, 1, b_is_bit⟩
def b_is_order : Stms := (.cons (.ifs (.or (.not (.call i_is_sized (.cons (.var 0) (.cons (.var 1) (.cons (.var 1) .nil))))) (.not (.blt .all (.cons (.comp (.call i_is_within (.cons (.var 2) (.cons (.const (.int 0)) (.cons (.bin .sub (.var 1) (.const (.int 1))) .nil)))) (.name 2) (.ex (.var 0)) .none [2]) .nil)))) (.cons (.ret (.some (.const (.bl false)))) .nil) .nil) (.cons (.ret (.some (.cmp .eq (.blt .sorted (.cons (.var 0) .nil)) (.lrange false (.cons (.var 1) .nil))))) .nil))
def f_is_order : Fd := ⟨2, 3, b_is_order⟩
def b_all_orders : Stms := (.cons (.set 1 (.lst (.cons (.tup .nil) .nil))) (.cons (.for_ (.name 2) (.range (.cons (.var 0) .nil)) (.cons (.set 3 (.lst .nil)) (.cons (.for_ (.name 4) (.ex (.var 1)) (.cons (.mut .extend 3 (.cons (.comp (.bin .add (.var 4) (.tup (.cons (.var 5) .nil))) (.name 5) (.range (.cons (.var 0) .nil)) (.some (.cmp .notin (.var 5) (.var 4))) [5]) .nil) none) .nil)) (.cons (.set 1 (.var 3)) .nil)))) (.cons (.ret (.some (.blt .sorted (.cons (.var 1) .nil)))) .nil)))
def f_all_orders : Fd := ⟨1, 6, b_all_orders⟩
def b_rows_of : Stms := (.cons (.set 1 (.lst (.cons (.const (.str [])) .nil))) (.cons (.for_ (.name 2) (.range (.cons (.var 0) .nil)) (.cons (.set 3 (.lst .nil)) (.cons (.for_ (.name 4) (.ex (.var 1)) (.cons (.mut .extend 3 (.cons (.lst (.cons (.bin .add (.var 4) (.const (.str [48]))) (.cons (.bin .add (.var 4) (.const (.str [49]))) .nil))) .nil) none) .nil)) (.cons (.set 1 (.var 3)) .nil)))) (.cons (.ret (.some (.var 1))) .nil)))
def f_rows_of : Fd := ⟨1, 5, b_rows_of⟩
def b_number_of : Stms := (.cons (.ifs (.cmp .isin (.var 0) (.glob g_PLACES)) (.cons (.ret (.some (.idx (.glob g_PLACES) (.var 0)))) .nil) .nil) (.cons (.set 1 (.const (.int 0))) (.cons (.for_ (.name 2) (.ex (.var 0)) (.cons (.set 1 (.bin .add (.bin .mul (.const (.int 2)) (.var 1)) (.blt .int (.cons (.cmp .eq (.var 2) (.const (.str [49]))) .nil)))) .nil)) (.cons (.ret (.some (.var 1))) .nil))))
def f_number_of : Fd := ⟨1, 3, b_number_of⟩
def b_other_bit : Stms := (.cons (.ret (.some (.ite (.cmp .eq (.var 0) (.const (.str [49]))) (.const (.str [48])) (.const (.str [49]))))) .nil)
def f_other_bit : Fd := ⟨1, 1, b_other_bit⟩
def b_turned_row : Stms := (.cons (.ret (.some (.mth .join (.const (.str [])) (.cons (.comp (.call i_other_bit (.cons (.var 1) .nil)) (.name 1) (.ex (.var 0)) .none [1]) .nil)))) .nil)
def f_turned_row : Fd := ⟨1, 2, b_turned_row⟩
def b_flipped_row : Stms := (.cons (.ret (.some (.bin .add (.bin .add (.sl (.var 0) .none (.some (.var 1))) (.call i_other_bit (.cons (.idx (.var 0) (.var 1)) .nil))) (.sl (.var 0) (.some (.bin .add (.var 1) (.const (.int 1)))) .none)))) .nil)
def f_flipped_row : Fd := ⟨2, 2, b_flipped_row⟩
def b_lots_of : Stms := (.cons (.set 1 (.lst (.cons (.tup .nil) .nil))) (.cons (.for_ (.name 2) (.ex (.var 0)) (.cons (.set 3 (.lst .nil)) (.cons (.for_ (.name 4) (.ex (.var 1)) (.cons (.mut .append 3 (.cons (.bin .add (.var 4) (.tup (.cons (.var 2) .nil))) .nil) none) .nil)) (.cons (.set 1 (.bin .add (.var 1) (.var 3))) .nil)))) (.cons (.ret (.some (.sortk i_by_size (.var 1)))) .nil)))
def f_lots_of : Fd := ⟨1, 5, b_lots_of⟩
def b_by_size : Stms := (.cons (.ret (.some (.tup (.cons (.blt .len (.cons (.var 0) .nil)) (.cons (.var 0) .nil))))) .nil)
def f_by_size : Fd := ⟨1, 1, b_by_size⟩
def b_is_gate : Stms := (.cons (.ifs (.or (.not (.isi (.var 0) .str)) (.cmp .notin (.blt .len (.cons (.var 0) .nil)) (.glob g_SIZES))) (.cons (.ret (.some (.const (.bl false)))) .nil) .nil) (.cons (.ret (.some (.blt .all (.cons (.comp (.cmp .isin (.var 1) (.glob g_BITS)) (.name 1) (.ex (.var 0)) .none [1]) .nil)))) .nil))
def f_is_gate : Fd := ⟨1, 2, b_is_gate⟩
def b_check_gate : Stms := (.cons (.ifs (.not (.call i_is_gate (.cons (.var 0) .nil))) (.cons (.raise c_NoGate .nil) .nil) .nil) .nil)
def f_check_gate : Fd := ⟨1, 1, b_check_gate⟩
def b_raw_ins : Stms := (.cons (.ret (.some (.mth .indexT (.glob g_SIZES) (.cons (.blt .len (.cons (.var 0) .nil)) .nil)))) .nil)
def f_raw_ins : Fd := ⟨1, 1, b_raw_ins⟩
def b_raw_tells : Stms := (.cons (.ret (.some (.idx (.var 0) (.call i_number_of (.cons (.var 1) .nil))))) .nil)
def f_raw_tells : Fd := ⟨2, 2, b_raw_tells⟩
def b_check_many : Stms := (.cons (.ifs (.not (.call i_is_within (.cons (.var 0) (.cons (.const (.int 0)) (.cons (.glob g_MOST_INPUTS) .nil))))) (.cons (.raise c_NoMany .nil) .nil) .nil) .nil)
def f_check_many : Fd := ⟨1, 1, b_check_many⟩
def b_check_place : Stms := (.cons (.ifs (.not (.call i_is_within (.cons (.var 0) (.cons (.const (.int 0)) (.cons (.bin .sub (.var 1) (.const (.int 1))) .nil))))) (.cons (.raise c_NoPlace .nil) .nil) .nil) .nil)
def f_check_place : Fd := ⟨2, 2, b_check_place⟩
def b_raw_of : Stms := (.cons (.ret (.some (.mth .join (.const (.str [])) (.cons (.comp (.idx (.var 1) (.var 2)) (.name 2) (.ex (.call i_rows_of (.cons (.var 0) .nil))) .none [2]) .nil)))) .nil)
def f_raw_of : Fd := ⟨2, 3, b_raw_of⟩
def b_raw_turned : Stms := (.cons (.ret (.some (.call i_turned_row (.cons (.var 0) .nil)))) .nil)
def f_raw_turned : Fd := ⟨1, 1, b_raw_turned⟩
def b_turned : Stms := (.cons (.expr (.call i_check_gate (.cons (.var 0) .nil))) (.cons (.ret (.some (.call i_raw_turned (.cons (.var 0) .nil)))) .nil))
def f_turned : Fd := ⟨1, 1, b_turned⟩
def b_raw_flipped : Stms := (.cons (.set 2 (.call i_raw_ins (.cons (.var 0) .nil))) (.cons (.setDc 3 (.var 4) (.call i_raw_tells (.cons (.var 0) (.cons (.call i_flipped_row (.cons (.var 4) (.cons (.var 1) .nil))) .nil))) (.name 4) (.ex (.call i_rows_of (.cons (.var 2) .nil))) .none [4]) (.cons (.ret (.some (.call i_raw_of (.cons (.var 2) (.cons (.var 3) .nil))))) .nil)))
def f_raw_flipped : Fd := ⟨2, 5, b_raw_flipped⟩
def b_flipped : Stms := (.cons (.expr (.call i_check_gate (.cons (.var 0) .nil))) (.cons (.expr (.call i_check_place (.cons (.var 1) (.cons (.call i_raw_ins (.cons (.var 0) .nil)) .nil)))) (.cons (.ret (.some (.call i_raw_flipped (.cons (.var 0) (.cons (.var 1) .nil))))) .nil)))
def f_flipped : Fd := ⟨2, 2, b_flipped⟩
def b_raw_moved : Stms := (.cons (.set 2 (.dic false .nil .nil)) (.cons (.for_ (.name 3) (.ex (.call i_rows_of (.cons (.blt .len (.cons (.var 1) .nil)) .nil))) (.cons (.setIx 2 (.var 3) (.call i_raw_tells (.cons (.var 0) (.cons (.mth .join (.const (.str [])) (.cons (.comp (.idx (.var 3) (.var 4)) (.name 4) (.ex (.var 1)) .none [4]) .nil)) .nil)))) .nil)) (.cons (.ret (.some (.call i_raw_of (.cons (.blt .len (.cons (.var 1) .nil)) (.cons (.var 2) .nil))))) .nil)))
def f_raw_moved : Fd := ⟨2, 5, b_raw_moved⟩
def b_check_order : Stms := (.cons (.ifs (.not (.call i_is_order (.cons (.var 0) (.cons (.var 1) .nil)))) (.cons (.raise c_NoOrder .nil) .nil) .nil) .nil)
def f_check_order : Fd := ⟨2, 2, b_check_order⟩
def b_moved : Stms := (.cons (.expr (.call i_check_gate (.cons (.var 0) .nil))) (.cons (.expr (.call i_check_order (.cons (.var 1) (.cons (.call i_raw_ins (.cons (.var 0) .nil)) .nil)))) (.cons (.ret (.some (.call i_raw_moved (.cons (.var 0) (.cons (.var 1) .nil))))) .nil)))
def f_moved : Fd := ⟨2, 2, b_moved⟩
def b_raw_needed : Stms := (.cons (.ret (.some (.blt .tuple (.cons (.comp (.var 1) (.name 1) (.range (.cons (.call i_raw_ins (.cons (.var 0) .nil)) .nil)) (.some (.cmp .ne (.call i_raw_flipped (.cons (.var 0) (.cons (.var 1) .nil))) (.var 0))) [1]) .nil)))) .nil)
def f_raw_needed : Fd := ⟨1, 2, b_raw_needed⟩
def b_needed : Stms := (.cons (.expr (.call i_check_gate (.cons (.var 0) .nil))) (.cons (.ret (.some (.call i_raw_needed (.cons (.var 0) .nil)))) .nil))
def f_needed : Fd := ⟨1, 1, b_needed⟩
def b_raw_kin : Stms := (.cons (.ret (.some (.blt .sorted (.cons (.blt .set (.cons (.comp (.call i_raw_moved (.cons (.var 0) (.cons (.var 1) .nil))) (.name 1) (.ex (.call i_all_orders (.cons (.call i_raw_ins (.cons (.var 0) .nil)) .nil))) .none [1]) .nil)) .nil)))) .nil)
def f_raw_kin : Fd := ⟨1, 2, b_raw_kin⟩
def b_plain_kin : Stms := (.cons (.expr (.call i_check_gate (.cons (.var 0) .nil))) (.cons (.ret (.some (.idx (.call i_raw_kin (.cons (.var 0) .nil)) (.const (.int 0))))) .nil))
def f_plain_kin : Fd := ⟨1, 1, b_plain_kin⟩
def b_are_kin : Stms := (.cons (.expr (.call i_check_gate (.cons (.var 0) .nil))) (.cons (.ret (.some (.and (.call i_is_gate (.cons (.var 1) .nil)) (.and (.cmp .eq (.blt .len (.cons (.var 0) .nil)) (.blt .len (.cons (.var 1) .nil))) (.cmp .isin (.var 1) (.call i_raw_kin (.cons (.var 0) .nil))))))) .nil))
def f_are_kin : Fd := ⟨2, 2, b_are_kin⟩
def b_is_turn_of : Stms := (.cons (.ret (.some (.and (.call i_is_sized (.cons (.var 1) (.cons (.const (.int 3)) (.cons (.const (.int 3)) .nil)))) (.and (.call i_is_order (.cons (.idx (.var 1) (.const (.int 0))) (.cons (.var 0) .nil))) (.and (.call i_is_lot (.cons (.idx (.var 1) (.const (.int 1))) (.cons (.var 0) .nil))) (.call i_is_bit (.cons (.idx (.var 1) (.const (.int 2))) .nil))))))) .nil)
def f_is_turn_of : Fd := ⟨2, 2, b_is_turn_of⟩
def b_check_turn : Stms := (.cons (.ifs (.not (.call i_is_turn_of (.cons (.var 0) (.cons (.var 1) .nil)))) (.cons (.raise c_NoTurn .nil) .nil) .nil) .nil)
def f_check_turn : Fd := ⟨2, 2, b_check_turn⟩
def b_raw_led : Stms := (.cons (.unp [4, 5, 6] (.var 1)) (.cons (.set 2 (.call i_raw_moved (.cons (.var 0) (.cons (.var 4) .nil)))) (.cons (.for_ (.name 3) (.ex (.var 5)) (.cons (.set 2 (.call i_raw_flipped (.cons (.var 2) (.cons (.var 3) .nil)))) .nil)) (.cons (.ret (.some (.ite (.cmp .eq (.var 6) (.const (.str [49]))) (.call i_raw_turned (.cons (.var 2) .nil)) (.var 2)))) .nil))))
def f_raw_led : Fd := ⟨2, 7, b_raw_led⟩
def b_led_by : Stms := (.cons (.expr (.call i_check_gate (.cons (.var 0) .nil))) (.cons (.expr (.call i_check_turn (.cons (.call i_raw_ins (.cons (.var 0) .nil)) (.cons (.var 1) .nil)))) (.cons (.ret (.some (.call i_raw_led (.cons (.var 0) (.cons (.var 1) .nil))))) .nil)))
def f_led_by : Fd := ⟨2, 2, b_led_by⟩
def b_all_turns : Stms := (.cons (.set 1 (.lst .nil)) (.cons (.for_ (.name 2) (.ex (.call i_all_orders (.cons (.var 0) .nil))) (.cons (.for_ (.name 3) (.ex (.call i_lots_of (.cons (.lrange false (.cons (.var 0) .nil)) .nil))) (.cons (.mut .extend 1 (.cons (.lst (.cons (.tup (.cons (.var 2) (.cons (.var 3) (.cons (.const (.str [48])) .nil)))) (.cons (.tup (.cons (.var 2) (.cons (.var 3) (.cons (.const (.str [49])) .nil)))) .nil))) .nil) none) .nil)) .nil)) (.cons (.ret (.some (.blt .sorted (.cons (.var 1) .nil)))) .nil)))
def f_all_turns : Fd := ⟨1, 4, b_all_turns⟩
def b_turns_many : Stms := (.cons (.expr (.call i_check_many (.cons (.var 0) .nil))) (.cons (.ret (.some (.blt .len (.cons (.call i_all_turns (.cons (.var 0) .nil)) .nil)))) .nil))
def f_turns_many : Fd := ⟨1, 1, b_turns_many⟩
def b_raw_family : Stms := (.cons (.ret (.some (.blt .sorted (.cons (.blt .set (.cons (.comp (.call i_raw_led (.cons (.var 0) (.cons (.var 1) .nil))) (.name 1) (.ex (.call i_all_turns (.cons (.call i_raw_ins (.cons (.var 0) .nil)) .nil))) .none [1]) .nil)) .nil)))) .nil)
def f_raw_family : Fd := ⟨1, 2, b_raw_family⟩
def b_family : Stms := (.cons (.expr (.call i_check_gate (.cons (.var 0) .nil))) (.cons (.ret (.some (.blt .tuple (.cons (.call i_raw_family (.cons (.var 0) .nil)) .nil)))) .nil))
def f_family : Fd := ⟨1, 1, b_family⟩
def b_plain : Stms := (.cons (.expr (.call i_check_gate (.cons (.var 0) .nil))) (.cons (.ret (.some (.idx (.call i_raw_family (.cons (.var 0) .nil)) (.const (.int 0))))) .nil))
def f_plain : Fd := ⟨1, 1, b_plain⟩
def b_raw_between : Stms := (.cons (.for_ (.name 2) (.ex (.call i_all_turns (.cons (.call i_raw_ins (.cons (.var 0) .nil)) .nil))) (.cons (.ifs (.cmp .eq (.call i_raw_led (.cons (.var 0) (.cons (.var 2) .nil))) (.var 1)) (.cons (.ret (.some (.var 2))) .nil) .nil) .nil)) (.cons (.ret (.some (.const .non))) .nil))
def f_raw_between : Fd := ⟨2, 3, b_raw_between⟩
def b_turn_to_plain : Stms := (.cons (.expr (.call i_check_gate (.cons (.var 0) .nil))) (.cons (.ret (.some (.call i_raw_between (.cons (.var 0) (.cons (.idx (.call i_raw_family (.cons (.var 0) .nil)) (.const (.int 0))) .nil))))) .nil))
def f_turn_to_plain : Fd := ⟨1, 1, b_turn_to_plain⟩
def b_keepers : Stms := (.cons (.expr (.call i_check_gate (.cons (.var 0) .nil))) (.cons (.ret (.some (.blt .tuple (.cons (.comp (.var 1) (.name 1) (.ex (.call i_all_turns (.cons (.call i_raw_ins (.cons (.var 0) .nil)) .nil))) (.some (.cmp .eq (.call i_raw_led (.cons (.var 0) (.cons (.var 1) .nil))) (.var 0))) [1]) .nil)))) .nil))
def f_keepers : Fd := ⟨1, 2, b_keepers⟩
def b_turn_between : Stms := (.cons (.expr (.call i_check_gate (.cons (.var 0) .nil))) (.cons (.expr (.call i_check_gate (.cons (.var 1) .nil))) (.cons (.ifs (.cmp .ne (.blt .len (.cons (.var 0) .nil)) (.blt .len (.cons (.var 1) .nil))) (.cons (.raise c_NoPair .nil) .nil) .nil) (.cons (.ret (.some (.call i_raw_between (.cons (.var 0) (.cons (.var 1) .nil))))) .nil))))
def f_turn_between : Fd := ⟨2, 2, b_turn_between⟩
def b_lot_of_row : Stms := (.cons (.ret (.some (.blt .tuple (.cons (.comp (.var 1) (.tup [1, 2]) (.enum (.var 0)) (.some (.cmp .eq (.var 2) (.const (.str [49])))) [1, 2]) .nil)))) .nil)
def f_lot_of_row : Fd := ⟨1, 3, b_lot_of_row⟩
def b_is_below : Stms := (.cons (.ret (.some (.blt .all (.cons (.comp (.or (.cmp .eq (.var 2) (.const (.str [48]))) (.cmp .eq (.var 3) (.const (.str [49])))) (.tup [2, 3]) (.zip (.cons (.var 0) (.cons (.var 1) .nil))) .none [2, 3]) .nil)))) .nil)
def f_is_below : Fd := ⟨2, 4, b_is_below⟩
def b_raw_sums : Stms := (.cons (.par [2, 3] (.cons (.call i_raw_ins (.cons (.var 0) .nil)) (.cons (.lst .nil) .nil))) (.cons (.for_ (.name 1) (.ex (.call i_rows_of (.cons (.var 2) .nil))) (.cons (.set 4 (.comp (.call i_raw_tells (.cons (.var 0) (.cons (.var 5) .nil))) (.name 5) (.ex (.call i_rows_of (.cons (.var 2) .nil))) (.some (.call i_is_below (.cons (.var 5) (.cons (.var 1) .nil)))) [5])) (.cons (.ifs (.cmp .eq (.bin .mod (.blt .int (.cons (.mth .count (.var 4) (.cons (.const (.str [49])) .nil)) .nil)) (.const (.int 2))) (.const (.int 1))) (.cons (.mut .append 3 (.cons (.call i_lot_of_row (.cons (.var 1) .nil)) .nil) none) .nil) .nil) .nil))) (.cons (.ret (.some (.blt .tuple (.cons (.blt .sorted (.cons (.var 3) .nil)) .nil)))) .nil)))
def f_raw_sums : Fd := ⟨1, 6, b_raw_sums⟩
def b_raw_degree : Stms := (.cons (.ret (.some (.blt .max (.cons (.bin .add (.lst (.cons (.neg (.const (.int 1))) .nil)) (.comp (.blt .len (.cons (.var 1) .nil)) (.name 1) (.ex (.call i_raw_sums (.cons (.var 0) .nil))) .none [1])) .nil)))) .nil)
def f_raw_degree : Fd := ⟨1, 2, b_raw_degree⟩
def b_degree : Stms := (.cons (.expr (.call i_check_gate (.cons (.var 0) .nil))) (.cons (.ret (.some (.call i_raw_degree (.cons (.var 0) .nil)))) .nil))
def f_degree : Fd := ⟨1, 1, b_degree⟩
def b_check_two : Stms := (.cons (.expr (.call i_check_gate (.cons (.var 0) .nil))) (.cons (.expr (.call i_check_gate (.cons (.var 1) .nil))) (.cons (.ifs (.cmp .ne (.blt .len (.cons (.var 0) .nil)) (.blt .len (.cons (.var 1) .nil))) (.cons (.raise c_NoPair .nil) .nil) .nil) .nil)))
def f_check_two : Fd := ⟨2, 2, b_check_two⟩
def b_raw_is_sum : Stms := (.cons (.ret (.some (.cmp .le (.call i_raw_degree (.cons (.var 0) .nil)) (.const (.int 1))))) .nil)
def f_raw_is_sum : Fd := ⟨1, 1, b_raw_is_sum⟩
def b_is_sum : Stms := (.cons (.expr (.call i_check_gate (.cons (.var 0) .nil))) (.cons (.ret (.some (.call i_raw_is_sum (.cons (.var 0) .nil)))) .nil))
def f_is_sum : Fd := ⟨1, 1, b_is_sum⟩
def b_raw_far : Stms := (.cons (.ret (.some (.blt .len (.cons (.comp (.const (.int 1)) (.tup [2, 3]) (.zip (.cons (.var 0) (.cons (.var 1) .nil))) (.some (.cmp .ne (.var 2) (.var 3))) [2, 3]) .nil)))) .nil)
def f_raw_far : Fd := ⟨2, 4, b_raw_far⟩
def b_far : Stms := (.cons (.expr (.call i_check_two (.cons (.var 0) (.cons (.var 1) .nil)))) (.cons (.ret (.some (.call i_raw_far (.cons (.var 0) (.cons (.var 1) .nil))))) .nil))
def f_far : Fd := ⟨2, 2, b_far⟩
def b__law_hand : Stms := (.cons (.set 1 (.comp (.blt .abs (.cons (.blt .int (.cons (.var 2) .nil)) .nil)) (.name 2) (.ex (.sl (.var 0) .none (.some (.const (.int 63))))) .none [2])) (.cons (.ret (.some (.lstH (.cons (.var 1) (.cons (.const (.int 0)) (.cons (.const (.int 0)) (.cons (.bin .add (.const (.int 23)) (.bin .mul (.const (.int 11)) (.blt .len (.cons (.var 1) .nil)))) (.cons (.const (.int 0)) .nil)))))))) .nil))
def f__law_hand : Fd := ⟨1, 3, b__law_hand⟩
def b__law_draw : Stms := (.cons (.ifs (.and (.cmp .eq (.idx (.var 0) (.const (.int 2))) (.const (.int 0))) (.cmp .lt (.idx (.var 0) (.const (.int 1))) (.blt .len (.cons (.idx (.var 0) (.const (.int 0))) .nil)))) (.cons (.set 3 (.idx (.idx (.var 0) (.const (.int 0))) (.idx (.var 0) (.const (.int 1))))) (.cons (.setIx 0 (.const (.int 1)) (.bin .add (.idx (.var 0) (.const (.int 1))) (.const (.int 1)))) (.cons (.setIx 0 (.const (.int 3)) (.bin .mod (.blt .int (.cons (.bin .add (.bin .add (.bin .mul (.idx (.var 0) (.const (.int 3))) (.const (.int 48271))) (.bin .mul (.var 3) (.const (.int 69621)))) (.const (.int 37))) .nil)) (.const (.int 2147483629)))) (.cons (.ifs (.cmp .ge (.var 3) (.bin .pow (.const (.int 10)) (.const (.int 18)))) (.cons (.setIx 0 (.const (.int 2)) (.var 3)) .nil) .nil) .nil)))) .nil) (.cons (.ifs (.cmp .gt (.idx (.var 0) (.const (.int 2))) (.const (.int 0))) (.cons (.set 4 (.bin .mod (.blt .int (.cons (.idx (.var 0) (.const (.int 2))) .nil)) (.var 1))) (.cons (.setIx 0 (.const (.int 2)) (.bin .fdiv (.idx (.var 0) (.const (.int 2))) (.var 1))) (.cons (.ret (.some (.var 4))) .nil))) .nil) (.cons (.setIx 0 (.const (.int 4)) (.bin .add (.idx (.var 0) (.const (.int 4))) (.const (.int 1)))) (.cons (.set 2 (.bin .mod (.blt .int (.cons (.bin .mul (.blt .int (.cons (.bin .add (.idx (.var 0) (.const (.int 3))) (.bin .mul (.const (.int 7919)) (.idx (.var 0) (.const (.int 4))))) .nil)) (.const (.int 48271))) .nil)) (.const (.int 2147483647)))) (.cons (.set 2 (.bin .mod (.blt .int (.cons (.bin .mul (.var 2) (.bin .add (.bin .fdiv (.var 2) (.const (.int 1009))) (.const (.int 69621)))) .nil)) (.const (.int 2147483647)))) (.cons (.set 2 (.bin .mod (.blt .int (.cons (.bin .mul (.var 2) (.bin .add (.bin .fdiv (.var 2) (.const (.int 2003))) (.const (.int 40014)))) .nil)) (.const (.int 2147483563)))) (.cons (.ret (.some (.bin .mod (.blt .int (.cons (.bin .fdiv (.var 2) (.const (.int 16))) .nil)) (.var 1)))) .nil)))))))
def f__law_draw : Fd := ⟨2, 5, b__law_draw⟩
def b__law_any : Stms := (.cons (.ret (.some (.idx (.var 1) (.call i__law_draw (.cons (.var 0) (.cons (.blt .len (.cons (.var 1) .nil)) .nil)))))) .nil)
def f__law_any : Fd := ⟨2, 2, b__law_any⟩
def b__law_gate : Stms := (.cons (.ret (.some (.mth .join (.const (.str [])) (.cons (.comp (.call i__law_any (.cons (.var 0) (.cons (.lst (.cons (.const (.str [48])) (.cons (.const (.str [49])) .nil))) .nil))) (.name 2) (.range (.cons (.blt .len (.cons (.call i__law_rows (.cons (.var 1) .nil)) .nil)) .nil)) .none [2]) .nil)))) .nil)
def f__law_gate : Fd := ⟨2, 3, b__law_gate⟩
def b__law_rows : Stms := (.cons (.set 1 (.lst (.cons (.const (.str [])) .nil))) (.cons (.for_ (.name 2) (.range (.cons (.var 0) .nil)) (.cons (.set 3 (.lst .nil)) (.cons (.for_ (.name 4) (.ex (.var 1)) (.cons (.mut .extend 3 (.cons (.lst (.cons (.bin .add (.var 4) (.const (.str [48]))) (.cons (.bin .add (.var 4) (.const (.str [49]))) .nil))) .nil) none) .nil)) (.cons (.set 1 (.var 3)) .nil)))) (.cons (.ret (.some (.var 1))) .nil)))
def f__law_rows : Fd := ⟨1, 5, b__law_rows⟩
def b__law_orders : Stms := (.cons (.set 1 (.lst (.cons (.tup .nil) .nil))) (.cons (.for_ (.name 2) (.range (.cons (.var 0) .nil)) (.cons (.set 3 (.lst .nil)) (.cons (.for_ (.name 4) (.ex (.var 1)) (.cons (.mut .extend 3 (.cons (.comp (.bin .add (.var 4) (.tup (.cons (.var 5) .nil))) (.name 5) (.range (.cons (.var 0) .nil)) (.some (.cmp .notin (.var 5) (.var 4))) [5]) .nil) none) .nil)) (.cons (.set 1 (.var 3)) .nil)))) (.cons (.ret (.some (.var 1))) .nil)))
def f__law_orders : Fd := ⟨1, 6, b__law_orders⟩
def b__law_turns : Stms := (.cons (.set 1 (.lst (.cons (.tup .nil) .nil))) (.cons (.for_ (.name 2) (.range (.cons (.var 0) .nil)) (.cons (.set 1 (.bin .add (.var 1) (.comp (.bin .add (.var 6) (.tup (.cons (.var 2) .nil))) (.name 6) (.ex (.var 1)) .none [6]))) .nil)) (.cons (.set 3 (.lst .nil)) (.cons (.for_ (.name 4) (.ex (.call i__law_orders (.cons (.var 0) .nil))) (.cons (.for_ (.name 5) (.ex (.blt .sorted (.cons (.var 1) .nil))) (.cons (.mut .extend 3 (.cons (.lst (.cons (.tup (.cons (.var 4) (.cons (.var 5) (.cons (.const (.str [48])) .nil)))) (.cons (.tup (.cons (.var 4) (.cons (.var 5) (.cons (.const (.str [49])) .nil)))) .nil))) .nil) none) .nil)) .nil)) (.cons (.ret (.some (.var 3))) .nil)))))
def f__law_turns : Fd := ⟨1, 7, b__law_turns⟩
def b__law_led : Stms := (.cons (.unp [3, 4, 5] (.var 1)) (.cons (.par [6, 7] (.cons (.call i__law_rows (.cons (.blt .len (.cons (.var 3) .nil)) .nil)) (.cons (.const (.str [])) .nil))) (.cons (.for_ (.name 2) (.ex (.var 6)) (.cons (.set 8 (.mth .join (.const (.str [])) (.cons (.comp (.ite (.cmp .isin (.var 10) (.var 4)) (.ite (.cmp .eq (.var 11) (.const (.str [48]))) (.const (.str [49])) (.const (.str [48]))) (.var 11)) (.tup [10, 11]) (.enum (.var 2)) .none [10, 11]) .nil))) (.cons (.set 9 (.idx (.var 0) (.mth .index (.var 6) (.cons (.mth .join (.const (.str [])) (.cons (.comp (.idx (.var 8) (.var 12)) (.name 12) (.ex (.var 3)) .none [12]) .nil)) .nil)))) (.cons (.set 7 (.bin .add (.var 7) (.ite (.cmp .eq (.var 5) (.const (.str [48]))) (.var 9) (.ite (.cmp .eq (.var 9) (.const (.str [48]))) (.const (.str [49])) (.const (.str [48])))))) .nil)))) (.cons (.ret (.some (.var 7))) .nil))))
def f__law_led : Fd := ⟨2, 13, b__law_led⟩
def b__law_word : Stms := (.cons (.set 1 (.const (.str [108, 101, 116]))) (.cons (.try_ (.cons (.expr (.act 0)) .nil) k_GateError (some 2) (.cons (.set 3 (.lst (.cons (.isx 2 k_NoGate) (.cons (.isx 2 k_NoPair) .nil)))) (.cons (.set 1 (.const (.str [111, 116, 104, 101, 114]))) (.cons (.ifs (.and (.cmp .eq (.mth .count (.var 3) (.cons (.const (.bl true)) .nil)) (.const (.int 1))) (.isx 2 k_ValueError)) (.cons (.set 1 (.idx (.lst (.cons (.const (.str [103, 97, 116, 101])) (.cons (.const (.str [112, 97, 105, 114])) .nil))) (.mth .index (.var 3) (.cons (.const (.bl true)) .nil)))) .nil) .nil) .nil)))) (.cons (.ret (.some (.var 1))) .nil)))
def f__law_word : Fd := ⟨1, 4, b__law_word⟩
def b__law_is_family_right : Stms := (.cons (.set 2 (.comp (.tup (.cons (.call i__law_led (.cons (.var 0) (.cons (.var 6) .nil))) (.cons (.var 6) .nil))) (.name 6) (.ex (.var 1)) .none [6])) (.cons (.set 3 (.blt .sorted (.cons (.blt .dict (.cons (.var 2) .nil)) .nil))) (.cons (.ifs (.or (.cmp .ne (.blt .reprT (.cons (.call i_family (.cons (.var 0) .nil)) .nil)) (.blt .reprT (.cons (.blt .tuple (.cons (.var 3) .nil)) .nil))) (.cmp .ne (.blt .reprT (.cons (.call i_plain (.cons (.var 0) .nil)) .nil)) (.blt .reprT (.cons (.idx (.var 3) (.const (.int 0))) .nil)))) (.cons (.ret (.some (.const (.bl false)))) .nil) .nil) (.cons (.set 4 (.comp (.var 6) (.tup [7, 6]) (.ex (.var 2)) (.some (.cmp .eq (.var 7) (.idx (.var 3) (.const (.int 0))))) [7, 6])) (.cons (.set 5 (.comp (.var 6) (.tup [7, 6]) (.ex (.var 2)) (.some (.cmp .eq (.var 7) (.var 0))) [7, 6])) (.cons (.ifs (.or (.cmp .ne (.blt .reprT (.cons (.call i_turn_to_plain (.cons (.var 0) .nil)) .nil)) (.blt .reprT (.cons (.idx (.var 4) (.const (.int 0))) .nil))) (.cmp .ne (.blt .reprT (.cons (.call i_keepers (.cons (.var 0) .nil)) .nil)) (.blt .reprT (.cons (.blt .tuple (.cons (.var 5) .nil)) .nil)))) (.cons (.ret (.some (.const (.bl false)))) .nil) .nil) (.cons (.ifs (.cmp .ne (.bin .mul (.blt .len (.cons (.var 3) .nil)) (.blt .len (.cons (.var 5) .nil))) (.blt .len (.cons (.var 1) .nil))) (.cons (.ret (.some (.const (.bl false)))) .nil) .nil) (.cons (.ret (.some (.cmp .eq (.bin .mul (.blt .len (.cons (.call i_family (.cons (.var 0) .nil)) .nil)) (.blt .len (.cons (.call i_keepers (.cons (.var 0) .nil)) .nil))) (.call i_turns_many (.cons (.blt .len (.cons (.idx (.idx (.var 1) (.const (.int 0))) (.const (.int 0))) .nil)) .nil))))) .nil))))))))
def f__law_is_family_right : Fd := ⟨2, 8, b__law_is_family_right⟩
def b__law_is_between_right : Stms := (.cons (.set 3 (.comp (.var 4) (.name 4) (.ex (.var 2)) (.some (.cmp .eq (.call i__law_led (.cons (.var 0) (.cons (.var 4) .nil))) (.var 1))) [4])) (.cons (.ret (.some (.cmp .eq (.blt .reprT (.cons (.call i_turn_between (.cons (.var 0) (.cons (.var 1) .nil))) .nil)) (.blt .reprT (.cons (.ite (.cmp .gt (.blt .len (.cons (.var 3) .nil)) (.const (.int 0))) (.idx (.var 3) (.const (.int 0))) (.const .non)) .nil))))) .nil))
def f__law_is_between_right : Fd := ⟨3, 5, b__law_is_between_right⟩
def b__law_is_kept : Stms := (.cons (.par [4, 5] (.cons (.call i_led_by (.cons (.var 1) (.cons (.var 3) .nil))) (.cons (.call i__law_led (.cons (.var 2) (.cons (.var 3) .nil))) .nil))) (.cons (.ifs (.or (.cmp .ne (.blt .len (.cons (.call i_needed (.cons (.var 4) .nil)) .nil)) (.blt .len (.cons (.call i_needed (.cons (.var 1) .nil)) .nil))) (.cmp .ne (.blt .max (.cons (.call i_degree (.cons (.var 4) .nil)) (.cons (.const (.int 0)) .nil))) (.blt .max (.cons (.call i_degree (.cons (.var 1) .nil)) (.cons (.const (.int 0)) .nil))))) (.cons (.ret (.some (.const (.bl false)))) .nil) .nil) (.cons (.ifs (.or (.cmp .ne (.call i_is_sum (.cons (.var 4) .nil)) (.call i_is_sum (.cons (.var 1) .nil))) (.cmp .ne (.call i_far (.cons (.var 4) (.cons (.var 5) .nil))) (.call i_far (.cons (.var 1) (.cons (.var 2) .nil))))) (.cons (.ret (.some (.const (.bl false)))) .nil) .nil) (.cons (.ret (.some (.and (.cmp .eq (.call i_plain (.cons (.var 4) .nil)) (.call i_plain (.cons (.var 1) .nil))) (.cmp .eq (.call i_family (.cons (.var 4) .nil)) (.call i_family (.cons (.var 1) .nil)))))) .nil))))
def f__law_is_kept : Fd := ⟨4, 6, b__law_is_kept⟩
def b__law_are_turns : Stms := (.cons (.par [4, 5] (.cons (.call i_moved (.cons (.var 0) (.cons (.var 1) .nil))) (.cons (.lrange true (.cons (.blt .len (.cons (.var 1) .nil)) .nil)) .nil))) (.cons (.ifs (.or (.cmp .ne (.var 4) (.call i__law_led (.cons (.var 0) (.cons (.tup (.cons (.var 1) (.cons (.tup .nil) (.cons (.const (.str [48])) .nil)))) .nil)))) (.cmp .ne (.call i_turned (.cons (.var 0) .nil)) (.call i__law_led (.cons (.var 0) (.cons (.tup (.cons (.var 5) (.cons (.tup .nil) (.cons (.const (.str [49])) .nil)))) .nil))))) (.cons (.ret (.some (.const (.bl false)))) .nil) .nil) (.cons (.ifs (.or (.cmp .isnot (.call i_are_kin (.cons (.var 0) (.cons (.var 4) .nil))) (.const (.bl true))) (.cmp .ne (.call i_plain (.cons (.call i_plain_kin (.cons (.var 0) .nil)) .nil)) (.call i_plain (.cons (.var 0) .nil)))) (.cons (.ret (.some (.const (.bl false)))) .nil) .nil) (.cons (.for_ (.name 3) (.ex (.var 2)) (.cons (.set 4 (.call i_flipped (.cons (.var 4) (.cons (.var 3) .nil)))) .nil)) (.cons (.ret (.some (.and (.cmp .eq (.call i_led_by (.cons (.var 0) (.cons (.tup (.cons (.var 1) (.cons (.var 2) (.cons (.const (.str [48])) .nil)))) .nil))) (.var 4)) (.cmp .eq (.call i_led_by (.cons (.var 0) (.cons (.tup (.cons (.var 1) (.cons (.var 2) (.cons (.const (.str [49])) .nil)))) .nil))) (.call i_turned (.cons (.var 4) .nil)))))) .nil)))))
def f__law_are_turns : Fd := ⟨3, 6, b__law_are_turns⟩
def b_law : Stms := (.cons (.set 1 (.call i__law_hand (.cons (.var 0) .nil))) (.cons (.for_ (.name 2) (.range (.cons (.const (.int 2)) .nil)) (.cons (.set 3 (.call i__law_any (.cons (.var 1) (.cons (.lst (.cons (.const (.int 0)) (.cons (.const (.int 1)) (.cons (.const (.int 2)) (.cons (.const (.int 2)) (.cons (.const (.int 3)) (.cons (.const (.int 3)) .nil))))))) .nil)))) (.cons (.unp [9, 10] (.tup (.cons (.call i__law_turns (.cons (.var 3) .nil)) (.cons (.call i__law_gate (.cons (.var 1) (.cons (.var 3) .nil))) .nil)))) (.cons (.set 4 (.call i__law_any (.cons (.var 1) (.cons (.var 9) .nil)))) (.cons (.set 5 (.call i__law_any (.cons (.var 1) (.cons (.lst (.cons (.call i__law_gate (.cons (.var 1) (.cons (.var 3) .nil))) (.cons (.call i__law_led (.cons (.var 10) (.cons (.var 4) .nil))) .nil))) .nil)))) (.cons (.ifs (.or (.not (.call i__law_is_family_right (.cons (.var 10) (.cons (.var 9) .nil)))) (.not (.call i__law_is_between_right (.cons (.var 10) (.cons (.var 5) (.cons (.var 9) .nil)))))) (.cons (.ret (.some (.const (.bl false)))) .nil) .nil) (.cons (.ifs (.or (.not (.call i__law_is_kept (.cons (.var 1) (.cons (.var 10) (.cons (.var 5) (.cons (.var 4) .nil)))))) (.not (.call i__law_are_turns (.cons (.var 10) (.cons (.idx (.var 4) (.const (.int 0))) (.cons (.idx (.var 4) (.const (.int 1))) .nil)))))) (.cons (.ret (.some (.const (.bl false)))) .nil) .nil) (.cons (.set 6 (.call i__law_any (.cons (.var 1) (.cons (.lst (.cons (.const .non) (.cons (.const (.str [])) (.cons (.const (.str [50])) (.cons (.const (.str [48, 49, 49])) (.cons (.const (.str [48, 49, 48, 49, 48])) (.cons (.const (.str [48, 97])) (.cons (.const (.int 0)) (.cons (.tup (.cons (.const (.str [48])) .nil)) (.cons (.bin .mul (.const (.str [48, 49])) (.const (.int 8))) (.cons (.lst (.cons (.var 10) .nil)) .nil))))))))))) .nil)))) (.cons (.set 7 (.call i__law_gate (.cons (.var 1) (.cons (.bin .mod (.blt .int (.cons (.bin .add (.bin .add (.var 3) (.const (.int 1))) (.call i__law_draw (.cons (.var 1) (.cons (.const (.int 3)) .nil)))) .nil)) (.const (.int 4))) .nil)))) (.cons (.set 8 (.lst (.cons (.wcall i__law_word (.call i_family (.cons (.var 6) .nil))) .nil))) (.cons (.mut .append 8 (.cons (.wcall i__law_word (.call i_plain (.cons (.var 6) .nil))) .nil) none) (.cons (.mut .append 8 (.cons (.wcall i__law_word (.call i_turn_to_plain (.cons (.var 6) .nil))) .nil) none) (.cons (.mut .append 8 (.cons (.wcall i__law_word (.call i_keepers (.cons (.var 6) .nil))) .nil) none) (.cons (.mut .append 8 (.cons (.wcall i__law_word (.call i_turn_between (.cons (.var 6) (.cons (.var 7) .nil)))) .nil) none) (.cons (.mut .append 8 (.cons (.wcall i__law_word (.call i_turn_between (.cons (.var 10) (.cons (.var 6) .nil)))) .nil) none) (.cons (.mut .append 8 (.cons (.wcall i__law_word (.call i_turn_between (.cons (.var 10) (.cons (.var 7) .nil)))) .nil) none) (.cons (.ifs (.cmp .ne (.var 8) (.bin .add (.bin .mul (.lst (.cons (.const (.str [103, 97, 116, 101])) .nil)) (.const (.int 6))) (.lst (.cons (.const (.str [112, 97, 105, 114])) .nil)))) (.cons (.ret (.some (.const (.bl false)))) .nil) .nil) .nil))))))))))))))))) (.cons (.ret (.some (.const (.bl true)))) .nil)))
def f_law : Fd := ⟨1, 11, b_law⟩
def Pl : List Fd := [f_is_integer, f_is_within, f_is_sized, f_is_lot, f_is_bit, f_is_order, f_all_orders, f_rows_of, f_number_of, f_other_bit, f_turned_row, f_flipped_row, f_lots_of, f_by_size, f_is_gate, f_check_gate, f_raw_ins, f_raw_tells, f_check_many, f_check_place, f_raw_of, f_raw_turned, f_turned, f_raw_flipped, f_flipped, f_raw_moved, f_check_order, f_moved, f_raw_needed, f_needed, f_raw_kin, f_plain_kin, f_are_kin, f_is_turn_of, f_check_turn, f_raw_led, f_led_by, f_all_turns, f_turns_many, f_raw_family, f_family, f_plain, f_raw_between, f_turn_to_plain, f_keepers, f_turn_between, f_lot_of_row, f_is_below, f_raw_sums, f_raw_degree, f_degree, f_check_two, f_raw_is_sum, f_is_sum, f_raw_far, f_far, f__law_hand, f__law_draw, f__law_any, f__law_gate, f__law_rows, f__law_orders, f__law_turns, f__law_led, f__law_word, f__law_is_family_right, f__law_is_between_right, f__law_is_kept, f__law_are_turns, f_law]
theorem P_is_integer : Pl[i_is_integer]? = some ⟨1, 1, b_is_integer⟩ := rfl
theorem P_is_within : Pl[i_is_within]? = some ⟨3, 3, b_is_within⟩ := rfl
theorem P_is_sized : Pl[i_is_sized]? = some ⟨3, 3, b_is_sized⟩ := rfl
theorem P_is_lot : Pl[i_is_lot]? = some ⟨2, 4, b_is_lot⟩ := rfl
theorem P_is_bit : Pl[i_is_bit]? = some ⟨1, 1, b_is_bit⟩ := rfl
theorem P_is_order : Pl[i_is_order]? = some ⟨2, 3, b_is_order⟩ := rfl
theorem P_all_orders : Pl[i_all_orders]? = some ⟨1, 6, b_all_orders⟩ := rfl
theorem P_rows_of : Pl[i_rows_of]? = some ⟨1, 5, b_rows_of⟩ := rfl
theorem P_number_of : Pl[i_number_of]? = some ⟨1, 3, b_number_of⟩ := rfl
theorem P_other_bit : Pl[i_other_bit]? = some ⟨1, 1, b_other_bit⟩ := rfl
theorem P_turned_row : Pl[i_turned_row]? = some ⟨1, 2, b_turned_row⟩ := rfl
theorem P_flipped_row : Pl[i_flipped_row]? = some ⟨2, 2, b_flipped_row⟩ := rfl
theorem P_lots_of : Pl[i_lots_of]? = some ⟨1, 5, b_lots_of⟩ := rfl
theorem P_by_size : Pl[i_by_size]? = some ⟨1, 1, b_by_size⟩ := rfl
theorem P_is_gate : Pl[i_is_gate]? = some ⟨1, 2, b_is_gate⟩ := rfl
theorem P_check_gate : Pl[i_check_gate]? = some ⟨1, 1, b_check_gate⟩ := rfl
theorem P_raw_ins : Pl[i_raw_ins]? = some ⟨1, 1, b_raw_ins⟩ := rfl
theorem P_raw_tells : Pl[i_raw_tells]? = some ⟨2, 2, b_raw_tells⟩ := rfl
theorem P_check_many : Pl[i_check_many]? = some ⟨1, 1, b_check_many⟩ := rfl
theorem P_check_place : Pl[i_check_place]? = some ⟨2, 2, b_check_place⟩ := rfl
theorem P_raw_of : Pl[i_raw_of]? = some ⟨2, 3, b_raw_of⟩ := rfl
theorem P_raw_turned : Pl[i_raw_turned]? = some ⟨1, 1, b_raw_turned⟩ := rfl
theorem P_turned : Pl[i_turned]? = some ⟨1, 1, b_turned⟩ := rfl
theorem P_raw_flipped : Pl[i_raw_flipped]? = some ⟨2, 5, b_raw_flipped⟩ := rfl
theorem P_flipped : Pl[i_flipped]? = some ⟨2, 2, b_flipped⟩ := rfl
theorem P_raw_moved : Pl[i_raw_moved]? = some ⟨2, 5, b_raw_moved⟩ := rfl
theorem P_check_order : Pl[i_check_order]? = some ⟨2, 2, b_check_order⟩ := rfl
theorem P_moved : Pl[i_moved]? = some ⟨2, 2, b_moved⟩ := rfl
theorem P_raw_needed : Pl[i_raw_needed]? = some ⟨1, 2, b_raw_needed⟩ := rfl
theorem P_needed : Pl[i_needed]? = some ⟨1, 1, b_needed⟩ := rfl
theorem P_raw_kin : Pl[i_raw_kin]? = some ⟨1, 2, b_raw_kin⟩ := rfl
theorem P_plain_kin : Pl[i_plain_kin]? = some ⟨1, 1, b_plain_kin⟩ := rfl
theorem P_are_kin : Pl[i_are_kin]? = some ⟨2, 2, b_are_kin⟩ := rfl
theorem P_is_turn_of : Pl[i_is_turn_of]? = some ⟨2, 2, b_is_turn_of⟩ := rfl
theorem P_check_turn : Pl[i_check_turn]? = some ⟨2, 2, b_check_turn⟩ := rfl
theorem P_raw_led : Pl[i_raw_led]? = some ⟨2, 7, b_raw_led⟩ := rfl
theorem P_led_by : Pl[i_led_by]? = some ⟨2, 2, b_led_by⟩ := rfl
theorem P_all_turns : Pl[i_all_turns]? = some ⟨1, 4, b_all_turns⟩ := rfl
theorem P_turns_many : Pl[i_turns_many]? = some ⟨1, 1, b_turns_many⟩ := rfl
theorem P_raw_family : Pl[i_raw_family]? = some ⟨1, 2, b_raw_family⟩ := rfl
theorem P_family : Pl[i_family]? = some ⟨1, 1, b_family⟩ := rfl
theorem P_plain : Pl[i_plain]? = some ⟨1, 1, b_plain⟩ := rfl
theorem P_raw_between : Pl[i_raw_between]? = some ⟨2, 3, b_raw_between⟩ := rfl
theorem P_turn_to_plain : Pl[i_turn_to_plain]? = some ⟨1, 1, b_turn_to_plain⟩ := rfl
theorem P_keepers : Pl[i_keepers]? = some ⟨1, 2, b_keepers⟩ := rfl
theorem P_turn_between : Pl[i_turn_between]? = some ⟨2, 2, b_turn_between⟩ := rfl
theorem P_lot_of_row : Pl[i_lot_of_row]? = some ⟨1, 3, b_lot_of_row⟩ := rfl
theorem P_is_below : Pl[i_is_below]? = some ⟨2, 4, b_is_below⟩ := rfl
theorem P_raw_sums : Pl[i_raw_sums]? = some ⟨1, 6, b_raw_sums⟩ := rfl
theorem P_raw_degree : Pl[i_raw_degree]? = some ⟨1, 2, b_raw_degree⟩ := rfl
theorem P_degree : Pl[i_degree]? = some ⟨1, 1, b_degree⟩ := rfl
theorem P_check_two : Pl[i_check_two]? = some ⟨2, 2, b_check_two⟩ := rfl
theorem P_raw_is_sum : Pl[i_raw_is_sum]? = some ⟨1, 1, b_raw_is_sum⟩ := rfl
theorem P_is_sum : Pl[i_is_sum]? = some ⟨1, 1, b_is_sum⟩ := rfl
theorem P_raw_far : Pl[i_raw_far]? = some ⟨2, 4, b_raw_far⟩ := rfl
theorem P_far : Pl[i_far]? = some ⟨2, 2, b_far⟩ := rfl
theorem P__law_hand : Pl[i__law_hand]? = some ⟨1, 3, b__law_hand⟩ := rfl
theorem P__law_draw : Pl[i__law_draw]? = some ⟨2, 5, b__law_draw⟩ := rfl
theorem P__law_any : Pl[i__law_any]? = some ⟨2, 2, b__law_any⟩ := rfl
theorem P__law_gate : Pl[i__law_gate]? = some ⟨2, 3, b__law_gate⟩ := rfl
theorem P__law_rows : Pl[i__law_rows]? = some ⟨1, 5, b__law_rows⟩ := rfl
theorem P__law_orders : Pl[i__law_orders]? = some ⟨1, 6, b__law_orders⟩ := rfl
theorem P__law_turns : Pl[i__law_turns]? = some ⟨1, 7, b__law_turns⟩ := rfl
theorem P__law_led : Pl[i__law_led]? = some ⟨2, 13, b__law_led⟩ := rfl
theorem P__law_word : Pl[i__law_word]? = some ⟨1, 4, b__law_word⟩ := rfl
theorem P__law_is_family_right : Pl[i__law_is_family_right]? = some ⟨2, 8, b__law_is_family_right⟩ := rfl
theorem P__law_is_between_right : Pl[i__law_is_between_right]? = some ⟨3, 5, b__law_is_between_right⟩ := rfl
theorem P__law_is_kept : Pl[i__law_is_kept]? = some ⟨4, 6, b__law_is_kept⟩ := rfl
theorem P__law_are_turns : Pl[i__law_are_turns]? = some ⟨3, 6, b__law_are_turns⟩ := rfl
theorem P_law : Pl[i_law]? = some ⟨1, 11, b_law⟩ := rfl
def ks : List D := [(.str [48, 49]), (.int 3), (.kdic [[], [48], [49], [48, 48], [48, 49], [49, 48], [49, 49], [48, 48, 48], [48, 48, 49], [48, 49, 48], [48, 49, 49], [49, 48, 48], [49, 48, 49], [49, 49, 48], [49, 49, 49]] [(.int 0), (.int 0), (.int 1), (.int 0), (.int 1), (.int 2), (.int 3), (.int 0), (.int 1), (.int 2), (.int 3), (.int 4), (.int 5), (.int 6), (.int 7)]), (.tup [(.int 1), (.int 2), (.int 4), (.int 8)])]
def v_BITS : D := (.str [48, 49])
theorem K_BITS : ks[g_BITS]? = some v_BITS := rfl
def v_MOST_INPUTS : D := (.int 3)
theorem K_MOST_INPUTS : ks[g_MOST_INPUTS]? = some v_MOST_INPUTS := rfl
def v_PLACES : D := (.kdic [[], [48], [49], [48, 48], [48, 49], [49, 48], [49, 49], [48, 48, 48], [48, 48, 49], [48, 49, 48], [48, 49, 49], [49, 48, 48], [49, 48, 49], [49, 49, 48], [49, 49, 49]] [(.int 0), (.int 0), (.int 1), (.int 0), (.int 1), (.int 2), (.int 3), (.int 0), (.int 1), (.int 2), (.int 3), (.int 4), (.int 5), (.int 6), (.int 7)])
theorem K_PLACES : ks[g_PLACES]? = some v_PLACES := rfl
def v_SIZES : D := (.tup [(.int 1), (.int 2), (.int 4), (.int 8)])
theorem K_SIZES : ks[g_SIZES]? = some v_SIZES := rfl
def subT : List (List Bool) := [[true, false, false, true], [true, true, false, true], [true, false, false, true], [true, false, false, true], [true, false, false, true], [true, false, true, true], [true, false, false, true]]
def sub (q j : Nat) : Bool := (subT.getD (if q < 7 then q else 0) []).getD j false
theorem sub_es : ∀ q j, sub q j = sub (if q < 7 then q else 0) j := fun q j => by
  unfold sub
  by_cases h : q < 7 <;> simp [h]
end Kb.Pr

set_option Elab.async false
set_option linter.all false
set_option maxRecDepth 100000
set_option maxHeartbeats 2000000
namespace Kb.Pr
open Kb
def HandOk (hp : List Ob) : Prop := ∃ (cells : List Int) (a b c e : Int), hp = [.lst [.lst (cells.map .int), .int a, .int b, .int c, .int e]] ∧ 0 ≤ a
theorem i64_fmod (x : Int) {m : Int} (h : 0 < m) (h2 : m < 2 ^ 40) : isInt64 (x.fmod m) = true := by
  have := Int.fmod_nonneg_of_pos x h
  have := Int.fmod_lt_of_pos x h
  unfold isInt64
  simp
  omega
theorem draw {g : Nat} {hp : List Ob} {below : Int} {Q E} (H : HandOk hp) (h1 : 1 ≤ below) (h2 : below < 1073741824) (k : ∀ d hp', 0 ≤ d → d < below → HandOk hp' → Q (.val (.int d)) hp') : Fn (Run sub ks Pl (g + 1) i__law_draw [.ref 0, .int below] none hp) Q E := by
  obtain ⟨cells, a, b, c, e, rfl, ha⟩ := H
  apply fn2 P__law_draw
  have f1 : ∀ x : Int, isInt64 (x.fmod 2147483647) = true := fun x => i64_fmod x (by decide) (by decide)
  have f2 : isInt64 48271 = true := by decide
  have f3 : isInt64 69621 = true := by decide
  have f4 : isInt64 7919 = true := by decide
  have f5 : ¬ below = 0 := by omega
  have f6 : below.natAbs < 1073741824 := by omega
  have f7 : ∀ x : Int, 0 ≤ x.fmod below := fun x => Int.fmod_nonneg_of_pos x (by omega)
  have f8 : ∀ x : Int, x.fmod below < below := fun x => Int.fmod_lt_of_pos x (by omega)
  have ok : ∀ a b c e : Int, 0 ≤ a → HandOk [.lst [.lst (cells.map .int), .int a, .int b, .int c, .int e]] := fun a b c e h => ⟨cells, a, b, c, e, rfl, h⟩
  by_cases hb : b = 0
  · by_cases hl : a < cells.length
    · simp [b__law_draw, nth, ixOf, hb, hl, ha, f1, f2, f3, f4, f5, f6]
      split <;> (try split) <;> (refine k _ _ (f7 _) (f8 _) (ok _ _ _ _ ?_) <;> omega)
    · simp [b__law_draw, nth, ixOf, hb, hl, f1, f2, f3, f4, f5, f6]
      exact k _ _ (f7 _) (f8 _) (ok _ _ _ _ ha)
  · by_cases hc0 : 0 < b
    · simp [b__law_draw, nth, ixOf, hb, f1, f2, f3, f4, f5, f6, hc0]
      exact k _ _ (f7 _) (f8 _) (ok _ _ _ _ ha)
    · simp [b__law_draw, nth, ixOf, hb, f1, f2, f3, f4, f5, f6, hc0]
      exact k _ _ (f7 _) (f8 _) (ok _ _ _ _ ha)
theorem any {g : Nat} {hp : List Ob} {xs : List D} {Q E} (H : HandOk hp) (h1 : xs ≠ []) (h2 : xs.length ≤ 1000000) (k : ∀ d hp', d ∈ xs → HandOk hp' → Q (.val d) hp') : Fn (Run sub ks Pl (g + 2) i__law_any [.ref 0, .lst xs] none hp) Q E := by
  apply fn2 P__law_any
  simp [b__law_any]
  have : 0 < xs.length := List.length_pos_iff.mpr h1
  refine draw H (by omega) (by omega) fun d hp' d0 d1 H' => ?_
  have e : nth xs d = some (xs[d.toNat]'(by omega)) := by
    unfold nth
    rw [if_pos d0]
    exact List.getElem?_eq_getElem _
  simp [e]
  exact k _ _ (List.getElem_mem _) H'
theorem cut_len {A : Type} (xs : List A) (a b) : (cut xs a b).length ≤ xs.length := by
  unfold cut
  simp
  omega
theorem hand {g : Nat} {ns : List Int} {Q E} (hn : ns.length ≤ 63) (k : ∀ hp', HandOk hp' → Q (.val (.ref 0)) hp') : Fn (Run sub ks Pl (g + 1) i__law_hand [.scr ns] none []) Q E := by
  apply fn1 P__law_hand
  simp [b__law_hand]
  have hl : (cut ns none (some 63)).length ≤ line := Nat.le_trans (cut_len ..) (by simp; omega)
  refine wp_blkA (fun z => .int (if z < 0 then -z else z)) hl (fun z hz => ?_) ?_
  · simp [clr]
  · simp [bck, clr, isInt64]
    have e : ((cut ns none (some 63)).map fun z => D.int (if z < 0 then -z else z)) = ((cut ns none (some 63)).map fun z => if z < 0 then -z else z).map D.int := by simp [Function.comp_def]
    rw [e]
    exact k _ ⟨_, _, _, _, _, rfl, by omega⟩
/-! ### texts of bits -/
abbrev Bit (c : Nat) : Prop := c = 48 ∨ c = 49
def Bits (x : List Nat) : Prop := ∀ c ∈ x, Bit c
def allB : Nat → List (List Nat)
  | 0 => [[]]
  | n + 1 => (allB n).map (48 :: ·) ++ (allB n).map (49 :: ·)
theorem allB_len : ∀ n, (allB n).length = 2 ^ n
  | 0 => rfl
  | n + 1 => by simp [allB, allB_len n]; omega
theorem le3 {m : Nat} (h : m ≤ 3) : m = 0 ∨ m = 1 ∨ m = 2 ∨ m = 3 := by omega
def rowsV : Nat → Sl
  | 0 => .own ((allB 0).map .str)
  | n + 1 => .val (.lst ((allB (n + 1)).map .str))
@[simp] theorem rowsV_d : ∀ m, (rowsV m).d = .lst ((allB m).map .str)
  | 0 => rfl
  | _ + 1 => rfl
theorem law_rows {g hp} {m : Nat} (h : m ≤ 3) : Run sub ks Pl (g + 1) i__law_rows [.int m] none hp = some (.ret (rowsV m) hp) := by
  rcases le3 h with rfl | rfl | rfl | rfl <;> kernel_rfl
theorem rangeD_len : ∀ (n : Nat) (a : Int), (rangeD n a).length = n
  | 0, _ => rfl
  | n + 1, a => by simp [rangeD, rangeD_len n]
theorem rangeD_get : ∀ (n : Nat) (a : Int) (i : Nat), i < n → (rangeD n a)[i]? = some (.int (a + i))
  | 0, _, _, h => by omega
  | n + 1, a, 0, h => by simp [rangeD]
  | n + 1, a, i + 1, h => by
    simp [rangeD, rangeD_get n (a + 1) i (by omega)]
    omega
theorem rangeD_lt (n : Nat) (a : Int) (i : Nat) (d : D) (h : (rangeD n a)[i]? = some d) : i < n ∧ d = .int (a + i) := by
  have hl := (List.getElem?_eq_some_iff.mp h).1
  rw [rangeD_len] at hl
  rw [rangeD_get n a i hl] at h
  cases h
  exact ⟨hl, rfl⟩
theorem sumLen_bits {x : List Nat} : sumLen (x.map fun c => [c]) = x.length := by
  induction x with
  | nil => rfl
  | cons c r ih => simp [sumLen, ih]; omega
theorem join_bits {x : List Nat} : joinS [] (x.map fun c => [c]) = x := by
  induction x with
  | nil => rfl
  | cons c r ih =>
    cases r with
    | nil => rfl
    | cons d t => simp [joinS] at ih ⊢; exact ih
/-- drawn bits -/
theorem draw_bits {g : Nat} {c : Cfg} {n : Nat} {own : List Nat} {l : List (Option Sl)} {hp : List Ob} {QS : Sl → S → Prop} {E} {f : D → M (Option D)} (H : HandOk hp) (hn : n ≤ 1000000)
    (hf : ∀ d hp, HandOk hp → Wp (f d) ⟨clr own l, hp⟩ (fun o s => clr own s.sl = clr own l ∧ ∃ b, Bit b ∧ o = some (.str [b]) ∧ HandOk s.hp) (fun _ _ _ => False))
    (k : ∀ x hp', Bits x → x.length = n → HandOk hp' → QS (.own (x.map fun c => .str [c])) ⟨bck l own (clr own l), hp'⟩) : Wp (blk own (rangeD n 0) f) ⟨l, hp⟩ QS E := by
  refine wp_blk (fun i ys hp => HandOk hp ∧ ∃ x : List Nat, Bits x ∧ x.length = i ∧ ys = x.map fun c => .str [c]) (by rw [rangeD_len]; simp; omega) ⟨H, [], (fun c h => nomatch h), rfl, rfl⟩ (fun i d ys hp e h => ?_) fun ys hp' h => ?_
  · obtain ⟨H, x, b, lx, rfl⟩ := h
    refine (hf d hp H).mono (fun o s' z => ?_) fun _ _ _ z => z
    obtain ⟨z1, b', z2, rfl, z3⟩ := z
    refine ⟨z1, z3, x ++ [b'], fun c hc => ?_, by simp [lx], by simp⟩
    rcases List.mem_append.mp hc with hc | hc
    · exact b c hc
    · have : c = b' := by simpa using hc
      rw [this]; exact z2
  · obtain ⟨H, x, b, lx, rfl⟩ := h
    rw [rangeD_len] at lx
    exact k x hp' b lx H
theorem any_bit {g : Nat} {hp : List Ob} {Q E} (H : HandOk hp) (k : ∀ b hp', Bit b → HandOk hp' → Q (.val (.str [b])) hp') : Fn (Run sub ks Pl (g + 2) i__law_any [.ref 0, .lst [.str [48], .str [49]]] none hp) Q E := by
  refine any H (by simp) (by simp) fun d hp' hd H' => ?_
  rcases List.mem_cons.mp hd with rfl | hd
  · exact k 48 hp' (.inl rfl) H'
  · have : d = .str [49] := by simpa using hd
    subst this
    exact k 49 hp' (.inr rfl) H'
theorem gate {g : Nat} {hp : List Ob} {m : Nat} {Q E} (hm : m ≤ 3) (H : HandOk hp) (k : ∀ x hp', Bits x → x.length = 2 ^ m → HandOk hp' → Q (.val (.str x)) hp') : Fn (Run sub ks Pl (g + 3) i__law_gate [.ref 0, .int m] none hp) Q E := by
  apply fn2 P__law_gate
  have l8 : 2 ^ m ≤ 2 ^ 3 := Nat.pow_le_pow_right (by decide) hm
  have e : ((2 : Int) ^ m).toNat = 2 ^ m := by rcases le3 hm with rfl | rfl | rfl | rfl <;> rfl
  have r : inRg ((2 : Int) ^ m) := by rcases le3 hm with rfl | rfl | rfl | rfl <;> (unfold inRg; decide)
  simp [b__law_gate, law_rows hm, allB_len, r, e]
  refine draw_bits (c := ⟨Run sub ks Pl (g + 2), sub, none, ks, none⟩) (g := g) (n := 2 ^ m) H (by omega) (fun d hp H => ?_) fun x hp' hx lx H' => ?_
  · simp [clr]
    refine any_bit H fun b hp' hb H' => ?_
    simp [clr, hb, H']
  · simp [bck, clr, sumLen_bits, lx, join_bits]
    exact ⟨by omega, k x hp' hx lx H'⟩
end Kb.Pr

set_option Elab.async false
set_option linter.all false
set_option maxRecDepth 100000
set_option maxHeartbeats 2000000
/-! k86: turns -/
namespace Kb.Pr
open Kb
structure Tn where
  o : List Nat
  f : List Nat
  b : Bool
  deriving DecidableEq
def natT (xs : List Nat) : D := .tup (xs.map fun n : Nat => .int n)
def bitC (b : Bool) : Nat := if b then 49 else 48
def Tn.d (t : Tn) : D := .tup [natT t.o, natT t.f, .str [bitC t.b]]
def ordL : Nat → List (List Nat)
  | 0 => [[]]
  | 1 => [[0]]
  | 2 => [[0, 1], [1, 0]]
  | _ => [[0, 1, 2], [0, 2, 1], [1, 0, 2], [1, 2, 0], [2, 0, 1], [2, 1, 0]]
def lotL : Nat → List (List Nat)
  | 0 => [[]]
  | 1 => [[], [0]]
  | 2 => [[], [0], [0, 1], [1]]
  | _ => [[], [0], [0, 1], [0, 1, 2], [0, 2], [1], [1, 2], [2]]
def turnsL (m : Nat) : List Tn := (ordL m).flatMap fun o => (lotL m).flatMap fun f => [⟨o, f, false⟩, ⟨o, f, true⟩]
theorem all_orders {g hp} {m : Nat} (h : m ≤ 3) : Run sub ks Pl (g + 1) i_all_orders [.int m] none hp = some (.ret (.own ((ordL m).map natT)) hp) := by
  rcases le3 h with rfl | rfl | rfl | rfl <;> kernel_rfl
theorem all_turns {g hp} {m : Nat} (h : m ≤ 3) : Run sub ks Pl (g + 3) i_all_turns [.int m] none hp = some (.ret (.own ((turnsL m).map Tn.d)) hp) := by
  rcases le3 h with rfl | rfl | rfl | rfl <;> kernel_rfl
theorem law_turns {g hp} {m : Nat} (h : m ≤ 3) : Run sub ks Pl (g + 2) i__law_turns [.int m] none hp = some (.ret (.own ((turnsL m).map Tn.d)) hp) := by
  rcases le3 h with rfl | rfl | rfl | rfl <;> kernel_rfl
theorem turns_many {g hp} {m : Nat} (h : m ≤ 3) : Run sub ks Pl (g + 5) i_turns_many [.int m] none hp = some (.ret (.val (.int (turnsL m).length)) hp) := by
  rcases le3 h with rfl | rfl | rfl | rfl <;> kernel_rfl
end Kb.Pr

set_option Elab.async false
set_option linter.all false
set_option maxRecDepth 100000
set_option maxHeartbeats 2000000
/-! k86: gates led by turns -/
namespace Kb.Pr
open Kb
def num (x : List Nat) : Nat := x.foldl (fun a c => 2 * a + (c - 48)) 0
def oth (c : Nat) : Nat := if c = 49 then 48 else 49
def othL (x : List Nat) : List Nat := x.map oth
def pick (g is : List Nat) : List Nat := is.map fun i => g.getD i 0
def flipAt (p : Nat) (row : List Nat) : List Nat := row.mapIdx fun i c => if i = p then oth c else c
def flipsAt (f row : List Nat) : List Nat := row.mapIdx fun i c => if i ∈ f then oth c else c
def movI (m : Nat) (o : List Nat) : List Nat := (allB m).map fun row => num (o.map fun p => row.getD p 0)
def flpI (m p : Nat) : List Nat := (allB m).map fun row => num (flipAt p row)
theorem all_of {A B : Type} {f g : A → B} {l : List A} (h : l.map f = l.map g) : ∀ a ∈ l, f a = g a := List.map_inj_left.mp h
/-- a gate of m inputs -/
structure Gt (m : Nat) (x : List Nat) : Prop where
  h : m ≤ 3
  l : x.length = 2 ^ m
  b : Bits x
theorem len_cases {m : Nat} {x : List Nat} (h : m ≤ 3) (hl : x.length = 2 ^ m) : (m = 0 ∧ ∃ a, x = [a]) ∨ (m = 1 ∧ ∃ a b, x = [a, b]) ∨ (m = 2 ∧ ∃ a b c d, x = [a, b, c, d]) ∨ (m = 3 ∧ ∃ a b c d e f g i, x = [a, b, c, d, e, f, g, i]) := by
  rcases le3 h with rfl | rfl | rfl | rfl
  · match x, hl with
    | [a], _ => exact .inl ⟨rfl, a, rfl⟩
  · match x, hl with
    | [a, b], _ => exact .inr (.inl ⟨rfl, a, b, rfl⟩)
  · match x, hl with
    | [a, b, c, d], _ => exact .inr (.inr (.inl ⟨rfl, a, b, c, d, rfl⟩))
  · match x, hl with
    | [a, b, c, d, e, f, g, i], _ => exact .inr (.inr (.inr ⟨rfl, a, b, c, d, e, f, g, i, rfl⟩))
theorem pick_len {g is : List Nat} : (pick g is).length = is.length := by simp [pick]
theorem allB_mem : ∀ {x : List Nat}, Bits x → x ∈ allB x.length
  | [], _ => by simp [allB]
  | c :: r, h => by
    have ih := allB_mem (x := r) fun d hd => h d (List.mem_cons_of_mem _ hd)
    rcases h c (List.mem_cons_self ..) with rfl | rfl <;> simp [allB, ih]
section
variable {g n : Nat} {hp : List Ob} {m : Nat} {x : List Nat}
theorem raw_ins (h : m ≤ 3) (hl : x.length = 2 ^ m) : Run sub ks Pl (g + 1) i_raw_ins [.str x] none hp = some (.ret (.val (.int m)) hp) := by
  rcases len_cases h hl with ⟨rfl, a, rfl⟩ | ⟨rfl, a, b, rfl⟩ | ⟨rfl, a, b, c, d, rfl⟩ | ⟨rfl, a, b, c, d, e, f, g, i, rfl⟩ <;> kernel_rfl
theorem fa1 {A : Type} {P : A → Prop} {a : A} {l : List A} (h : P a) (t : ∀ x ∈ l, P x) : ∀ x ∈ a :: l, P x := List.forall_mem_cons.mpr ⟨h, t⟩
theorem fa0 {A : Type} {P : A → Prop} : ∀ x ∈ ([] : List A), P x := fun x h => nomatch h
theorem raw_moved (h : m ≤ 3) (hl : x.length = 2 ^ m) : ∀ o ∈ ordL m, Run sub ks Pl (g + 3) i_raw_moved [.str x, natT o] none hp = some (.ret (.val (.str (pick x (movI m o)))) hp) := by
  rcases len_cases h hl with ⟨rfl, a, rfl⟩ | ⟨rfl, a, b, rfl⟩ | ⟨rfl, a, b, c, d, rfl⟩ | ⟨rfl, a, b, c, d, e, f, g, i, rfl⟩ <;> unfold ordL <;> (repeat' (first | exact fa0 | refine fa1 ?_ ?_)) <;> kernel_rfl
theorem raw_flipped (h : m ≤ 3) (hl : x.length = 2 ^ m) : ∀ p ∈ List.range m, Run sub ks Pl (g + 3) i_raw_flipped [.str x, .int (p : Nat)] none hp = some (.ret (.val (.str (pick x (flpI m p)))) hp) := by
  rcases len_cases h hl with ⟨rfl, a, rfl⟩ | ⟨rfl, a, b, rfl⟩ | ⟨rfl, a, b, c, d, rfl⟩ | ⟨rfl, a, b, c, d, e, f, g, i, rfl⟩
  · exact fa0
  · rw [show List.range 1 = [0] from rfl]; (repeat' (first | exact fa0 | refine fa1 ?_ ?_)) <;> kernel_rfl
  · rw [show List.range 2 = [0, 1] from rfl]; (repeat' (first | exact fa0 | refine fa1 ?_ ?_)) <;> kernel_rfl
  · rw [show List.range 3 = [0, 1, 2] from rfl]; (repeat' (first | exact fa0 | refine fa1 ?_ ?_)) <;> kernel_rfl
theorem sumLen_bitsf {A : Type} (f : A → Nat) (x : List A) : sumLen (x.map fun c => [f c]) = x.length := by
  have := sumLen_bits (x := x.map f)
  rw [List.map_map, List.length_map] at this
  exact this
theorem join_bitsf {A : Type} (f : A → Nat) (x : List A) : joinS [] (x.map fun c => [f c]) = x.map f := by
  have := join_bits (x := x.map f)
  rw [List.map_map] at this
  exact this
theorem other_bit {c : Nat} : Run sub ks Pl (g + 1) i_other_bit [.str [c]] none hp = some (.ret (.val (.str [oth c])) hp) := by
  apply Fn.eq
  apply fn1 P_other_bit
  simp [b_other_bit, oth]
  try (by_cases h : c = 49 <;> simp [h])
theorem turned_row (hl : x.length ≤ 1000) : Run sub ks Pl (g + 2) i_turned_row [.str x] none hp = some (.ret (.val (.str (othL x))) hp) := by
  apply Fn.eq
  apply fn1 P_turned_row
  simp [b_turned_row]
  refine wp_blkA (as := x) (j := fun c => .str [c]) (fun c => .str [oth c]) (by unfold line; omega) (fun c hc => ?_) ?_
  · simp [clr, other_bit]
  · simp [bck, clr, sumLen_bitsf oth, join_bitsf oth, othL]
    try omega
theorem raw_turned (hl : x.length ≤ 1000) : Run sub ks Pl (g + 3) i_raw_turned [.str x] none hp = some (.ret (.val (.str (othL x))) hp) := by
  apply Fn.eq
  apply fn1 P_raw_turned
  simp [b_raw_turned, turned_row hl]
/-! led -/
def step (m : Nat) (x : List Nat) (t : Tn) : List Nat := t.f.foldl (fun g p => pick g (flpI m p)) (pick x (movI m t.o))
def led (m : Nat) (x : List Nat) (t : Tn) : List Nat := if t.b then othL (step m x t) else step m x t
theorem movI_len {m o} : (movI m o).length = 2 ^ m := by simp [movI, allB_len]
theorem flpI_len {m o} : (flpI m o).length = 2 ^ m := by simp [flpI, allB_len]
theorem mem_turns {t : Tn} (h : t ∈ turnsL m) : t.o ∈ ordL m ∧ t.f ∈ lotL m := by
  unfold turnsL at h
  simp only [List.mem_flatMap, List.mem_cons, List.not_mem_nil, or_false] at h
  obtain ⟨o, ho, f, hf, rfl | rfl⟩ := h <;> exact ⟨ho, hf⟩
theorem lot_lt (h : m ≤ 3) : ∀ f ∈ lotL m, ∀ p ∈ f, p ∈ List.range m := by
  rcases le3 h with rfl | rfl | rfl | rfl <;> decide +kernel
theorem lot_len (h : m ≤ 3) : ∀ f ∈ lotL m, f.length ≤ 3 := by
  rcases le3 h with rfl | rfl | rfl | rfl <;> decide +kernel
theorem ord_len (h : m ≤ 3) : ∀ f ∈ ordL m, f.length = m := by
  rcases le3 h with rfl | rfl | rfl | rfl <;> decide +kernel
theorem foldl_len {m : Nat} : ∀ {f : List Nat} {x : List Nat}, x.length = 2 ^ m → (f.foldl (fun g p => pick g (flpI m p)) x).length = 2 ^ m
  | [], x, h => h
  | p :: f, x, h => foldl_len (f := f) (x := pick x (flpI m p)) (by rw [pick_len, flpI_len])
theorem step_len {t : Tn} : (step m x t).length = 2 ^ m := foldl_len (by rw [pick_len, movI_len])
theorem led_len {t : Tn} : (led m x t).length = 2 ^ m := by
  unfold led
  split <;> simp [othL, step_len]
theorem p8 (h : m ≤ 3) : 2 ^ m ≤ 8 := Nat.pow_le_pow_right (n := 2) (by decide) h
theorem raw_led (h : m ≤ 3) (hl : x.length = 2 ^ m) {t : Tn} (ht : t ∈ turnsL m) : Run sub ks Pl (g + 4) i_raw_led [.str x, t.d] none hp = some (.ret (.val (.str (led m x t))) hp) := by
  apply Fn.eq
  apply fn2 P_raw_led
  obtain ⟨ho, hf⟩ := mem_turns ht
  simp [b_raw_led, Tn.d, raw_moved h hl t.o ho, natT]
  rw [show D.tup (t.o.map fun n : Nat => .int n) = natT t.o from rfl, raw_moved h hl t.o ho]
  simp
  refine wp_for (fun i s => ∃ o, s = ⟨[some (.val (.str x)), some (.val t.d), some (.val (.str ((t.f.take i).foldl (fun g p => pick g (flpI m p)) (pick x (movI m t.o))))), o, some (.val (natT t.o)), some (.val (natT t.f)), some (.val (.str [bitC t.b]))], hp⟩) ⟨none, by simp [natT, Tn.d]⟩ (fun i d s hd hI => ?_) fun s hI => ?_
  · obtain ⟨o, rfl⟩ := hI
    rw [List.getElem?_map] at hd
    cases q : t.f[i]? with
    | none => rw [q] at hd; cases hd
    | some p =>
      rw [q] at hd
      cases hd
      have pm := lot_lt h t.f hf p (List.mem_of_getElem? q)
      have ln : ((t.f.take i).foldl (fun g p => pick g (flpI m p)) (pick x (movI m t.o))).length = 2 ^ m := foldl_len (by rw [pick_len, movI_len])
      simp [raw_flipped h ln p pm]
      rw [List.take_add_one, q]
      simp
  · obtain ⟨o, rfl⟩ := hI
    have p8 := p8 h
    have rt := raw_turned (g := g) (hp := hp) (x := step m x t) (by rw [step_len]; omega)
    have e : (List.take t.f.length t.f) = t.f := List.take_of_length_le (by omega)
    simp only [List.length_map, e]
    rw [show t.f.foldl (fun g p => pick g (flpI m p)) (pick x (movI m t.o)) = step m x t from rfl]
    cases c : t.b <;> simp [bitC, led, c, rt]
end
end Kb.Pr

set_option Elab.async false
set_option linter.all false
set_option maxRecDepth 100000
set_option maxHeartbeats 2000000
/-! k86: the law's leading -/
namespace Kb.Pr
open Kb
def hereE : Ex := .mth .join (.const (.str [])) (.cons (.comp (.ite (.cmp .isin (.var 10) (.var 4)) (.ite (.cmp .eq (.var 11) (.const (.str [48]))) (.const (.str [49])) (.const (.str [48]))) (.var 11)) (.tup [10, 11]) (.enum (.var 2)) .none [10, 11]) .nil)
def idxE : Ex := .idx (.var 0) (.mth .index (.var 6) (.cons (.mth .join (.const (.str [])) (.cons (.comp (.idx (.var 8) (.var 12)) (.name 12) (.ex (.var 3)) .none [12]) .nil)) .nil))
theorem b_led_eq : b__law_led = (.cons (.unp [3, 4, 5] (.var 1)) (.cons (.par [6, 7] (.cons (.call i__law_rows (.cons (.blt .len (.cons (.var 3) .nil)) .nil)) (.cons (.const (.str [])) .nil))) (.cons (.for_ (.name 2) (.ex (.var 6)) (.cons (.set 8 hereE) (.cons (.set 9 idxE) (.cons (.set 7 (.bin .add (.var 7) (.ite (.cmp .eq (.var 5) (.const (.str [48]))) (.var 9) (.ite (.cmp .eq (.var 9) (.const (.str [48]))) (.const (.str [49])) (.const (.str [48])))))) .nil)))) (.cons (.ret (.some (.var 7))) .nil)))) := rfl
theorem fa2 {A B : Type} {P : A → B → Prop} {l : List A} {k : List B} (h : ∀ a ∈ l, ∀ b ∈ k, P a b) (a : A) (b : B) (ha : a ∈ l) (hb : b ∈ k) : P a b := h a ha b hb
def tellAt (x o here : List Nat) : Nat := x.getD (num (o.map fun p => here.getD p 0)) 0
def fl2 (b : Bool) (c : Nat) : Nat := if b then (if c = 48 then 49 else 48) else c
def lawC (x : List Nat) (t : Tn) (row : List Nat) : Nat := fl2 t.b (tellAt x t.o (flipsAt t.f row))
section
variable {g : Nat} {hp : List Ob} {m : Nat} {x : List Nat} {c : Cfg} {s0 s1 s2 s3 s4 s5 s6 s7 s8 s9 s10 s11 s12 : Option Sl}
theorem here_ok (h : m ≤ 3) : ∀ row ∈ allB m, ∀ f ∈ lotL m, ev c hereE ⟨[s0, s1, some (.val (.str row)), s3, some (.val (natT f)), s5, s6, s7, s8, s9, none, none, s12], hp⟩ = some (.ok (.val (.str (flipsAt f row))) ⟨[s0, s1, some (.val (.str row)), s3, some (.val (natT f)), s5, s6, s7, s8, s9, none, none, s12], hp⟩) := by
  rcases le3 h with rfl | rfl | rfl | rfl
  · rw [show allB 0 = [[]] from rfl]; (repeat' (first | exact fa0 | refine fa1 ?_ ?_)) <;> kernel_rfl
  · rw [show allB 1 = [[48], [49]] from rfl]; unfold lotL; (repeat' (first | exact fa0 | refine fa1 ?_ ?_)) <;> kernel_rfl
  · rw [show allB 2 = [[48, 48], [48, 49], [49, 48], [49, 49]] from rfl]; unfold lotL; (repeat' (first | exact fa0 | refine fa1 ?_ ?_)) <;> kernel_rfl
  · rw [show allB 3 = [[48, 48, 48], [48, 48, 49], [48, 49, 48], [48, 49, 49], [49, 48, 48], [49, 48, 49], [49, 49, 48], [49, 49, 49]] from rfl]; unfold lotL; (repeat' (first | exact fa0 | refine fa1 ?_ ?_)) <;> kernel_rfl
theorem idx_ok (h : m ≤ 3) (hl : x.length = 2 ^ m) : ∀ here ∈ allB m, ∀ o ∈ ordL m, ev c idxE ⟨[some (.val (.str x)), s1, s2, some (.val (natT o)), s4, s5, some (.val (.lst ((allB m).map .str))), s7, some (.val (.str here)), s9, s10, s11, none], hp⟩ = some (.ok (.val (.str [tellAt x o here])) ⟨[some (.val (.str x)), s1, s2, some (.val (natT o)), s4, s5, some (.val (.lst ((allB m).map .str))), s7, some (.val (.str here)), s9, s10, s11, none], hp⟩) := by
  rcases len_cases h hl with ⟨rfl, a, rfl⟩ | ⟨rfl, a, b, rfl⟩ | ⟨rfl, a, b, c, d, rfl⟩ | ⟨rfl, a, b, c, d, e, f, g, i, rfl⟩
  · rw [show allB 0 = [[]] from rfl]; unfold ordL; (repeat' (first | exact fa0 | refine fa1 ?_ ?_)) <;> kernel_rfl
  · rw [show allB 1 = [[48], [49]] from rfl]; unfold ordL; (repeat' (first | exact fa0 | refine fa1 ?_ ?_)) <;> kernel_rfl
  · rw [show allB 2 = [[48, 48], [48, 49], [49, 48], [49, 49]] from rfl]; unfold ordL; (repeat' (first | exact fa0 | refine fa1 ?_ ?_)) <;> kernel_rfl
  · rw [show allB 3 = [[48, 48, 48], [48, 48, 49], [48, 49, 48], [48, 49, 49], [49, 48, 48], [49, 48, 49], [49, 49, 48], [49, 49, 49]] from rfl]; unfold ordL; (repeat' (first | exact fa0 | refine fa1 ?_ ?_)) <;> kernel_rfl
def fl (b : Bool) (c : Nat) : Nat := if b then oth c else c
def lawI (m : Nat) (t : Tn) : List Nat := (allB m).map fun row => num (t.o.map fun p => (flipsAt t.f row).getD p 0)
def permI (m : Nat) (t : Tn) : List Nat := t.f.foldl (fun is p => pick is (flpI m p)) (movI m t.o)
theorem law_perm (h : m ≤ 3) : ∀ t ∈ turnsL m, lawI m t = permI m t := by
  rcases le3 h with rfl | rfl | rfl | rfl <;> decide +kernel
theorem flp_lt (h : m ≤ 3) : ∀ p ∈ List.range m, ∀ j ∈ flpI m p, j < 2 ^ m := by
  rcases le3 h with rfl | rfl | rfl | rfl <;> decide +kernel
theorem perm_range (h : m ≤ 3) : ∀ t ∈ turnsL m, (permI m t).Perm (List.range (2 ^ m)) := by
  rcases le3 h with rfl | rfl | rfl | rfl <;> decide +kernel
theorem flips_mem (h : m ≤ 3) : ∀ row ∈ allB m, ∀ f ∈ lotL m, flipsAt f row ∈ allB m := by
  rcases le3 h with rfl | rfl | rfl | rfl <;> decide +kernel
theorem pick_pick {x is js : List Nat} (h : ∀ j ∈ js, j < is.length) : pick (pick x is) js = pick x (pick is js) := by
  unfold pick
  rw [List.map_map]
  refine List.map_congr_left fun j hj => ?_
  have := h j hj
  simp [List.getD_eq_getElem?_getD, List.getElem?_map, this]
theorem fold_pick {m : Nat} (h : m ≤ 3) {x : List Nat} : ∀ {f is : List Nat}, is.length = 2 ^ m → (∀ p ∈ f, p ∈ List.range m) → f.foldl (fun g p => pick g (flpI m p)) (pick x is) = pick x (f.foldl (fun is p => pick is (flpI m p)) is)
  | [], is, hl, hf => rfl
  | p :: f, is, hl, hf => by
    simp only [List.foldl_cons]
    rw [pick_pick (by rw [hl]; exact flp_lt h p (hf p (List.mem_cons_self ..)))]
    exact fold_pick h (by rw [pick_len, flpI_len]) fun q hq => hf q (List.mem_cons_of_mem _ hq)
theorem led_perm (h : m ≤ 3) {t : Tn} (ht : t ∈ turnsL m) : led m x t = (permI m t).map fun i => fl t.b (x.getD i 0) := by
  obtain ⟨ho, hf⟩ := mem_turns ht
  unfold led step
  rw [fold_pick h movI_len (lot_lt h t.f hf)]
  show (if t.b = true then othL (pick x (permI m t)) else pick x (permI m t)) = _
  cases t.b <;> simp [othL, pick, fl]
theorem getD_bit {x : List Nat} (hb : Bits x) {i : Nat} (h : i < x.length) : Bit (x.getD i 0) := by
  rw [List.getD_eq_getElem?_getD, List.getElem?_eq_getElem h]
  exact hb _ (List.getElem_mem _)
theorem led_law (h : m ≤ 3) (hl : x.length = 2 ^ m) (hb : Bits x) {t : Tn} (ht : t ∈ turnsL m) : ((allB m).map (lawC x t)) = led m x t := by
  rw [led_perm h ht, ← law_perm h t ht]
  unfold lawI
  rw [List.map_map]
  refine List.map_congr_left fun row hr => ?_
  have lt : num (t.o.map fun p => (flipsAt t.f row).getD p 0) < x.length := by
    have p := (perm_range h t ht).mem_iff (a := num (t.o.map fun p => (flipsAt t.f row).getD p 0))
    rw [List.mem_range, ← hl, ← law_perm h t ht] at p
    exact p.mp (List.mem_map.mpr ⟨row, hr, rfl⟩)
  simp only [Function.comp, lawC, tellAt]
  rcases getD_bit hb lt with e | e <;> rw [e] <;> cases t.b <;> rfl
theorem take_mapsucc {A B : Type} (f : A → B) {l : List A} {i : Nat} {a : A} (h : l[i]? = some a) : (l.map f).take (i + 1) = (l.map f).take i ++ [f a] := by
  rw [List.take_add_one, List.getElem?_map, h]
  rfl
theorem led_bits (h : m ≤ 3) (hl : x.length = 2 ^ m) (hb : Bits x) {t : Tn} (ht : t ∈ turnsL m) : Bits (led m x t) := by
  intro c hc
  rw [led_perm h ht] at hc
  obtain ⟨i, hi, rfl⟩ := List.mem_map.mp hc
  have := (perm_range h t ht).mem_iff.mp hi
  rw [List.mem_range, ← hl] at this
  have := getD_bit hb this
  unfold fl
  split
  · unfold oth Bit; split <;> simp
  · exact this
theorem law_led (hx : Gt m x) {t : Tn} (ht : t ∈ turnsL m) : Run sub ks Pl (g + 2) i__law_led [.str x, t.d] none hp = some (.ret (.val (.str (led m x t))) hp) := by
  obtain ⟨h, hl, hb⟩ := hx
  apply Fn.eq
  apply fn2 P__law_led
  obtain ⟨ho, hf⟩ := mem_turns ht
  have lo := ord_len h t.o ho
  have lr := law_rows (g := g) (hp := hp) h
  have p8 := p8 h
  have hv : rowsV m = .own ((allB m).map .str) ∨ rowsV m = .val (.lst ((allB m).map .str)) := by
    cases m with
    | zero => exact .inl rfl
    | succ n => exact .inr rfl
  rw [b_led_eq]
  generalize rowsV m = rv at hv lr
  simp [Tn.d, natT, lo, lr]
  rcases hv with rfl | rfl <;> simp
  all_goals
    refine wp_for (fun i s => ∃ o8 o9 o2, s = ⟨[some (.val (.str x)), some (.val t.d), o2, some (.val (natT t.o)), some (.val (natT t.f)), some (.val (.str [bitC t.b])), some (.val (.lst ((allB m).map .str))), some (.val (.str (((allB m).map (lawC x t)).take i))), o8, o9, none, none, none], hp⟩) ⟨none, none, none, ?_⟩ (fun i d s hd hI => ?_) fun s hI => ?_
    · simp [natT, Tn.d]
    · obtain ⟨o8, o9, o2, rfl⟩ := hI
      rw [List.getElem?_map] at hd
      cases q : (allB m)[i]? with
      | none => rw [q] at hd; cases hd
      | some row =>
        rw [q] at hd
        cases hd
        have hr := List.mem_of_getElem? q
        have il := (List.getElem?_eq_some_iff.mp q).1
        rw [allB_len] at il
        simp
        refine Wp.of_eq (here_ok h row hr t.f hf) ?_
        simp
        refine Wp.of_eq (idx_ok h hl _ (flips_mem h row hr t.f hf) t.o ho) ?_
        have tk := take_mapsucc (lawC x t) q
        rw [tk]
        unfold lawC
        cases c : t.b <;> simp [bitC, fl2]
        · omega
        · split <;> exact ⟨by omega, by assumption⟩
    · obtain ⟨o8, o9, o2, rfl⟩ := hI
      simp
      rw [List.take_of_length_le (by simp [allB_len])]
      exact led_law h hl hb ht
end
end Kb.Pr

set_option Elab.async false
set_option linter.all false
set_option maxRecDepth 100000
set_option maxHeartbeats 2000000
/-! k86: distinct ones, sorted ones -/
namespace Kb.Pr
open Kb
theorem nodup_sub {A : Type} [BEq A] [LawfulBEq A] : ∀ {l m : List A}, l.Nodup → (∀ x ∈ l, x ∈ m) → l.length ≤ m.length
  | [], m, _, _ => Nat.zero_le _
  | x :: l, m, h, hs => by
    have hx := hs x (List.mem_cons_self ..)
    have h2 := List.nodup_cons.mp h
    have := nodup_sub (m := m.erase x) h2.2 fun y hy => (List.mem_erase_of_ne (fun e => h2.1 (by rw [← e]; exact hy))).mpr (hs y (List.mem_cons_of_mem _ hy))
    rw [List.length_erase_of_mem hx] at this
    have : 0 < m.length := List.length_pos_of_mem hx
    simp
    omega
theorem has_map {h : List Nat} {found : List (List Nat)} : has (.a (.s h)) (found.map fun t => Ky.a (.s t)) = decide (h ∈ found) := by
  unfold has
  induction found with
  | nil => rfl
  | cons x r ih => simp [ih, Bool.decide_or]
def ddF (acc l : List (List Nat)) : List (List Nat) := l.foldl (fun acc x => if x ∈ acc then acc else acc ++ [x]) acc
theorem ddF_cons (acc : List (List Nat)) (x : List Nat) (l : List (List Nat)) : ddF acc (x :: l) = ddF (if x ∈ acc then acc else acc ++ [x]) l := rfl
theorem ddF_ok : ∀ {l acc : List (List Nat)}, acc.Nodup → (ddF acc l).Nodup ∧ ∀ x, x ∈ ddF acc l ↔ x ∈ acc ∨ x ∈ l
  | [], acc, h => ⟨h, fun x => by simp [ddF]⟩
  | y :: l, acc, h => by
    rw [ddF_cons]
    by_cases c : y ∈ acc
    · rw [if_pos c]
      obtain ⟨a, b⟩ := ddF_ok (l := l) h
      refine ⟨a, fun x => (b x).trans ?_⟩
      constructor
      · rintro (z | z)
        · exact .inl z
        · exact .inr (List.mem_cons_of_mem _ z)
      · rintro (z | z)
        · exact .inl z
        · rcases List.mem_cons.mp z with rfl | z
          · exact .inl c
          · exact .inr z
    · rw [if_neg c]
      have h2 : (acc ++ [y]).Nodup := by
        rw [List.nodup_append]
        exact ⟨h, by simp, fun a ha b hb e => c (by rw [← List.mem_singleton.mp hb, ← e]; exact ha)⟩
      obtain ⟨a, b⟩ := ddF_ok (l := l) h2
      refine ⟨a, fun x => (b x).trans ?_⟩
      simp [or_assoc]
def dd (l : List (List Nat)) : List (List Nat) := ddF [] l
theorem dd_nodup (l : List (List Nat)) : (dd l).Nodup := (ddF_ok (l := l) List.nodup_nil).1
theorem dd_mem {l : List (List Nat)} {x : List Nat} : x ∈ dd l ↔ x ∈ l := by
  rw [show x ∈ dd l ↔ _ from (ddF_ok (l := l) List.nodup_nil).2 x]
  simp
theorem same_len {l m : List (List Nat)} (h1 : l.Nodup) (h2 : m.Nodup) (h : ∀ x, x ∈ l ↔ x ∈ m) : l.length = m.length :=
  Nat.le_antisymm (nodup_sub h1 fun x hx => (h x).mp hx) (nodup_sub h2 fun x hx => (h x).mpr hx)
theorem ltS_head {a b : Nat} {x y : List Nat} (h : a < b) : ltS (a :: x) (b :: y) = true := by simp [ltS, h]
theorem ltS_tail {a : Nat} {x y : List Nat} : ltS (a :: x) (a :: y) = ltS x y := by simp [ltS]
theorem ltS_irr : ∀ x : List Nat, ltS x x = false
  | [] => rfl
  | a :: x => by rw [ltS_tail, ltS_irr x]
theorem ltS_asym : ∀ {x y : List Nat}, ltS x y = true → ltS y x = false
  | [], [], h => by cases h
  | [], _ :: _, _ => rfl
  | _ :: _, [], h => by cases h
  | a :: x, b :: y, h => by
    unfold ltS at h ⊢
    by_cases c : a < b
    · rw [if_neg (by omega), if_pos c]
    · rw [if_neg c] at h
      by_cases d : b < a
      · rw [if_pos d] at h; cases h
      · rw [if_neg d] at h
        rw [if_neg d, if_neg c]
        exact ltS_asym h
theorem ltS_tri : ∀ {x y : List Nat}, ltS x y = false → ltS y x = false → x = y
  | [], [], _, _ => rfl
  | [], _ :: _, h, _ => by cases h
  | _ :: _, [], _, h => by cases h
  | a :: x, b :: y, h, h' => by
    unfold ltS at h h'
    by_cases c : a < b
    · rw [if_pos c] at h; cases h
    · by_cases d : b < a
      · rw [if_pos d] at h'; cases h'
      · rw [if_neg c, if_neg d] at h
        rw [if_neg d, if_neg c] at h'
        rw [ltS_tri h h', show a = b by omega]
theorem ltS_trans : ∀ {x y z : List Nat}, ltS x y = true → ltS y z = true → ltS x z = true
  | [], [], z, h, _ => by cases h
  | [], _ :: _, [], _, h => by cases h
  | [], _ :: _, _ :: _, _, _ => rfl
  | _ :: _, [], _, h, _ => by cases h
  | _ :: _, _ :: _, [], _, h => by cases h
  | a :: x, b :: y, c :: z, h, h' => by
    unfold ltS at h h' ⊢
    by_cases c1 : a < b
    · by_cases c2 : b < c
      · rw [if_pos (by omega)]
      · rw [if_neg c2] at h'
        by_cases c3 : c < b
        · rw [if_pos c3] at h'; cases h'
        · rw [if_pos (by omega)]
    · rw [if_neg c1] at h
      by_cases c2 : b < a
      · rw [if_pos c2] at h; cases h
      · rw [if_neg c2] at h
        have e : a = b := by omega
        subst e
        by_cases c3 : a < c
        · rw [if_pos c3]
        · rw [if_neg c3] at h' ⊢
          by_cases c4 : c < a
          · rw [if_pos c4] at h'; cases h'
          · rw [if_neg c4] at h' ⊢
            exact ltS_trans h h'
/-- sorted lists with the same items are one -/
theorem srt_uniq : ∀ {l m : List (List Nat)}, l.Pairwise (fun x y => ltS x y = true) → m.Pairwise (fun x y => ltS x y = true) → (∀ x, x ∈ l ↔ x ∈ m) → l = m
  | [], [], _, _, _ => rfl
  | [], y :: m, _, _, h => by have := (h y).mpr (List.mem_cons_self ..); cases this
  | x :: l, [], _, _, h => by have := (h x).mp (List.mem_cons_self ..); cases this
  | x :: l, y :: m, h1, h2, h => by
    rw [List.pairwise_cons] at h1 h2
    have e : x = y := by
      rcases List.mem_cons.mp ((h x).mp (List.mem_cons_self ..)) with e | hx
      · exact e
      · rcases List.mem_cons.mp ((h y).mpr (List.mem_cons_self ..)) with e | hy
        · exact e.symm
        · have a := h2.1 x hx
          have b := h1.1 y hy
          rw [ltS_asym a] at b
          cases b
    subst e
    congr 1
    refine srt_uniq h1.2 h2.2 fun z => ?_
    constructor
    · intro hz
      rcases List.mem_cons.mp ((h z).mp (List.mem_cons_of_mem _ hz)) with e | hz'
      · subst e
        have := h1.1 z hz
        rw [ltS_irr] at this
        cases this
      · exact hz'
    · intro hz
      rcases List.mem_cons.mp ((h z).mpr (List.mem_cons_of_mem _ hz)) with e | hz'
      · subst e
        have := h2.1 z hz
        rw [ltS_irr] at this
        cases this
      · exact hz'
theorem leS_iff {x y : List Nat} : leS x y = true ↔ ltS y x = false := by unfold leS; cases ltS y x <;> simp
theorem sort_strict {l : List (List Nat)} (h : l.Nodup) : (l.mergeSort leS).Pairwise fun x y => ltS x y = true := by
  have p := List.pairwise_mergeSort (le := leS) (fun a b c h1 h2 => by
      rw [leS_iff] at h1 h2 ⊢
      cases q : ltS c a with
      | false => rfl
      | true =>
        cases q2 : ltS b c with
        | true => 
          have := ltS_trans q2 q
          rw [h1] at this; cases this
        | false =>
          have e := ltS_tri q2 h2
          subst e
          rw [h1] at q; cases q)
    (fun a b => by
      cases q : leS a b with
      | true => rfl
      | false =>
        have : ltS b a = true := by
          unfold leS at q
          simpa using q
        have : leS b a = true := leS_iff.mpr (ltS_asym this)
        simp [this]) l
  have nd : (l.mergeSort leS).Nodup := (List.mergeSort_perm l leS).nodup_iff.mpr h
  refine (p.and nd).imp fun {x y} hh => ?_
  obtain ⟨a, b⟩ := hh
  rw [leS_iff] at a
  cases q : ltS x y with
  | true => rfl
  | false => exact (b (ltS_tri q a)).elim
@[simp] theorem kyd_comp : (Ky.d ∘ fun t => Ky.a (Ka.s t)) = D.str := rfl
theorem kasD_str : ∀ l : List (List Nat), kasD (l.map .str) = some (l.map .s)
  | [] => rfl
  | x :: l => by simp [kasD, kaD, kasD_str l]
theorem addKas_str : ∀ (l acc : List (List Nat)), addKas (acc.map .s) (l.map .s) = (ddF acc l).map .s
  | [], acc => rfl
  | x :: l, acc => by
    rw [ddF_cons, List.map_cons]
    show addKas (addKa (acc.map .s) (.s x)) (l.map .s) = _
    have e : addKa (acc.map .s) (.s x) = (if x ∈ acc then acc else acc ++ [x]).map .s := by
      unfold addKa
      by_cases c : x ∈ acc
      · rw [if_pos c, if_pos (List.mem_map.mpr ⟨x, c, rfl⟩)]
      · rw [if_neg c, if_neg (by simpa using c)]; simp
    rw [e, addKas_str]
theorem setD_str {l : List (List Nat)} (h : l.length < 4000) : setD (l.map .str) = some (.val (.set ((dd l).map .s))) := by
  unfold setD
  rw [kasD_str]
  dsimp only
  rw [if_pos (by simpa using h)]
  have := addKas_str l []
  simp only [List.map_nil] at this
  rw [this]
  rfl
def isB (x : List Nat) : Bool := x.all fun c => decide (c = 48) || decide (c = 49)
theorem isB_iff {x : List Nat} : isB x = true ↔ Bits x := by
  unfold isB Bits
  simp
theorem is_gate {g hp} {x : List Nat} (hx : x.length ≤ 16777216) : Run sub ks Pl (g + 1) i_is_gate [.str x] none hp = some (.ret (.val (.bl (decide (x.length ∈ [1, 2, 4, 8]) && isB x))) hp) := by
  apply Fn.eq
  apply fn1 P_is_gate
  simp [b_is_gate, hasTy, hx, K_SIZES, v_SIZES, inL]
  by_cases c : x.length = 1 ∨ x.length = 2 ∨ x.length = 4 ∨ x.length = 8
  · rw [if_neg (by omega)]
    refine wp_blkA (fun c => .bl (decide (c ∈ [48, 49]))) hx (fun a ha => ?_) ?_
    · simp [clr, K_BITS, v_BITS]
    · rcases c with c | c | c | c <;> simp [bck, clr, isB, c]
  · rw [if_pos (by omega)]
    exact fun z => (c z).elim
theorem dicP_f {A : Type} (f : A → List Nat) (v : A → D) : ∀ (l : List A) (acc : List (List Nat)) (vs : List D), ∃ vs', dicP (l.map fun a => .tup [.str (f a), v a]) (acc.map fun t => Ky.a (.s t)) vs = some (.ownd false ((ddF acc (l.map f)).map fun t => Ky.a (.s t)) vs')
  | [], acc, vs => ⟨vs, rfl⟩
  | a :: l, acc, vs => by
    rw [List.map_cons, List.map_cons, ddF_cons]
    show ∃ vs', dicP (l.map fun a => .tup [.str (f a), v a]) (putK (.a (.s (f a))) (acc.map fun t => Ky.a (.s t))) (putV (.a (.s (f a))) (v a) (acc.map fun t => Ky.a (.s t)) vs) = _
    have e : putK (.a (.s (f a))) (acc.map fun t => Ky.a (.s t)) = (if f a ∈ acc then acc else acc ++ [f a]).map fun t => Ky.a (.s t) := by
      unfold putK
      rw [has_map]
      by_cases c : f a ∈ acc <;> simp [c]
    rw [e]
    exact dicP_f f v l _ _
/-- sorted, distinct -/
def sdd (l : List (List Nat)) : List (List Nat) := (dd l).mergeSort leS
theorem sdd_mem {l : List (List Nat)} {x : List Nat} : x ∈ sdd l ↔ x ∈ l := by
  unfold sdd
  rw [(List.mergeSort_perm _ _).mem_iff, dd_mem]
theorem sdd_len {l : List (List Nat)} : (sdd l).length ≤ l.length := by
  unfold sdd
  rw [(List.mergeSort_perm _ _).length_eq]
  exact nodup_sub (dd_nodup _) fun x hx => dd_mem.mp hx
theorem sdd_congr {l m : List (List Nat)} (h : ∀ x, x ∈ l ↔ x ∈ m) : sdd l = sdd m :=
  srt_uniq (sort_strict (dd_nodup l)) (sort_strict (dd_nodup m)) fun x => by
    have a := sdd_mem (l := l) (x := x)
    have b := sdd_mem (l := m) (x := x)
    rw [a, b]
    exact h x
end Kb.Pr

set_option Elab.async false
set_option linter.all false
set_option maxRecDepth 100000
set_option maxHeartbeats 2000000
/-! k86: families -/
namespace Kb.Pr
open Kb
section
variable {g : Nat} {hp : List Ob} {m : Nat} {x y : List Nat}
theorem Gt.l8 (hx : Gt m x) : x.length ≤ 8 := by have := p8 hx.h; have := hx.l; omega
theorem Gt.led {t : Tn} (hx : Gt m x) (ht : t ∈ turnsL m) : Gt m (led m x t) := ⟨hx.h, led_len, led_bits hx.h hx.l hx.b ht⟩
theorem gate_ok (hx : Gt m x) : Run sub ks Pl (g + 1) i_is_gate [.str x] none hp = some (.ret (.val (.bl true)) hp) := by
  have l8 := hx.l8
  rw [is_gate (by omega), isB_iff.mpr hx.b]
  have := hx.l
  rcases le3 hx.h with rfl | rfl | rfl | rfl <;> simp [this]
theorem check_gate (hx : Gt m x) : Run sub ks Pl (g + 2) i_check_gate [.str x] none hp = some (.ret (.val .non) hp) := by
  apply Fn.eq
  apply fn1 P_check_gate
  simp [b_check_gate, gate_ok hx]
theorem turns_len (h : m ≤ 3) : (turnsL m).length ≤ 96 := by
  rcases le3 h with rfl | rfl | rfl | rfl <;> decide
theorem turns_ne (h : m ≤ 3) : turnsL m ≠ [] := by
  rcases le3 h with rfl | rfl | rfl | rfl <;> decide
def fam (m : Nat) (x : List Nat) : List (List Nat) := sdd ((turnsL m).map (led m x))
theorem fam_len (h : m ≤ 3) : (fam m x).length ≤ 96 := by
  have := sdd_len (l := (turnsL m).map (led m x))
  have := turns_len h
  unfold fam
  simp at *
  omega
theorem fam_mem : y ∈ fam m x ↔ ∃ t ∈ turnsL m, led m x t = y := by
  unfold fam
  rw [sdd_mem, List.mem_map]
theorem fam_ne (h : m ≤ 3) : fam m x ≠ [] := fun e => by
  obtain ⟨t, ht⟩ := List.exists_mem_of_ne_nil _ (turns_ne h)
  have : led m x t ∈ fam m x := fam_mem.mpr ⟨t, ht, rfl⟩
  rw [e] at this
  cases this
def pln (m : Nat) (x : List Nat) : List Nat := (fam m x).headD []
theorem pln_mem (h : m ≤ 3) : pln m x ∈ fam m x := by
  unfold pln
  cases e : fam m x with
  | nil => exact (fam_ne h e).elim
  | cons a r => simp
theorem pln_nth (h : m ≤ 3) : nth ((fam m x).map D.str) 0 = some (.str (pln m x)) := by
  unfold pln nth
  cases e : fam m x with
  | nil => exact (fam_ne h e).elim
  | cons a r => simp
theorem fam_gt (hx : Gt m x) (hy : y ∈ fam m x) : Gt m y := by
  obtain ⟨t, ht, rfl⟩ := fam_mem.mp hy
  exact hx.led ht
theorem sort_led (h : m ≤ 3) : setD ((turnsL m).map fun t => .str (led m x t)) = some (.val (.set ((dd ((turnsL m).map (led m x))).map .s))) ∧ sortD ((dd ((turnsL m).map (led m x))).map .str) = some ((fam m x).map .str) := by
  have tl := turns_len h
  have sd := setD_str (l := (turnsL m).map (led m x)) (by simp; omega)
  rw [List.map_map] at sd
  refine ⟨sd, sortD_str ?_⟩
  have := nodup_sub (m := (turnsL m).map (led m x)) (dd_nodup _) fun x hx => dd_mem.mp hx
  simp at this
  omega
theorem raw_family (hx : Gt m x) : Run sub ks Pl (g + 5) i_raw_family [.str x] none hp = some (.ret (.own ((fam m x).map .str)) hp) := by
  apply Fn.eq
  apply fn1 P_raw_family
  simp [b_raw_family, raw_ins hx.h hx.l, all_turns hx.h]
  have tl := turns_len hx.h
  refine wp_blkA (as := turnsL m) (j := Tn.d) (fun t => .str (led m x t)) (by unfold line; omega) (fun t ht => ?_) ?_
  · simp [clr, raw_led hx.h hx.l ht]
  · obtain ⟨s1, s2⟩ := sort_led (x := x) hx.h
    simp only [bck, clr, d_own, wp_setL]
    simp [s1]
    simp [Function.comp_def, Ka.d, s2]
theorem family (hx : Gt m x) : Run sub ks Pl (g + 6) i_family [.str x] none hp = some (.ret (.val (.tup ((fam m x).map .str))) hp) := by
  apply Fn.eq
  apply fn1 P_family
  simp [b_family, check_gate hx, raw_family hx]
theorem plain_ok (hx : Gt m x) : Run sub ks Pl (g + 6) i_plain [.str x] none hp = some (.ret (.val (.str (pln m x))) hp) := by
  apply Fn.eq
  apply fn1 P_plain
  simp [b_plain, check_gate hx, raw_family hx, pln_nth hx.h]
def betw (m : Nat) (x y : List Nat) : D := match (turnsL m).find? fun t => decide (led m x t = y) with
  | some t => t.d
  | none => .non
theorem raw_between (hx : Gt m x) : Run sub ks Pl (g + 5) i_raw_between [.str x, .str y] none hp = some (.ret (.val (betw m x y)) hp) := by
  apply Fn.eq
  apply fn2 P_raw_between
  simp [b_raw_between, raw_ins hx.h hx.l, all_turns hx.h]
  refine wp_for (fun i s => ∃ o, s = ⟨[some (.val (.str x)), some (.val (.str y)), o], hp⟩ ∧ ∀ t ∈ (turnsL m).take i, led m x t ≠ y) ⟨none, by simp⟩ (fun i d s hd hI => ?_) fun s hI => ?_
  · obtain ⟨o, rfl, hn⟩ := hI
    rw [List.getElem?_map] at hd
    cases q : (turnsL m)[i]? with
    | none => rw [q] at hd; cases hd
    | some t =>
      rw [q] at hd
      cases hd
      simp [raw_led hx.h hx.l (List.mem_of_getElem? q)]
      by_cases c : led m x t = y
      · simp [c]
        unfold betw
        have e : (turnsL m).find? (fun t => decide (led m x t = y)) = some t := by
          rw [List.find?_eq_some_iff_getElem]
          obtain ⟨hi, e⟩ := List.getElem?_eq_some_iff.mp q
          refine ⟨by simpa using c, i, hi, e, fun j hj => ?_⟩
          have := hn _ (List.getElem_mem (l := (turnsL m).take i) (n := j) (by simp; omega))
          simpa using this
        rw [e]
      · simp [c]
        intro u hu
        rw [List.take_add_one, q] at hu
        rcases List.mem_append.mp hu with hu | hu
        · exact hn u hu
        · have : u = t := by simpa using hu
          rw [this]; exact c
  · obtain ⟨o, rfl, hn⟩ := hI
    simp
    unfold betw
    have e : (turnsL m).find? (fun t => decide (led m x t = y)) = none := by
      rw [List.find?_eq_none]
      intro t ht
      have := hn t (by simpa using ht)
      simpa using this
    rw [e]
theorem turn_to_plain (hx : Gt m x) : Run sub ks Pl (g + 6) i_turn_to_plain [.str x] none hp = some (.ret (.val (betw m x (pln m x))) hp) := by
  apply Fn.eq
  apply fn1 P_turn_to_plain
  simp [b_turn_to_plain, check_gate hx, raw_family hx, pln_nth hx.h, raw_between hx]
def stay (m : Nat) (x : List Nat) : List Tn := (turnsL m).filter fun t => decide (led m x t = x)
theorem keepers (hx : Gt m x) : Run sub ks Pl (g + 6) i_keepers [.str x] none hp = some (.ret (.val (.tup ((stay m x).map Tn.d))) hp) := by
  apply Fn.eq
  apply fn1 P_keepers
  simp [b_keepers, check_gate hx, raw_ins hx.h hx.l, all_turns hx.h]
  have tl := turns_len hx.h
  refine wp_blkO (as := turnsL m) (j := Tn.d) (fun t => if decide (led m x t = x) = true then some t.d else none) (by unfold line; omega) (fun t ht => ?_) ?_
  · simp [clr, raw_led hx.h hx.l ht]
    try (split <;> simp_all [clr])
  · rw [filt_map]
    simp [bck, clr, stay]
theorem turn_between (hx : Gt m x) (hy : Gt m y) : Run sub ks Pl (g + 6) i_turn_between [.str x, .str y] none hp = some (.ret (.val (betw m x y)) hp) := by
  apply Fn.eq
  apply fn2 P_turn_between
  have e : x.length = y.length := by rw [hx.l, hy.l]
  have l8 := hx.l8
  have l9 := hy.l8
  simp [b_turn_between, check_gate hx, check_gate hy, raw_between hx, e]
  omega
end
end Kb.Pr

set_option Elab.async false
set_option linter.all false
set_option maxRecDepth 100000
set_option maxHeartbeats 2000000
/-! k86: written forms -/
namespace Kb.Pr
open Kb
def shortR (d : D) : Bool := match reprD d with
  | some x => decide (x.length ≤ 100)
  | none => false
theorem shortR_ok {d : D} (h : shortR d = true) : ∃ x, reprD d = some x ∧ x.length ≤ 100 := by
  unfold shortR at h
  split at h
  · exact ⟨_, by assumption, of_decide_eq_true h⟩
  · cases h
theorem turn_repr {m : Nat} (h : m ≤ 3) : ∀ t ∈ turnsL m, shortR t.d = true ∧ pl 30 t.d = true := by
  rcases le3 h with rfl | rfl | rfl | rfl <;> decide +kernel
theorem reprs_short : ∀ {xs : List D}, (∀ x ∈ xs, shortR x = true) → ∃ l, reprDs xs = some l ∧ l.length = xs.length ∧ (joinS [44, 32] l).length ≤ 102 * xs.length
  | [], h => ⟨[], by simp [reprDs], rfl, by simp [joinS]⟩
  | x :: xs, h => by
    obtain ⟨l, e, hl, hj⟩ := reprs_short (xs := xs) fun y hy => h y (List.mem_cons_of_mem _ hy)
    obtain ⟨r, hr, h8⟩ := shortR_ok (h x (List.mem_cons_self ..))
    refine ⟨r :: l, by rw [reprDs, hr, e], by simp [hl], ?_⟩
    cases l with
    | nil => simp [joinS]; omega
    | cons z r =>
      simp only [joinS, List.length_append, List.length_cons, List.length_nil] at hj ⊢
      omega
theorem repr_shortT {xs : List D} (h : ∀ x ∈ xs, shortR x = true) (hl : xs.length ≤ 256) : ∃ x, reprD (.tup xs) = some x ∧ x.length ≤ 1000000 := by
  obtain ⟨l, e, _, hj⟩ := reprs_short h
  refine ⟨tupS l, by rw [reprD_tup, e], ?_⟩
  unfold tupS
  simp only [List.length_append]
  split <;> simp <;> omega
theorem repr_bits {x : List Nat} (h : Bits x) (hl : x.length ≤ 8) : shortR (.str x) = true := by
  unfold shortR
  rw [reprD_str]
  have : (x.all plainC && decide (x.length ≤ 1000000)) = true := by
    rw [Bool.and_eq_true]
    refine ⟨List.all_eq_true.mpr fun c hc => ?_, by simp; omega⟩
    rcases h c hc with rfl | rfl <;> rfl
  have e : reprF (.str x) = some (39 :: (x ++ [39])) := by
    show (if (x.all plainC && decide (x.length ≤ 1000000)) = true then some (39 :: (x ++ [39])) else none) = _
    rw [if_pos this]
  rw [e]
  simp
  omega
end Kb.Pr

set_option Elab.async false
set_option linter.all false
set_option maxRecDepth 100000
set_option maxHeartbeats 2000000
/-! k86: families are classes -/
namespace Kb.Pr
open Kb
/-- below, odd rows -/
def below (one row : List Nat) : Bool := (one.zip row).all fun p => p.1 == 48 || p.2 == 49
def tellR (gate o : List Nat) : Nat := gate.getD (num o) 0
def lotN (row : List Nat) : List Nat := (List.range row.length).filter fun i => row.getD i 0 == 49
def lotD (row : List Nat) : D := .tup ((lotN row).map fun n : Nat => D.int (n : Int))
def toldL (m : Nat) (gate row : List Nat) : List Nat := ((allB m).filter fun o => below o row).map (tellR gate)
def oddB (m : Nat) (gate row : List Nat) : Bool := decide ((toldL m gate row).count 49 % 2 = 1)
def dgN (m : Nat) (x : List Nat) : Nat := ((allB m).filter (oddB m x)).foldl (fun a r => max a (lotN r).length) 0
def ndN (m : Nat) (x : List Nat) : Nat := ((List.range m).filter fun p => decide (pick x (flpI m p) ≠ x)).length
/-- a class: its gates as bits of a number, how many turns keep one, inputs needed, degree -/
structure Cl where
  b : Nat
  s : Nat
  n : Nat
  d : Nat
  deriving DecidableEq
def permL0 : List (List Nat × Bool) := [([0], false), ([0], true)]
def permL1 : List (List Nat × Bool) := [([0, 1], false), ([0, 1], true), ([1, 0], false), ([1, 0], true)]
def permL2 : List (List Nat × Bool) := [([0, 1, 2, 3], false), ([0, 1, 2, 3], true), ([2, 3, 0, 1], false), ([2, 3, 0, 1], true), ([3, 2, 1, 0], false), ([3, 2, 1, 0], true), ([1, 0, 3, 2], false), ([1, 0, 3, 2], true), ([0, 2, 1, 3], false), ([0, 2, 1, 3], true), ([1, 3, 0, 2], false), ([1, 3, 0, 2], true), ([3, 1, 2, 0], false), ([3, 1, 2, 0], true), ([2, 0, 3, 1], false), ([2, 0, 3, 1], true)]
def permL3 : List (List Nat × Bool) := [([0, 1, 2, 3, 4, 5, 6, 7], false), ([0, 1, 2, 3, 4, 5, 6, 7], true), ([4, 5, 6, 7, 0, 1, 2, 3], false), ([4, 5, 6, 7, 0, 1, 2, 3], true), ([6, 7, 4, 5, 2, 3, 0, 1], false), ([6, 7, 4, 5, 2, 3, 0, 1], true), ([7, 6, 5, 4, 3, 2, 1, 0], false), ([7, 6, 5, 4, 3, 2, 1, 0], true), ([5, 4, 7, 6, 1, 0, 3, 2], false), ([5, 4, 7, 6, 1, 0, 3, 2], true), ([2, 3, 0, 1, 6, 7, 4, 5], false), ([2, 3, 0, 1, 6, 7, 4, 5], true), ([3, 2, 1, 0, 7, 6, 5, 4], false), ([3, 2, 1, 0, 7, 6, 5, 4], true), ([1, 0, 3, 2, 5, 4, 7, 6], false), ([1, 0, 3, 2, 5, 4, 7, 6], true), ([0, 2, 1, 3, 4, 6, 5, 7], false), ([0, 2, 1, 3, 4, 6, 5, 7], true), ([4, 6, 5, 7, 0, 2, 1, 3], false), ([4, 6, 5, 7, 0, 2, 1, 3], true), ([5, 7, 4, 6, 1, 3, 0, 2], false), ([5, 7, 4, 6, 1, 3, 0, 2], true), ([7, 5, 6, 4, 3, 1, 2, 0], false), ([7, 5, 6, 4, 3, 1, 2, 0], true), ([6, 4, 7, 5, 2, 0, 3, 1], false), ([6, 4, 7, 5, 2, 0, 3, 1], true), ([1, 3, 0, 2, 5, 7, 4, 6], false), ([1, 3, 0, 2, 5, 7, 4, 6], true), ([3, 1, 2, 0, 7, 5, 6, 4], false), ([3, 1, 2, 0, 7, 5, 6, 4], true), ([2, 0, 3, 1, 6, 4, 7, 5], false), ([2, 0, 3, 1, 6, 4, 7, 5], true), ([0, 1, 4, 5, 2, 3, 6, 7], false), ([0, 1, 4, 5, 2, 3, 6, 7], true), ([2, 3, 6, 7, 0, 1, 4, 5], false), ([2, 3, 6, 7, 0, 1, 4, 5], true), ([6, 7, 2, 3, 4, 5, 0, 1], false), ([6, 7, 2, 3, 4, 5, 0, 1], true), ([7, 6, 3, 2, 5, 4, 1, 0], false), ([7, 6, 3, 2, 5, 4, 1, 0], true), ([3, 2, 7, 6, 1, 0, 5, 4], false), ([3, 2, 7, 6, 1, 0, 5, 4], true), ([4, 5, 0, 1, 6, 7, 2, 3], false), ([4, 5, 0, 1, 6, 7, 2, 3], true), ([5, 4, 1, 0, 7, 6, 3, 2], false), ([5, 4, 1, 0, 7, 6, 3, 2], true), ([1, 0, 5, 4, 3, 2, 7, 6], false), ([1, 0, 5, 4, 3, 2, 7, 6], true), ([0, 2, 4, 6, 1, 3, 5, 7], false), ([0, 2, 4, 6, 1, 3, 5, 7], true), ([1, 3, 5, 7, 0, 2, 4, 6], false), ([1, 3, 5, 7, 0, 2, 4, 6], true), ([5, 7, 1, 3, 4, 6, 0, 2], false), ([5, 7, 1, 3, 4, 6, 0, 2], true), ([7, 5, 3, 1, 6, 4, 2, 0], false), ([7, 5, 3, 1, 6, 4, 2, 0], true), ([3, 1, 7, 5, 2, 0, 6, 4], false), ([3, 1, 7, 5, 2, 0, 6, 4], true), ([4, 6, 0, 2, 5, 7, 1, 3], false), ([4, 6, 0, 2, 5, 7, 1, 3], true), ([6, 4, 2, 0, 7, 5, 3, 1], false), ([6, 4, 2, 0, 7, 5, 3, 1], true), ([2, 0, 6, 4, 3, 1, 7, 5], false), ([2, 0, 6, 4, 3, 1, 7, 5], true), ([0, 4, 1, 5, 2, 6, 3, 7], false), ([0, 4, 1, 5, 2, 6, 3, 7], true), ([2, 6, 3, 7, 0, 4, 1, 5], false), ([2, 6, 3, 7, 0, 4, 1, 5], true), ([3, 7, 2, 6, 1, 5, 0, 4], false), ([3, 7, 2, 6, 1, 5, 0, 4], true), ([7, 3, 6, 2, 5, 1, 4, 0], false), ([7, 3, 6, 2, 5, 1, 4, 0], true), ([6, 2, 7, 3, 4, 0, 5, 1], false), ([6, 2, 7, 3, 4, 0, 5, 1], true), ([1, 5, 0, 4, 3, 7, 2, 6], false), ([1, 5, 0, 4, 3, 7, 2, 6], true), ([5, 1, 4, 0, 7, 3, 6, 2], false), ([5, 1, 4, 0, 7, 3, 6, 2], true), ([4, 0, 5, 1, 6, 2, 7, 3], false), ([4, 0, 5, 1, 6, 2, 7, 3], true), ([0, 4, 2, 6, 1, 5, 3, 7], false), ([0, 4, 2, 6, 1, 5, 3, 7], true), ([1, 5, 3, 7, 0, 4, 2, 6], false), ([1, 5, 3, 7, 0, 4, 2, 6], true), ([3, 7, 1, 5, 2, 6, 0, 4], false), ([3, 7, 1, 5, 2, 6, 0, 4], true), ([7, 3, 5, 1, 6, 2, 4, 0], false), ([7, 3, 5, 1, 6, 2, 4, 0], true), ([5, 1, 7, 3, 4, 0, 6, 2], false), ([5, 1, 7, 3, 4, 0, 6, 2], true), ([2, 6, 0, 4, 3, 7, 1, 5], false), ([2, 6, 0, 4, 3, 7, 1, 5], true), ([6, 2, 4, 0, 7, 3, 5, 1], false), ([6, 2, 4, 0, 7, 3, 5, 1], true), ([4, 0, 6, 2, 5, 1, 7, 3], false), ([4, 0, 6, 2, 5, 1, 7, 3], true)]
def cl0 : List Cl := [⟨3, 1, 0, 0⟩]
def cl1 : List Cl := [⟨9, 2, 0, 0⟩, ⟨6, 2, 1, 1⟩]
def cl2 : List Cl := [⟨32769, 8, 0, 0⟩, ⟨27030, 2, 2, 2⟩, ⟨5160, 4, 1, 1⟩, ⟨576, 8, 2, 1⟩]
def cl3 : List Cl := [⟨57896044618658097711785492504343953926634992332820282019728792003956564819969, 48, 0, 0⟩, ⟨47267576113963700113891037153651775520612896549968809291683242518090289840406, 6, 3, 3⟩, ⟨9117372569392856764669015109861959849500382286899122289979294063395260732456, 4, 2, 2⟩, ⟨1017979985958863810594950691582495359826754829749903357117605287112962474560, 4, 3, 2⟩, ⟨491321547594001374868250081994650536592771769926615611052943935486722336896, 2, 3, 3⟩, ⟨1766847064804095338292937922828216753893183071823361306064178494985764864, 16, 1, 1⟩, ⟨13803519021654050844148718343557808094930851019423434676786484062715904, 6, 3, 3⟩, ⟨6901752928808793455382809704201156581457135193295845546850465947320320, 12, 3, 2⟩, ⟨3451715671729414988927884610456227198687578716693276844744939656970240, 12, 3, 2⟩, ⟨2804469631839872946684464687089150660611347299071409171171560677965824, 2, 3, 3⟩, ⟨539305075015604163739993369411619339257697360819108714316523760517120, 4, 3, 2⟩, ⟨53921542454470733715585185992876856315848988707793045754811854618624, 4, 3, 2⟩, ⟨50216813929872916486816856452299552604448852053559498244096, 16, 2, 1⟩, ⟨1427247692706000445877493272790343030885318656, 48, 3, 1⟩]
def permL : Nat → List (List Nat × Bool)
  | 0 => permL0
  | 1 => permL1
  | 2 => permL2
  | _ => permL3
def cl : Nat → List Cl
  | 0 => cl0
  | 1 => cl1
  | 2 => cl2
  | _ => cl3
def codes (m : Nat) (x : List Nat) : List Nat := (permL m).map fun t => num (t.1.map fun i => fl t.2 (x.getD i 0))
def orB : List Nat → Nat
  | [] => 0
  | c :: r => 2 ^ c ||| orB r
theorem orB_bit : ∀ {l : List Nat} {y : Nat}, (orB l).testBit y = decide (y ∈ l)
  | [], y => by simp [orB]
  | c :: r, y => by
    unfold orB
    rw [Nat.testBit_or, orB_bit, Nat.testBit_two_pow]
    by_cases h : c = y
    · subst h; simp
    · have : ¬ y = c := fun z => h z.symm
      simp [h, this]
def chk (m : Nat) (x : List Nat) (e : Cl) : Bool := e.b.testBit (num x) && (Nat.beq (orB (codes m x)) e.b && (Nat.beq ((codes m x).count (num x)) e.s && (Nat.beq (ndN m x) e.n && Nat.beq (dgN m x) e.d)))
theorem perms (h : m ≤ 3) : (turnsL m).map (fun t => (permI m t, t.b)) = permL m := by
  rcases le3 h with rfl | rfl | rfl | rfl <;> decide +kernel
theorem chk_all (h : m ≤ 3) : ((allB (2 ^ m)).all fun x => (cl m).any fun e => chk m x e) = true := by
  rcases le3 h with rfl | rfl | rfl | rfl <;> decide +kernel
theorem cl_apart (h : m ≤ 3) : ∀ e ∈ cl m, ∀ e' ∈ cl m, e.b &&& e'.b = 0 ∨ e = e' := by
  rcases le3 h with rfl | rfl | rfl | rfl <;> decide +kernel
theorem cl_size (h : m ≤ 3) : ∀ e ∈ cl m, ((allB (2 ^ m)).filter fun y => e.b.testBit (num y)).length * e.s = (turnsL m).length := by
  rcases le3 h with rfl | rfl | rfl | rfl <;> decide +kernel
end Kb.Pr

set_option Elab.async false
set_option linter.all false
set_option maxRecDepth 100000
set_option maxHeartbeats 2000000
/-! k86: families are classes, 2 -/
namespace Kb.Pr
open Kb
theorem num_inj0 : ∀ {x y : List Nat} {a b : Nat}, x.length = y.length → Bits x → Bits y → x.foldl (fun a c => 2 * a + (c - 48)) a = y.foldl (fun a c => 2 * a + (c - 48)) b → a = b ∧ x = y
  | [], [], a, b, _, _, _, h => ⟨h, rfl⟩
  | [], _ :: _, _, _, l, _, _, _ => by cases l
  | _ :: _, [], _, _, l, _, _, _ => by cases l
  | c :: x, d :: y, a, b, l, hx, hy, h => by
    obtain ⟨h1, h2⟩ := num_inj0 (x := x) (y := y) (by simpa using l) (fun z hz => hx z (List.mem_cons_of_mem _ hz)) (fun z hz => hy z (List.mem_cons_of_mem _ hz)) h
    have bc := hx c (List.mem_cons_self ..)
    have bd := hy d (List.mem_cons_self ..)
    subst h2
    have h1 : 2 * a + (c - 48) = 2 * b + (d - 48) := h1
    have : a = b ∧ c = d := by rcases bc with rfl | rfl <;> rcases bd with rfl | rfl <;> omega
    exact ⟨this.1, by rw [this.2]⟩
theorem num_inj {x y : List Nat} (l : x.length = y.length) (hx : Bits x) (hy : Bits y) (h : num x = num y) : x = y := (num_inj0 l hx hy h).2
theorem allB_bits : ∀ {n : Nat} {x : List Nat}, x ∈ allB n → Bits x ∧ x.length = n
  | 0, x, h => by
    have : x = [] := by simpa [allB] using h
    subst this
    exact ⟨(fun c h => nomatch h), rfl⟩
  | n + 1, x, h => by
    simp only [allB, List.mem_append, List.mem_map] at h
    rcases h with ⟨y, hy, rfl⟩ | ⟨y, hy, rfl⟩ <;> obtain ⟨a, b⟩ := allB_bits hy
    · exact ⟨fun c hc => by
        rcases List.mem_cons.mp hc with rfl | hc
        · exact .inl rfl
        · exact a c hc, by simp [b]⟩
    · exact ⟨fun c hc => by
        rcases List.mem_cons.mp hc with rfl | hc
        · exact .inr rfl
        · exact a c hc, by simp [b]⟩
theorem allB_sorted : ∀ n, (allB n).Pairwise fun x y => ltS x y = true
  | 0 => by simp [allB]
  | n + 1 => by
    have ih := allB_sorted n
    unfold allB
    rw [List.pairwise_append]
    refine ⟨?_, ?_, fun x hx y hy => ?_⟩
    · rw [List.pairwise_map]; exact ih.imp fun h => by rw [ltS_tail]; exact h
    · rw [List.pairwise_map]; exact ih.imp fun h => by rw [ltS_tail]; exact h
    · obtain ⟨a, _, rfl⟩ := List.mem_map.mp hx
      obtain ⟨b, _, rfl⟩ := List.mem_map.mp hy
      exact ltS_head (by decide)
section
variable {m : Nat} {x y : List Nat}
theorem Gt.mem (hx : Gt m x) : x ∈ allB (2 ^ m) := by
  have := allB_mem hx.b
  rwa [hx.l] at this
theorem codes_led (h : m ≤ 3) : codes m x = (turnsL m).map fun t => num (led m x t) := by
  unfold codes
  rw [← perms h, List.map_map]
  exact List.map_congr_left fun t ht => by rw [led_perm h ht]; rfl
structure Cls (m : Nat) (x : List Nat) (e : Cl) : Prop where
  mem : e ∈ cl m
  b : e.b.testBit (num x) = true
  o : orB (codes m x) = e.b
  s : (codes m x).count (num x) = e.s
  n : ndN m x = e.n
  d : dgN m x = e.d
theorem cls (hx : Gt m x) : ∃ e, Cls m x e := by
  obtain ⟨e, he, h⟩ := List.any_eq_true.mp (List.all_eq_true.mp (chk_all hx.h) x hx.mem)
  unfold chk at h
  simp only [Bool.and_eq_true, Nat.beq_eq] at h
  obtain ⟨h1, h2, h3, h4, h5⟩ := h
  exact ⟨e, he, h1, h2, h3, h4, h5⟩
theorem fam_bit {e : Cl} (hx : Gt m x) (c : Cls m x e) (hy : Gt m y) : y ∈ fam m x ↔ e.b.testBit (num y) = true := by
  rw [← c.o, orB_bit, decide_eq_true_eq, codes_led hx.h, fam_mem, List.mem_map]
  constructor
  · rintro ⟨t, ht, rfl⟩; exact ⟨t, ht, rfl⟩
  · rintro ⟨t, ht, h⟩
    exact ⟨t, ht, num_inj (by rw [led_len, hy.l]) (hx.led ht).b hy.b h⟩
theorem cls_eq {e e' : Cl} (hx : Gt m x) (c : Cls m x e) (hy : y ∈ fam m x) (c' : Cls m y e') : e = e' := by
  have gy := fam_gt hx hy
  have b1 := (fam_bit hx c gy).mp hy
  rcases cl_apart hx.h e c.mem e' c'.mem with z | z
  · have := Nat.testBit_and e.b e'.b (num y)
    rw [z, b1, c'.b] at this
    simp at this
  · exact z
theorem fam_eq (hx : Gt m x) (hy : y ∈ fam m x) : fam m y = fam m x := by
  obtain ⟨e, c⟩ := cls hx
  have gy := fam_gt hx hy
  obtain ⟨e', c'⟩ := cls gy
  have := cls_eq hx c hy c'
  subst this
  refine sdd_congr fun z => ?_
  rw [← sdd_mem (l := (turnsL m).map (led m y)), ← sdd_mem (l := (turnsL m).map (led m x))]
  show z ∈ fam m y ↔ z ∈ fam m x
  constructor
  · intro hz
    have gz := fam_gt gy hz
    exact (fam_bit hx c gz).mpr ((fam_bit gy c' gz).mp hz)
  · intro hz
    have gz := fam_gt hx hz
    exact (fam_bit gy c' gz).mpr ((fam_bit hx c gz).mp hz)
theorem nd_eq (hx : Gt m x) (hy : y ∈ fam m x) : ndN m y = ndN m x := by
  obtain ⟨e, c⟩ := cls hx
  obtain ⟨e', c'⟩ := cls (fam_gt hx hy)
  have := cls_eq hx c hy c'
  subst this
  rw [c.n, c'.n]
theorem dg_eq (hx : Gt m x) (hy : y ∈ fam m x) : dgN m y = dgN m x := by
  obtain ⟨e, c⟩ := cls hx
  obtain ⟨e', c'⟩ := cls (fam_gt hx hy)
  have := cls_eq hx c hy c'
  subst this
  rw [c.d, c'.d]
theorem led_fam {t : Tn} (ht : t ∈ turnsL m) : led m x t ∈ fam m x := fam_mem.mpr ⟨t, ht, rfl⟩
theorem orb (hx : Gt m x) : (fam m x).length * (stay m x).length = (turnsL m).length := by
  obtain ⟨e, c⟩ := cls hx
  rw [← cl_size hx.h e c.mem]
  congr 1
  · congr 1
    refine srt_uniq (sort_strict (dd_nodup _)) ((allB_sorted _).filter _) fun z => ?_
    rw [List.mem_filter]
    constructor
    · intro hz
      have gz := fam_gt hx hz
      exact ⟨gz.mem, (fam_bit hx c gz).mp hz⟩
    · rintro ⟨hz, b⟩
      obtain ⟨b1, l1⟩ := allB_bits hz
      exact (fam_bit hx c ⟨hx.h, l1, b1⟩).mpr b
  · rw [← c.s, codes_led hx.h]
    unfold stay
    rw [List.count_eq_countP, List.countP_map, ← List.countP_eq_length_filter]
    refine List.countP_congr fun t ht => ?_
    simp only [Function.comp, decide_eq_true_eq, beq_iff_eq]
    exact ⟨fun h => by rw [h], fun h => num_inj (by rw [led_len, hx.l]) (hx.led ht).b hx.b h⟩
end
end Kb.Pr

set_option Elab.async false
set_option linter.all false
set_option maxRecDepth 100000
set_option maxHeartbeats 2000000
/-! k86: needed inputs, degree, how far -/
namespace Kb
theorem intsD_mapf {A : Type} (f : A → Int) : ∀ l : List A, intsD (l.map fun a => D.int (f a)) = some (l.map f)
  | [] => rfl
  | a :: l => by simp [intsD, intsD_mapf f l]
theorem maxL_le {m : Int} {xs : List Int} {b : Int} : maxL m xs ≤ b ↔ m ≤ b ∧ ∀ x ∈ xs, x ≤ b := by
  induction xs generalizing m with
  | nil => simp [maxL]
  | cons x r ih =>
    unfold maxL
    rw [ih]
    by_cases c : m < x
    · rw [if_pos c]; simp; omega
    · rw [if_neg c]; simp; omega
theorem sortOk_sub {l m : List D} (h : sortOk m = true) (hs : ∀ x ∈ l, x ∈ m) (hl : l.length ≤ line) : sortOk l = true := by
  unfold sortOk at *
  simp only [Bool.and_eq_true, Bool.or_eq_true, List.all_eq_true, decide_eq_true_eq] at *
  obtain ⟨⟨⟨h1, h2⟩, h3⟩, h4⟩ := h
  refine ⟨⟨⟨?_, fun a ha b hb => h2 a (hs a ha) b (hs b hb)⟩, fun a ha => h3 a (hs a ha)⟩, hl⟩
  rcases h1 with h1 | h1
  · exact .inl fun a ha => h1 a (hs a ha)
  · exact .inr fun a ha => h1 a (hs a ha)
theorem zipD_strs : ∀ x y : List Nat, zipD (x.map fun c => .str [c]) (y.map fun c => .str [c]) = (x.zip y).map fun p => .tup [.str [p.1], .str [p.2]]
  | [], y => by simp [zipD]
  | a :: x, [] => by simp [zipD]
  | a :: x, b :: y => by simp [zipD, zipD_strs x y]
theorem rangeD_map : ∀ (n a : Nat), rangeD n (a : Int) = (List.range' a n).map fun i : Nat => D.int (i : Int)
  | 0, a => rfl
  | n + 1, a => by
    rw [List.range'_succ, List.map_cons, ← rangeD_map n (a + 1)]
    rfl
end Kb
namespace Kb.Pr
open Kb
def sumsL (m : Nat) (gate : List Nat) : List D := (((allB m).filter (oddB m gate)).map lotD).mergeSort leD
def dgI (m : Nat) (x : List Nat) : Int := maxL (-1) (((allB m).filter (oddB m x)).map fun r => ((lotN r).length : Int))
section
variable {g : Nat} {hp : List Ob} {m : Nat} {x y : List Nat}
theorem rows_of (h : m ≤ 3) : Run sub ks Pl (g + 1) i_rows_of [.int m] none hp = some (.ret (rowsV m) hp) := by
  rcases le3 h with rfl | rfl | rfl | rfl <;> kernel_rfl
theorem is_below (h : m ≤ 3) : ∀ one ∈ allB m, ∀ row ∈ allB m, Run sub ks Pl (g + 3) i_is_below [.str one, .str row] none hp = some (.ret (.val (.bl (below one row))) hp) := by
  rcases le3 h with rfl | rfl | rfl | rfl
  · rw [show allB 0 = [[]] from rfl]; (repeat' (first | exact fa0 | refine fa1 ?_ ?_)) <;> kernel_rfl
  · rw [show allB 1 = [[48], [49]] from rfl]; (repeat' (first | exact fa0 | refine fa1 ?_ ?_)) <;> kernel_rfl
  · rw [show allB 2 = [[48, 48], [48, 49], [49, 48], [49, 49]] from rfl]; (repeat' (first | exact fa0 | refine fa1 ?_ ?_)) <;> kernel_rfl
  · rw [show allB 3 = [[48, 48, 48], [48, 48, 49], [48, 49, 48], [48, 49, 49], [49, 48, 48], [49, 48, 49], [49, 49, 48], [49, 49, 49]] from rfl]; (repeat' (first | exact fa0 | refine fa1 ?_ ?_)) <;> kernel_rfl
theorem lot_of_row (h : m ≤ 3) : ∀ row ∈ allB m, Run sub ks Pl (g + 3) i_lot_of_row [.str row] none hp = some (.ret (.val (lotD row)) hp) := by
  rcases le3 h with rfl | rfl | rfl | rfl
  · rw [show allB 0 = [[]] from rfl]; (repeat' (first | exact fa0 | refine fa1 ?_ ?_)) <;> kernel_rfl
  · rw [show allB 1 = [[48], [49]] from rfl]; (repeat' (first | exact fa0 | refine fa1 ?_ ?_)) <;> kernel_rfl
  · rw [show allB 2 = [[48, 48], [48, 49], [49, 48], [49, 49]] from rfl]; (repeat' (first | exact fa0 | refine fa1 ?_ ?_)) <;> kernel_rfl
  · rw [show allB 3 = [[48, 48, 48], [48, 48, 49], [48, 49, 48], [48, 49, 49], [49, 48, 48], [49, 48, 49], [49, 49, 48], [49, 49, 49]] from rfl]; (repeat' (first | exact fa0 | refine fa1 ?_ ?_)) <;> kernel_rfl
theorem raw_tells (h : m ≤ 3) (hl : x.length = 2 ^ m) : ∀ o ∈ allB m, Run sub ks Pl (g + 2) i_raw_tells [.str x, .str o] none hp = some (.ret (.val (.str [tellR x o])) hp) := by
  rcases len_cases h hl with ⟨rfl, a, rfl⟩ | ⟨rfl, a, b, rfl⟩ | ⟨rfl, a, b, c, d, rfl⟩ | ⟨rfl, a, b, c, d, e, f, g, i, rfl⟩
  · rw [show allB 0 = [[]] from rfl]; (repeat' (first | exact fa0 | refine fa1 ?_ ?_)) <;> kernel_rfl
  · rw [show allB 1 = [[48], [49]] from rfl]; (repeat' (first | exact fa0 | refine fa1 ?_ ?_)) <;> kernel_rfl
  · rw [show allB 2 = [[48, 48], [48, 49], [49, 48], [49, 49]] from rfl]; (repeat' (first | exact fa0 | refine fa1 ?_ ?_)) <;> kernel_rfl
  · rw [show allB 3 = [[48, 48, 48], [48, 48, 49], [48, 49, 48], [48, 49, 49], [49, 48, 48], [49, 48, 49], [49, 49, 48], [49, 49, 49]] from rfl]; (repeat' (first | exact fa0 | refine fa1 ?_ ?_)) <;> kernel_rfl
theorem lots_ok (h : m ≤ 3) : sortOk ((allB m).map lotD) = true := by
  rcases le3 h with rfl | rfl | rfl | rfl <;> decide +kernel
theorem take_filter_snoc {A : Type} (p : A → Bool) {l : List A} {i : Nat} {a : A} (h : l[i]? = some a) : (l.take (i + 1)).filter p = (l.take i).filter p ++ (if p a = true then [a] else []) := by
  rw [List.take_add_one, h, List.filter_append]
  by_cases c : p a = true <;> simp [c]
theorem count_strs (l : List Nat) : ((l.map fun n => D.str [n]).filter fun y => eqD y (.str [49])).length = l.count 49 := by
  induction l with
  | nil => rfl
  | cons a r ih =>
    by_cases c : a = 49
    · simp [c]; simpa using ih
    · simp [c]; simpa using ih
theorem allB8 (h : m ≤ 3) : (allB m).length ≤ 8 := by rw [allB_len]; exact p8 h
def ndL (m : Nat) (x : List Nat) : List Nat := (List.range m).filter fun p => decide (pick x (flpI m p) ≠ x)
theorem bmax (i j : Int) : bltD .max [.int i, .int j] = some (.val (.int (if j > i then j else i))) := rfl
theorem needed (hx : Gt m x) : Run sub ks Pl (g + 5) i_needed [.str x] none hp = some (.ret (.val (.tup ((ndL m x).map fun i : Nat => .int i))) hp) := by
  have h3 := hx.h
  have rn : Run sub ks Pl (g + 4) i_raw_needed [.str x] none hp = some (.ret (.val (.tup ((ndL m x).map fun i : Nat => .int i))) hp) := by
    apply Fn.eq
    apply fn1 P_raw_needed
    simp [b_raw_needed, raw_ins hx.h hx.l, inRg_nat (show m ≤ 16777216 by omega)]
    have e := rangeD_map m 0
    rw [← List.range_eq_range'] at e
    rw [show ((0 : Nat) : Int) = 0 from rfl] at e
    rw [e]
    refine wp_blkO (as := List.range m) (j := fun i : Nat => .int i) (fun p => if decide (pick x (flpI m p) ≠ x) = true then some (.int (p : Nat)) else none) (by simp; omega) (fun p hp' => ?_) ?_
    · simp [clr, raw_flipped hx.h hx.l p hp']
      try (by_cases c : pick x (flpI m p) = x <;> simp [c, clr])
    · rw [filt_map]
      simp only [bck, clr]
      rw [show ((List.range m).filter fun p => decide (pick x (flpI m p) ≠ x)) = ndL m x from rfl]
      simp
  apply Fn.eq
  apply fn1 P_needed
  simp [b_needed, check_gate hx, rn]
theorem raw_sums (hx : Gt m x) : Run sub ks Pl (g + 4) i_raw_sums [.str x] none hp = some (.ret (.val (.tup (sumsL m x))) hp) := by
  obtain ⟨h, hl, hb⟩ := hx
  apply Fn.eq
  apply fn1 P_raw_sums
  have r3 := rows_of (g := g + 2) (hp := hp) h
  have a8 := allB8 h
  simp [b_raw_sums, raw_ins h hl, r3]
  refine wp_for (fun i s => ∃ o1 o4, s = ⟨[some (.val (.str x)), o1, some (.val (.int m)), some (.own ((((allB m).take i).filter (oddB m x)).map lotD)), o4, none], hp⟩) ⟨none, none, by simp⟩ (fun i d s hd hI => ?_) fun s hI => ?_
  · obtain ⟨o1, o4, rfl⟩ := hI
    rw [List.getElem?_map] at hd
    cases hq : (allB m)[i]? with
    | none => rw [hq] at hd; cases hd
    | some r =>
      rw [hq] at hd
      cases hd
      have xm := List.mem_of_getElem? hq
      simp [r3]
      refine wp_blkO (as := allB m) (j := .str) (fun o => if below o r = true then some (.str [tellR x o]) else none) (by unfold line; omega) (fun o ho => ?_) ?_
      · have ib := is_below (g := g) (hp := hp) h o ho r xm
        have tr := raw_tells (g := g + 1) (hp := hp) h hl o ho
        by_cases c : below o r = true
        · simp [clr, ib, tr, c]
        · simp [clr, ib, tr, c]
      · rw [filt_map]
        have e : ((allB m).filter fun o => below o r).map (fun o => D.str [tellR x o]) = (toldL m x r).map fun n => D.str [n] := by
          unfold toldL; rw [List.map_map]; rfl
        rw [e]
        simp [bck, clr, flat]
        rw [count_strs]
        have lr := lot_of_row (g := g) (hp := hp) h r xm
        have ll : (((allB m).take i).filter (oddB m x)).length < 16777216 := by
          have h1 := List.length_filter_le (oddB m x) ((allB m).take i)
          have h2 : ((allB m).take i).length ≤ 8 := by rw [List.length_take]; omega
          omega
        have em : Int.fmod (((toldL m x r).count 49 : Nat) : Int) 2 = (((toldL m x r).count 49 % 2 : Nat) : Int) := by
          rw [Int.fmod_eq_emod_of_nonneg _ (by omega)]; rfl
        rw [take_filter_snoc _ hq]
        by_cases c : (toldL m x r).count 49 % 2 = 1
        · have co : oddB m x r = true := by unfold oddB; simpa using c
          rw [if_pos (by rw [em, c]; rfl)]
          simp [lr, ll, co]
        · have co : oddB m x r = false := by unfold oddB; simpa using c
          rw [if_neg (by rw [em]; omega)]
          simp [co]
  · obtain ⟨o1, o4, rfl⟩ := hI
    simp only [List.length_map]
    rw [List.take_of_length_le (Nat.le_refl _)]
    have hl : ((allB m).filter (oddB m x)).length ≤ 8 := Nat.le_trans (List.length_filter_le _ _) a8
    have so : sortD (((allB m).filter (oddB m x)).map lotD) = some (sumsL m x) := by
      rw [sortD_ms, if_pos (sortOk_sub (lots_ok h) (fun x hx => ?_) (by rw [List.length_map]; unfold line; omega))]
      · rfl
      · obtain ⟨r, hr, rfl⟩ := List.mem_map.mp hx
        exact List.mem_map.mpr ⟨r, (List.mem_filter.mp hr).1, rfl⟩
    simp [so]
theorem sums_mem {d : D} : d ∈ sumsL m x ↔ ∃ r ∈ allB m, oddB m x r = true ∧ lotD r = d := by
  unfold sumsL
  rw [(List.mergeSort_perm _ _).mem_iff, List.mem_map]
  simp only [List.mem_filter, and_assoc]
def lenD : D → Nat
  | .tup x => x.length
  | _ => 0
theorem sums_max : maxL (-1) ((sumsL m x).map fun d => (lenD d : Int)) = dgI m x := by
  have key : ∀ b : Int, maxL (-1) ((sumsL m x).map fun d => (lenD d : Int)) ≤ b ↔ dgI m x ≤ b := fun b => by
    unfold dgI
    rw [maxL_le, maxL_le]
    refine and_congr Iff.rfl ?_
    constructor
    · intro h r hr
      obtain ⟨q, hq, rfl⟩ := List.mem_map.mp hr
      have := h (lenD (lotD q)) (List.mem_map.mpr ⟨lotD q, sums_mem.mpr ⟨q, (List.mem_filter.mp hq).1, (List.mem_filter.mp hq).2, rfl⟩, rfl⟩)
      simpa [lenD, lotD] using this
    · intro h r hr
      obtain ⟨d, hd, rfl⟩ := List.mem_map.mp hr
      obtain ⟨r, h1, h2, rfl⟩ := sums_mem.mp hd
      have := h ((lotN r).length : Int) (List.mem_map.mpr ⟨r, List.mem_filter.mpr ⟨h1, h2⟩, rfl⟩)
      simpa [lenD, lotD] using this
  exact Int.le_antisymm ((key _).mpr (Int.le_refl _)) ((key _).mp (Int.le_refl _))
theorem raw_degree (hx : Gt m x) : Run sub ks Pl (g + 5) i_raw_degree [.str x] none hp = some (.ret (.val (.int (dgI m x))) hp) := by
  apply Fn.eq
  apply fn1 P_raw_degree
  have hl : (sumsL m x).length ≤ 8 := by
    unfold sumsL
    rw [List.length_mergeSort, List.length_map]
    exact Nat.le_trans (List.length_filter_le _ _) (allB8 hx.h)
  simp [b_raw_degree, raw_sums hx]
  refine wp_blkM (fun d => .int (lenD d : Int)) (by unfold line; omega) (fun d hd => ?_) ?_
  · obtain ⟨r, _, _, rfl⟩ := sums_mem.mp hd
    simp [clr, lotD, lenD]
  · have im := intsD_mapf (fun d => (lenD d : Int)) (sumsL m x)
    have sm := sums_max (m := m) (x := x)
    simp [bck, clr, hl, intsD, im, sm]
    omega
theorem degree (hx : Gt m x) : Run sub ks Pl (g + 6) i_degree [.str x] none hp = some (.ret (.val (.int (dgI m x))) hp) := by
  apply Fn.eq
  apply fn1 P_degree
  simp [b_degree, check_gate hx, raw_degree hx]
theorem is_sum (hx : Gt m x) : Run sub ks Pl (g + 7) i_is_sum [.str x] none hp = some (.ret (.val (.bl (decide (dgI m x ≤ 1)))) hp) := by
  have rs : Run sub ks Pl (g + 6) i_raw_is_sum [.str x] none hp = some (.ret (.val (.bl (decide (dgI m x ≤ 1)))) hp) := by
    apply Fn.eq
    apply fn1 P_raw_is_sum
    simp [b_raw_is_sum, raw_degree hx]
  apply Fn.eq
  apply fn1 P_is_sum
  simp [b_is_sum, check_gate hx, rs]
def farN (x y : List Nat) : Nat := ((x.zip y).filter fun p => decide (p.1 ≠ p.2)).length
theorem far (hx : Gt m x) (hy : Gt m y) : Run sub ks Pl (g + 4) i_far [.str x, .str y] none hp = some (.ret (.val (.int (farN x y))) hp) := by
  have e : x.length = y.length := by rw [hx.l, hy.l]
  have l8 := hx.l8
  have l9 := hy.l8
  have ct : Run sub ks Pl (g + 3) i_check_two [.str x, .str y] none hp = some (.ret (.val .non) hp) := by
    apply Fn.eq
    apply fn2 P_check_two
    simp [b_check_two, check_gate hx, check_gate hy, e]
    omega
  have rf : Run sub ks Pl (g + 3) i_raw_far [.str x, .str y] none hp = some (.ret (.val (.int (farN x y))) hp) := by
    apply Fn.eq
    apply fn2 P_raw_far
    simp [b_raw_far, zipD_strs]
    refine wp_blkO (as := x.zip y) (j := fun p => .tup [.str [p.1], .str [p.2]]) (fun p => if decide (p.1 ≠ p.2) = true then some (.int 1) else none) (by simp; omega) (fun p hp' => ?_) ?_
    · simp [clr]
      try (by_cases c : p.1 = p.2 <;> simp [c, clr])
    · rw [filt_map]
      simp [bck, clr, farN]
  apply Fn.eq
  apply fn2 P_far
  simp [b_far, ct, rf]
theorem foldmax_le {A : Type} (f : A → Nat) : ∀ {l : List A} {a b : Nat}, l.foldl (fun a r => max a (f r)) a ≤ b ↔ a ≤ b ∧ ∀ r ∈ l, f r ≤ b
  | [], a, b => by simp
  | x :: l, a, b => by
    rw [List.foldl_cons, foldmax_le f, Nat.max_le]
    simp [and_assoc]
theorem dg_le {k : Nat} : dgI m x ≤ (k : Int) ↔ dgN m x ≤ k := by
  unfold dgI dgN
  rw [maxL_le, foldmax_le]
  constructor
  · rintro ⟨_, h⟩
    refine ⟨by omega, fun r hr => ?_⟩
    have := h _ (List.mem_map.mpr ⟨r, hr, rfl⟩)
    omega
  · rintro ⟨_, h⟩
    refine ⟨by omega, fun z hz => ?_⟩
    obtain ⟨r, hr, rfl⟩ := List.mem_map.mp hz
    have := h r hr
    omega
theorem dg_max : (if (0 : Int) > dgI m x then 0 else dgI m x) = (dgN m x : Int) := by
  by_cases c : (0 : Int) > dgI m x
  · rw [if_pos c]
    have : dgN m x ≤ 0 := dg_le.mp (by omega)
    omega
  · rw [if_neg c]
    have h1 : dgI m x ≤ (dgN m x : Int) := dg_le.mpr (Nat.le_refl _)
    have h2 : dgN m x ≤ (dgI m x).toNat := dg_le.mp (by omega)
    omega
theorem is_sum2 (hx : Gt m x) : Run sub ks Pl (g + 7) i_is_sum [.str x] none hp = some (.ret (.val (.bl (decide (dgN m x ≤ 1)))) hp) := by
  rw [is_sum hx]
  have := dg_le (m := m) (x := x) (k := 1)
  rw [show ((1 : Nat) : Int) = 1 from rfl] at this
  simp [this]
theorem fl_ne {b : Bool} {a c : Nat} (ha : Bit a) (hc : Bit c) : (fl b a ≠ fl b c) ↔ a ≠ c := by
  rcases ha with rfl | rfl <;> rcases hc with rfl | rfl <;> cases b <;> decide
theorem zip_range (x y : List Nat) (e : x.length = y.length) : x.zip y = (List.range x.length).map fun i => (x.getD i 0, y.getD i 0) := by
  apply List.ext_getElem
  · simp [e]
  · intro i h1 h2
    simp at h1
    have l1 : i < x.length := by omega
    have l2 : i < y.length := by omega
    simp [List.getD_eq_getElem?_getD, l1, l2]
theorem far_led (hx : Gt m x) (hy : Gt m y) {t : Tn} (ht : t ∈ turnsL m) : farN (led m x t) (led m y t) = farN x y := by
  unfold farN
  rw [led_perm hx.h ht, led_perm hx.h ht, zip_range x y (by rw [hx.l, hy.l]), hx.l, List.zip_map', ← List.countP_eq_length_filter, ← List.countP_eq_length_filter, List.countP_map, List.countP_map, ← (perm_range hx.h t ht).countP_eq]
  refine List.countP_congr fun i hi => ?_
  have il := (perm_range hx.h t ht).mem_iff.mp hi
  rw [List.mem_range] at il
  simp only [Function.comp, decide_eq_true_eq]
  exact fl_ne (getD_bit hx.b (by rw [hx.l]; exact il)) (getD_bit hy.b (by rw [hy.l]; exact il))
theorem turn_ok0 (h : m ≤ 3) : ∀ o ∈ ordL m, ∀ f ∈ lotL m, ∀ b ∈ [false, true], Run sub ks Pl (g + 6) i_check_turn [.int m, (Tn.mk o f b).d] none hp = some (.ret (.val .non) hp) := by
  rcases le3 h with rfl | rfl | rfl | rfl <;> unfold ordL lotL <;> (repeat' (first | exact fa0 | refine fa1 ?_ ?_)) <;> kernel_rfl
theorem turn_ok (h : m ≤ 3) {t : Tn} (ht : t ∈ turnsL m) : Run sub ks Pl (g + 6) i_check_turn [.int m, t.d] none hp = some (.ret (.val .non) hp) := by
  obtain ⟨ho, hf⟩ := mem_turns ht
  exact turn_ok0 h t.o ho t.f hf t.b (by cases t.b <;> simp)
theorem led_by (hx : Gt m x) {t : Tn} (ht : t ∈ turnsL m) : Run sub ks Pl (g + 7) i_led_by [.str x, t.d] none hp = some (.ret (.val (.str (led m x t))) hp) := by
  apply Fn.eq
  apply fn2 P_led_by
  simp [b_led_by, check_gate hx, raw_ins hx.h hx.l, turn_ok hx.h ht, raw_led hx.h hx.l ht]
theorem pln_eq (hx : Gt m x) (hy : y ∈ fam m x) : pln m y = pln m x := by unfold pln; rw [fam_eq hx hy]
theorem is_kept {r : D} (hx : Gt m x) (hy : Gt m y) {t : Tn} (ht : t ∈ turnsL m) : Run sub ks Pl (g + 8) i__law_is_kept [r, .str x, .str y, t.d] none hp = some (.ret (.val (.bl true)) hp) := by
  apply Fn.eq
  apply fn4 P__law_is_kept
  have hz := hx.led ht
  have hw := hy.led ht
  have mz := led_fam (x := x) ht
  have e1 : (ndL m (led m x t)).length = (ndL m x).length := nd_eq hx mz
  have e2 := dg_eq hx mz
  have e3 := far_led hx hy ht
  have e4 := pln_eq hx mz
  have e5 := fam_eq hx mz
  have mx : ∀ z, (if dgI m z < 0 then 0 else dgI m z) = (dgN m z : Int) := fun z => dg_max
  simp [b__law_is_kept, led_by hx ht, law_led hy ht, needed hx, needed hz, e1, degree hx, degree hz, is_sum2 hx, is_sum2 hz, e2, far hx hy, far hz hw, e3, plain_ok hx, plain_ok hz, e4, family hx, family hz, e5, bmax, mx]
  rw [eqL_str]
  simp
end
end Kb.Pr

set_option Elab.async false
set_option linter.all false
set_option maxRecDepth 100000
set_option maxHeartbeats 2000000
/-! k86: the law on families -/
namespace Kb.Pr
open Kb
theorem eqD_str {x : List Nat} : eqD (.str x) (.str x) = true := by simp
section
variable {g : Nat} {hp : List Ob} {m : Nat} {x y : List Nat}
theorem fam_repr (hx : Gt m x) : ∃ r, reprD (.tup ((fam m x).map .str)) = some r ∧ r.length ≤ 1000000 := by
  refine repr_shortT (fun d hd => ?_) (by have := fam_len (x := x) hx.h; simp; omega)
  obtain ⟨y, hy, rfl⟩ := List.mem_map.mp hd
  have hy := fam_gt hx hy
  exact repr_bits hy.b hy.l8
theorem pln_repr (hx : Gt m x) : ∃ r, reprD (.str (pln m x)) = some r ∧ r.length ≤ 1000000 := by
  have hy := fam_gt hx (pln_mem hx.h)
  obtain ⟨r, h, hl⟩ := shortR_ok (repr_bits hy.b hy.l8)
  exact ⟨r, h, by omega⟩
theorem betw_repr (h : m ≤ 3) : ∃ r, reprD (betw m x y) = some r ∧ r.length ≤ 1000000 ∧ pl 40 (betw m x y) = true := by
  unfold betw
  cases e : (turnsL m).find? fun t => decide (led m x t = y) with
  | none => exact ⟨[78, 111, 110, 101], by rfl, by decide, by simp⟩
  | some t =>
    obtain ⟨a, b⟩ := turn_repr h t (List.mem_of_find?_eq_some e)
    obtain ⟨r, h, hl⟩ := shortR_ok a
    exact ⟨r, h, by omega, by simp [Tn.d, natT]⟩
theorem stay_len (h : m ≤ 3) : (stay m x).length ≤ 96 := Nat.le_trans (List.length_filter_le _ _) (turns_len h)
theorem stay_repr (h : m ≤ 3) : ∃ r, reprD (.tup ((stay m x).map Tn.d)) = some r ∧ r.length ≤ 1000000 := by
  refine repr_shortT (fun d hd => ?_) (by have := stay_len (x := x) h; simp; omega)
  obtain ⟨t, ht, rfl⟩ := List.mem_map.mp hd
  exact (turn_repr h t (List.mem_filter.mp ht).1).1
theorem fam_rep0 (x : List Nat) (m : Nat) : pl 60 (D.tup ((fam m x).map .str)) = true := by simp
theorem find_filter {A : Type} (p : A → Bool) : ∀ l : List A, (l.filter p).head? = l.find? p
  | [] => rfl
  | a :: l => by
    rw [List.filter_cons, List.find?_cons]
    cases p a
    · exact find_filter p l
    · rfl
theorem first_nth (hy : y ∈ fam m x) : nth (((turnsL m).filter fun t => decide (led m x t = y)).map Tn.d) 0 = some (betw m x y) := by
  unfold betw
  obtain ⟨t, ht, e⟩ := fam_mem.mp hy
  rw [← find_filter]
  cases q : (turnsL m).filter fun t => decide (led m x t = y) with
  | nil =>
    have : t ∈ (turnsL m).filter fun t => decide (led m x t = y) := List.mem_filter.mpr ⟨ht, by simpa using e⟩
    rw [q] at this
    cases this
  | cons a r => simp [nth]
theorem turns_first (h : m ≤ 3) : ∃ t : Tn, nth ((turnsL m).map Tn.d) 0 = some t.d ∧ t.o.length = m := by
  rcases le3 h with rfl | rfl | rfl | rfl <;> exact ⟨_, rfl, rfl⟩
theorem family_right (hx : Gt m x) : Run sub ks Pl (g + 7) i__law_is_family_right [.str x, .lst ((turnsL m).map Tn.d)] none hp = some (.ret (.val (.bl true)) hp) := by
  apply Fn.eq
  apply fn2 P__law_is_family_right
  have tl := turns_len hx.h
  simp [b__law_is_family_right]
  refine wp_blkA (as := turnsL m) (j := Tn.d) (fun t => .tup [.str (led m x t), t.d]) (by unfold line; omega) (fun t ht => ?_) ?_
  · simp [clr, law_led hx ht]
  · obtain ⟨s1, s2⟩ := sort_led (x := x) hx.h
    obtain ⟨vs, dp⟩ := dicP_f (led m x) Tn.d (turnsL m) [] []
    simp only [List.map_nil] at dp
    obtain ⟨r1, r1e, r1l⟩ := fam_repr hx
    obtain ⟨r2, r2e, r2l⟩ := pln_repr hx
    have s3 : sortD ((ddF [] ((turnsL m).map (led m x))).map .str) = some ((fam m x).map .str) := s2
    obtain ⟨r3, r3e, r3l, r3p⟩ := betw_repr (m := m) (x := x) (y := pln m x) hx.h
    obtain ⟨r4, r4e, r4l⟩ := stay_repr (x := x) hx.h
    have fl := fam_len (x := x) hx.h
    have sl := stay_len (x := x) hx.h
    obtain ⟨t0, t0e, t0l⟩ := turns_first hx.h
    have o := orb hx
    simp [bck, clr, dp, List.map_map, s3, family hx, plain_ok hx, pln_nth hx.h, r1e, r1l, r2e, r2l]
    refine wp_blkO (as := turnsL m) (j := fun t => .tup [.str (led m x t), t.d]) (fun t => if decide (led m x t = pln m x) = true then some t.d else none) (by unfold line; omega) (fun t ht => ?_) ?_
    · simp [clr, pln_nth hx.h]
      try (by_cases c : led m x t = pln m x <;> simp [c, clr])
    · rw [filt_map]
      simp [bck, clr]
      refine wp_blkO (as := turnsL m) (j := fun t => .tup [.str (led m x t), t.d]) (fun t => if decide (led m x t = x) = true then some t.d else none) (by unfold line; omega) (fun t ht => ?_) ?_
      · simp [clr]
        try (by_cases c : led m x t = x <;> simp [c, clr])
      · rw [filt_map]
        rw [show ((turnsL m).filter fun t => decide (led m x t = x)) = stay m x from rfl]
        have fn := first_nth (pln_mem (x := x) hx.h)
        have sp : ∀ t ∈ stay m x, pl 39 t.d = true := fun t ht => by simp [Tn.d, natT]
        have i1 : isInt64 ((fam m x).length : Int) = true := by unfold isInt64; simp; omega
        have o2 : ((fam m x).length : Int) * ((stay m x).length : Int) = ((turnsL m).length : Int) := by rw [← o]; simp
        have t0f : nth ((turnsL m).map Tn.d) 0 = some (.tup [natT t0.o, natT t0.f, .str [bitC t0.b]]) := t0e
        have n0 : nth [natT t0.o, natT t0.f, .str [bitC t0.b]] 0 = some (natT t0.o) := rfl
        have tm := turns_many (g := g + 1) (hp := hp) hx.h
        simp [bck, clr, turn_to_plain hx, keepers hx, fn, r3e, r3l, r3p, r4e, r4l, t0f, family hx, sp, i1, o2, n0]
        try simp [natT, t0l, tm]
        exact sp
theorem between_right (hx : Gt m x) (hy : Gt m y) : Run sub ks Pl (g + 7) i__law_is_between_right [.str x, .str y, .lst ((turnsL m).map Tn.d)] none hp = some (.ret (.val (.bl true)) hp) := by
  apply Fn.eq
  apply fn3 P__law_is_between_right
  have tl := turns_len hx.h
  simp [b__law_is_between_right]
  refine wp_blkO (as := turnsL m) (j := Tn.d) (fun t => if decide (led m x t = y) = true then some t.d else none) (by unfold line; omega) (fun t ht => ?_) ?_
  · simp [clr, law_led hx ht]
    try (by_cases c : led m x t = y <;> simp [c, clr])
  · rw [filt_map]
    obtain ⟨r3, r3e, r3l, r3p⟩ := betw_repr (m := m) (x := x) (y := y) hx.h
    simp [bck, clr, turn_between hx hy, r3e, r3l, r3p]
    by_cases c : ∃ t, t ∈ turnsL m ∧ led m x t = y
    · rw [if_pos c, first_nth (fam_mem.mpr c)]
      simp [r3e, r3l, r3p]
    · rw [if_neg c]
      have e : betw m x y = .non := by
        unfold betw
        rw [List.find?_eq_none.mpr fun t ht z => c ⟨t, ht, by simpa using z⟩]
      rw [e] at r3e
      rw [r3e]
      exact ⟨r3l, rfl⟩
end
end Kb.Pr

set_option Elab.async false
set_option linter.all false
set_option maxRecDepth 100000
set_option maxHeartbeats 2000000
/-! k86: moved, flipped, turned are turns -/
namespace Kb.Pr
open Kb
theorem inL_map {h : List Nat} {found : List (List Nat)} : inL (.str h) (found.map .str) = decide (h ∈ found) := by
  unfold inL
  induction found with
  | nil => rfl
  | cons x r ih => simp [ih, Bool.decide_or, eq_comm]
section
variable {g : Nat} {hp : List Ob} {m : Nat} {x y : List Nat}
theorem turn_mem {o f : List Nat} {b : Bool} (ho : o ∈ ordL m) (hf : f ∈ lotL m) : (⟨o, f, b⟩ : Tn) ∈ turnsL m := by
  unfold turnsL
  refine List.mem_flatMap.mpr ⟨o, ho, List.mem_flatMap.mpr ⟨f, hf, ?_⟩⟩
  cases b <;> simp
theorem nil_lot (h : m ≤ 3) : [] ∈ lotL m := by
  rcases le3 h with rfl | rfl | rfl | rfl <;> decide
theorem rng_ord (h : m ≤ 3) : List.range m ∈ ordL m := by
  rcases le3 h with rfl | rfl | rfl | rfl <;> decide
theorem mov_lt (h : m ≤ 3) : ∀ o ∈ ordL m, ∀ j ∈ movI m o, j < 2 ^ m := by
  rcases le3 h with rfl | rfl | rfl | rfl <;> decide +kernel
theorem Gt.pick {is : List Nat} (hx : Gt m x) (l : is.length = 2 ^ m) (hi : ∀ j ∈ is, j < 2 ^ m) : Gt m (pick x is) := ⟨hx.h, by rw [pick_len, l], fun c hc => by
  obtain ⟨j, hj, rfl⟩ := List.mem_map.mp hc
  exact getD_bit hx.b (by rw [hx.l]; exact hi j hj)⟩
theorem Gt.mov {o : List Nat} (hx : Gt m x) (ho : o ∈ ordL m) : Gt m (Kb.Pr.pick x (movI m o)) := hx.pick movI_len (mov_lt hx.h o ho)
theorem Gt.flp {p : Nat} (hx : Gt m x) (ho : p ∈ List.range m) : Gt m (Kb.Pr.pick x (flpI m p)) := hx.pick flpI_len (flp_lt hx.h p ho)
theorem mov_rng (hx : Gt m x) : pick x (movI m (List.range m)) = x := by
  rcases len_cases hx.h hx.l with ⟨rfl, a, rfl⟩ | ⟨rfl, a, b, rfl⟩ | ⟨rfl, a, b, c, d, rfl⟩ | ⟨rfl, a, b, c, d, e, f, g, i, rfl⟩ <;> rfl
theorem order_ok (h : m ≤ 3) : ∀ o ∈ ordL m, Run sub ks Pl (g + 6) i_check_order [natT o, .int m] none hp = some (.ret (.val .non) hp) := by
  rcases le3 h with rfl | rfl | rfl | rfl <;> unfold ordL <;> (repeat' (first | exact fa0 | refine fa1 ?_ ?_)) <;> kernel_rfl
theorem place_ok (h : m ≤ 3) : ∀ p ∈ List.range m, Run sub ks Pl (g + 5) i_check_place [.int (p : Nat), .int m] none hp = some (.ret (.val .non) hp) := by
  rcases le3 h with rfl | rfl | rfl | rfl
  · exact fa0
  · rw [show List.range 1 = [0] from rfl]; (repeat' (first | exact fa0 | refine fa1 ?_ ?_)) <;> kernel_rfl
  · rw [show List.range 2 = [0, 1] from rfl]; (repeat' (first | exact fa0 | refine fa1 ?_ ?_)) <;> kernel_rfl
  · rw [show List.range 3 = [0, 1, 2] from rfl]; (repeat' (first | exact fa0 | refine fa1 ?_ ?_)) <;> kernel_rfl
theorem moved {o : List Nat} (hx : Gt m x) (ho : o ∈ ordL m) : Run sub ks Pl (g + 7) i_moved [.str x, natT o] none hp = some (.ret (.val (.str (pick x (movI m o)))) hp) := by
  apply Fn.eq
  apply fn2 P_moved
  simp [b_moved, check_gate hx, raw_ins hx.h hx.l, order_ok hx.h o ho, raw_moved hx.h hx.l o ho]
theorem flipped {p : Nat} (hx : Gt m x) (ho : p ∈ List.range m) : Run sub ks Pl (g + 7) i_flipped [.str x, .int (p : Nat)] none hp = some (.ret (.val (.str (pick x (flpI m p)))) hp) := by
  apply Fn.eq
  apply fn2 P_flipped
  simp [b_flipped, check_gate hx, raw_ins hx.h hx.l, place_ok hx.h p ho, raw_flipped hx.h hx.l p ho]
theorem turned (hx : Gt m x) : Run sub ks Pl (g + 4) i_turned [.str x] none hp = some (.ret (.val (.str (othL x))) hp) := by
  apply Fn.eq
  apply fn1 P_turned
  have l8 := hx.l8
  simp [b_turned, check_gate hx, raw_turned (show x.length ≤ 1000 by omega)]
def kin (m : Nat) (x : List Nat) : List (List Nat) := sdd ((ordL m).map fun o => pick x (movI m o))
theorem ord_len6 (h : m ≤ 3) : (ordL m).length ≤ 6 := by
  rcases le3 h with rfl | rfl | rfl | rfl <;> decide
theorem kin_mem : y ∈ kin m x ↔ ∃ o ∈ ordL m, pick x (movI m o) = y := by
  unfold kin
  rw [sdd_mem, List.mem_map]
theorem kin_fam (h : m ≤ 3) (hy : y ∈ kin m x) : y ∈ fam m x := by
  obtain ⟨o, ho, rfl⟩ := kin_mem.mp hy
  exact fam_mem.mpr ⟨⟨o, [], false⟩, turn_mem ho (nil_lot h), rfl⟩
theorem kin_first (h : m ≤ 3) : ∃ k, nth ((kin m x).map D.str) 0 = some (.str k) ∧ k ∈ kin m x := by
  cases e : kin m x with
  | nil =>
    have : pick x (movI m (List.range m)) ∈ kin m x := kin_mem.mpr ⟨_, rng_ord h, rfl⟩
    rw [e] at this
    cases this
  | cons a r => exact ⟨a, by simp [nth], by simp⟩
theorem kin_len (h : m ≤ 3) : (kin m x).length ≤ 6 := by
  have := sdd_len (l := (ordL m).map fun o => pick x (movI m o))
  have := ord_len6 h
  unfold kin
  simp at *
  omega
theorem raw_kin (hx : Gt m x) : Run sub ks Pl (g + 4) i_raw_kin [.str x] none hp = some (.ret (.own ((kin m x).map .str)) hp) := by
  apply Fn.eq
  apply fn1 P_raw_kin
  simp [b_raw_kin, raw_ins hx.h hx.l, all_orders hx.h]
  have ol := ord_len6 hx.h
  refine wp_blkA (as := ordL m) (j := natT) (fun o => .str (pick x (movI m o))) (by unfold line; omega) (fun o ho => ?_) ?_
  · simp [clr, raw_moved hx.h hx.l o ho]
  · have sd := setD_str (l := (ordL m).map fun o => pick x (movI m o)) (by simp; omega)
    rw [List.map_map] at sd
    simp only [Function.comp_def] at sd
    have s2 : sortD ((dd ((ordL m).map fun o => pick x (movI m o))).map .str) = some ((kin m x).map .str) := by
      refine sortD_str ?_
      have := nodup_sub (m := (ordL m).map fun o => pick x (movI m o)) (dd_nodup _) fun x hx => dd_mem.mp hx
      simp at this
      omega
    simp only [bck, clr, d_own, wp_setL]
    simp [sd]
    simp [Function.comp_def, Ka.d, s2]
theorem are_kin (hx : Gt m x) (hy : Gt m y) (hk : y ∈ kin m x) : Run sub ks Pl (g + 5) i_are_kin [.str x, .str y] none hp = some (.ret (.val (.bl true)) hp) := by
  apply Fn.eq
  apply fn2 P_are_kin
  have e : x.length = y.length := by rw [hx.l, hy.l]
  have l8 := hx.l8
  have l9 := hy.l8
  have l6 := kin_len (x := x) hx.h
  simp [b_are_kin, check_gate hx, gate_ok hy, e, raw_kin hx, inL_map, hk]
  omega
theorem plain_kin (hx : Gt m x) : ∃ k, k ∈ kin m x ∧ Run sub ks Pl (g + 5) i_plain_kin [.str x] none hp = some (.ret (.val (.str k)) hp) := by
  obtain ⟨k, h1, h2⟩ := kin_first (x := x) hx.h
  refine ⟨k, h2, ?_⟩
  apply Fn.eq
  apply fn1 P_plain_kin
  simp [b_plain_kin, check_gate hx, raw_kin hx, h1]
theorem lenN {xs : List Nat} : bltD .len [natT xs] = some (.val (.int xs.length)) := by
  show some (Sl.val (.int ((xs.map _).length : Nat))) = _
  rw [List.length_map]
theorem itN {xs : List Nat} : itemsX (natT xs) = some (xs.map fun n : Nat => .int n) := rfl
theorem are_turns {o f : List Nat} (hx : Gt m x) (ho : o ∈ ordL m) (hf : f ∈ lotL m) : Run sub ks Pl (g + 8) i__law_are_turns [.str x, natT o, natT f] none hp = some (.ret (.val (.bl true)) hp) := by
  apply Fn.eq
  apply fn3 P__law_are_turns
  have lo := ord_len hx.h o ho
  have h3 := hx.h
  have t1 : (⟨o, [], false⟩ : Tn) ∈ turnsL m := turn_mem ho (nil_lot hx.h)
  have t2 : (⟨List.range m, [], true⟩ : Tn) ∈ turnsL m := turn_mem (rng_ord hx.h) (nil_lot hx.h)
  have t3 : (⟨o, f, false⟩ : Tn) ∈ turnsL m := turn_mem ho hf
  have t4 : (⟨o, f, true⟩ : Tn) ∈ turnsL m := turn_mem ho hf
  have l1 : Run sub ks Pl (g + 7) i__law_led [.str x, .tup [natT o, .tup [], .str [48]]] none hp = some (.ret (.val (.str (pick x (movI m o)))) hp) := law_led hx t1
  have l2 : Run sub ks Pl (g + 7) i__law_led [.str x, .tup [.tup (rangeD m 0), .tup [], .str [49]]] none hp = some (.ret (.val (.str (othL x))) hp) := by
    have e := law_led (g := g + 5) (hp := hp) hx t2
    have e2 : led m x ⟨List.range m, [], true⟩ = othL (pick x (movI m (List.range m))) := rfl
    rw [e2, mov_rng hx] at e
    have e3 := rangeD_map m 0
    rw [← List.range_eq_range'] at e3
    rw [show ((0 : Nat) : Int) = 0 from rfl] at e3
    rw [e3]
    exact e
  have l3 : Run sub ks Pl (g + 7) i_led_by [.str x, .tup [natT o, natT f, .str [48]]] none hp = some (.ret (.val (.str (step m x ⟨o, f, false⟩))) hp) := led_by hx t3
  have l4 : Run sub ks Pl (g + 7) i_led_by [.str x, .tup [natT o, natT f, .str [49]]] none hp = some (.ret (.val (.str (othL (step m x ⟨o, f, false⟩)))) hp) := led_by hx t4
  have hm := hx.mov ho
  obtain ⟨k, km, pk⟩ := plain_kin (g := g + 2) (hp := hp) hx
  have kf := kin_fam hx.h km
  have e5 := pln_eq hx kf
  have ak := are_kin (g := g + 2) (hp := hp) hx hm (kin_mem.mpr ⟨o, ho, rfl⟩)
  have ro : rgOk 0 m = true := rgOk_small (by omega) (by omega) (by omega) (by omega) (by omega)
  simp [b__law_are_turns, moved hx ho, lenN, lo, ro, l1, l2, turned hx, ak, pk, plain_ok (fam_gt hx kf), plain_ok hx, e5, itN]
  refine wp_for (fun i s => ∃ o3, s = ⟨[some (.val (.str x)), some (.val (natT o)), some (.val (natT f)), o3, some (.val (.str ((f.take i).foldl (fun g p => pick g (flpI m p)) (pick x (movI m o))))), some (.val (.tup (rangeD m 0)))], hp⟩ ∧ Gt m ((f.take i).foldl (fun g p => pick g (flpI m p)) (pick x (movI m o)))) ⟨none, by simp, by simpa using hm⟩ (fun i d s hd hI => ?_) fun s hI => ?_
  · obtain ⟨o3, rfl, G⟩ := hI
    rw [List.getElem?_map] at hd
    cases q : f[i]? with
    | none => rw [q] at hd; cases hd
    | some p =>
      rw [q] at hd
      cases hd
      have pm := lot_lt hx.h f hf p (List.mem_of_getElem? q)
      simp [flipped G pm]
      rw [List.take_add_one, q]
      simp
      exact G.flp pm
  · obtain ⟨o3, rfl, G⟩ := hI
    have e : (List.take f.length f) = f := List.take_of_length_le (by omega)
    simp only [List.length_map, e] at G ⊢
    simp [l3, l4, turned G, step]
end
end Kb.Pr

set_option Elab.async false
set_option linter.all false
set_option maxRecDepth 100000
set_option maxHeartbeats 2000000
/-! k86: what is refused, the law -/
namespace Kb.Pr
open Kb
def wGate : List Nat := [103, 97, 116, 101]
def wPair : List Nat := [112, 97, 105, 114]
theorem word {g : Nat} {tf : List Ob → Option Rf} {hp : List Ob} {q : Nat} {w : List Nat} (hw : (q = c_NoGate ∧ w = wGate) ∨ (q = c_NoPair ∧ w = wPair))
    (h : ∀ hp, Fn (tf hp) (fun _ _ => False) (fun k fs hp' => k = q ∧ fs = [] ∧ hp' = hp)) : Run sub ks Pl (g + 1) i__law_word [] (some tf) hp = some (.ret (.val (.str w)) hp) := by
  apply Fn.eq
  refine fnT_of_wp P__law_word (by rfl) ?_
  simp [b__law_word]
  refine wp_act rfl ?_
  refine (h hp).mono (fun _ _ z => z.elim) fun k fs hp' z => ?_
  obtain ⟨rfl, rfl, rfl⟩ := z
  rcases hw with ⟨rfl, rfl⟩ | ⟨rfl, rfl⟩
  · simp [sub, subT, c_NoGate, k_GateError, k_NoGate, k_NoPair, k_ValueError, enter1, drop1, flat, idx1, nth, wGate]
  · simp [sub, subT, c_NoPair, k_GateError, k_NoGate, k_NoPair, k_ValueError, enter1, drop1, flat, idx1, nth, wPair]
/-- a lambda that raises -/
theorem lam {c : Cfg} {g : Nat} {th : Ex} {x : Option Sl} {l : List (Option Sl)} {hp : List Ob} {QS : Sl → S → Prop} {E : Nat → List D → S → Prop} (q : Nat) (w : List Nat) (hc : c.call = Run sub ks Pl (g + 1)) (hw : (q = c_NoGate ∧ w = wGate) ∨ (q = c_NoPair ∧ w = wPair))
    (h : ∀ hp, Wp (vOf th (ev c th)) ⟨hidO (x :: l), hp⟩ (fun _ _ => False) (fun k fs s => k = q ∧ fs = [] ∧ s.hp = hp)) (k : QS (.val (.str w)) ⟨x :: l, hp⟩) : Wp (ev c (.wcall i__law_word th)) ⟨x :: l, hp⟩ QS E := by
  refine wp_wcall fun tf htf => ?_
  rw [hc, word hw fun hp => htf hp _ _ (h hp)]
  exact Fn_ret.mpr k
def badG (d : D) : Prop := ∀ (g : Nat) (hp : List Ob), Run sub ks Pl (g + 2) i_check_gate [d] none hp = some (.exn c_NoGate [] hp)
theorem badGs {x : List Nat} : ∀ d ∈ [.non, .str [], .str [50], .str [48, 49, 49], .str [48, 49, 48, 49, 48], .str [48, 97], .int 0, .tup [.str [48]], .str [48, 49, 48, 49, 48, 49, 48, 49, 48, 49, 48, 49, 48, 49, 48, 49], D.lst [.str x]], badG d := by
  simp only [List.forall_mem_cons]
  refine ⟨?_, ?_, ?_, ?_, ?_, ?_, ?_, ?_, ?_, ?_, fun d h => nomatch h⟩ <;> intro g hp <;> kernel_rfl
section
variable {g : Nat} {hp : List Ob} {m n : Nat} {x y : List Nat} {d d2 : D}
theorem bad_family (h : badG d) : Run sub ks Pl (g + 3) i_family [d] none hp = some (.exn c_NoGate [] hp) := by
  apply Fn.eqx
  apply fn1 P_family
  simp [b_family, h g hp]
theorem bad_plain (h : badG d) : Run sub ks Pl (g + 3) i_plain [d] none hp = some (.exn c_NoGate [] hp) := by
  apply Fn.eqx
  apply fn1 P_plain
  simp [b_plain, h g hp]
theorem bad_to (h : badG d) : Run sub ks Pl (g + 3) i_turn_to_plain [d] none hp = some (.exn c_NoGate [] hp) := by
  apply Fn.eqx
  apply fn1 P_turn_to_plain
  simp [b_turn_to_plain, h g hp]
theorem bad_keepers (h : badG d) : Run sub ks Pl (g + 3) i_keepers [d] none hp = some (.exn c_NoGate [] hp) := by
  apply Fn.eqx
  apply fn1 P_keepers
  simp [b_keepers, h g hp]
theorem bad_between (h : badG d) : Run sub ks Pl (g + 3) i_turn_between [d, d2] none hp = some (.exn c_NoGate [] hp) := by
  apply Fn.eqx
  apply fn2 P_turn_between
  simp [b_turn_between, h g hp]
theorem bad_between2 (hx : Gt m x) (h : badG d) : Run sub ks Pl (g + 3) i_turn_between [.str x, d] none hp = some (.exn c_NoGate [] hp) := by
  apply Fn.eqx
  apply fn2 P_turn_between
  simp [b_turn_between, check_gate hx, h g hp]
theorem bad_pair (hx : Gt m x) (hy : Gt n y) (h : m ≠ n) : Run sub ks Pl (g + 3) i_turn_between [.str x, .str y] none hp = some (.exn c_NoPair [] hp) := by
  apply Fn.eqx
  apply fn2 P_turn_between
  have l8 := hx.l8
  have l9 := hy.l8
  have e : ¬ x.length = y.length := fun z => h (by
    rw [hx.l, hy.l] at z
    rcases le3 hx.h with rfl | rfl | rfl | rfl <;> rcases le3 hy.h with rfl | rfl | rfl | rfl <;> first | rfl | (exact absurd z (by decide)))
  have e2 : ¬ (x.length : Int) = y.length := by omega
  simp [b_turn_between, check_gate hx, check_gate hy, e2]
  omega
theorem law {ns : List Int} (hn : ns.length ≤ 63) : Fn (Run sub ks Pl (g + 31) i_law [.scr ns] none []) (fun v _ => v = .val (.bl true)) noE := by
  apply fn1 P_law
  simp [b_law]
  refine hand hn fun hp H => ?_
  simp [inRg_int]
  refine wp_for (fun i s => ∃ hp o2 o3 o4 o5 o6 o7 o8 o9 o10, HandOk hp ∧ s = ⟨[some (.val (.scr ns)), some (.val (.ref 0)), o2, o3, o4, o5, o6, o7, o8, o9, o10], hp⟩) ⟨hp, none, none, none, none, none, none, none, none, none, H, rfl⟩ (fun i d s hd hI => ?_) fun s hI => ?_
  · obtain ⟨hp, o2, o3, o4, o5, o6, o7, o8, o9, o10, H, rfl⟩ := hI
    simp
    refine any H (by simp) (by simp) fun d1 hp1 hd1 H1 => ?_
    obtain ⟨m, rfl, hm⟩ : ∃ m : Nat, d1 = .int m ∧ m ≤ 3 := by
      simp at hd1
      rcases hd1 with rfl | rfl | rfl | rfl
      · exact ⟨0, rfl, by omega⟩
      · exact ⟨1, rfl, by omega⟩
      · exact ⟨2, rfl, by omega⟩
      · exact ⟨3, rfl, by omega⟩
    have tl := turns_len hm
    simp [law_turns hm]
    refine gate hm H1 fun x hp2 hx lx H2 => ?_
    have gx : Gt m x := ⟨hm, lx, hx⟩
    simp
    refine any H2 (by simp [turns_ne hm]) (by simp; omega) fun d2 hp3 hd2 H3 => ?_
    obtain ⟨t, ht, rfl⟩ := List.mem_map.mp hd2
    simp
    refine gate hm H3 fun x2 hp4 hx2 lx2 H4 => ?_
    have gx2 : Gt m x2 := ⟨hm, lx2, hx2⟩
    simp [law_led gx ht]
    refine any H4 (by simp) (by simp) fun d3 hp5 hd3 H5 => ?_
    obtain ⟨y, rfl, gy⟩ : ∃ y, d3 = .str y ∧ Gt m y := by
      simp at hd3
      rcases hd3 with rfl | rfl
      · exact ⟨_, rfl, gx2⟩
      · exact ⟨_, rfl, gx.led ht⟩
    obtain ⟨ho, hf⟩ := mem_turns ht
    have n0 : nth [natT t.o, natT t.f, .str [bitC t.b]] 0 = some (natT t.o) := rfl
    have n1 : nth [natT t.o, natT t.f, .str [bitC t.b]] 1 = some (natT t.f) := rfl
    have ik := is_kept (g := g + 22) (hp := hp5) (r := .ref 0) gx gy ht
    unfold Tn.d at ik
    simp [family_right gx, between_right gx gy, Tn.d, ik, n0, n1, are_turns gx ho hf]
    refine any H5 (by simp) (by simp) fun odd hp6 hd6 H6 => ?_
    have bo := badGs odd hd6
    refine draw H6 (by decide) (by decide) fun dd hp7 q0 q1 H7 => ?_
    obtain ⟨n, hn, n3, nm⟩ : ∃ n : Nat, ((m : Int) + 1 + dd).fmod 4 = n ∧ n ≤ 3 ∧ m ≠ n := ⟨(((m : Int) + 1 + dd) % 4).toNat, by rw [Int.fmod_eq_emod_of_nonneg _ (by omega)]; omega, by omega, by omega⟩
    simp [hn]
    refine gate n3 H7 fun w hp8 hw lw H8 => ?_
    have gw : Gt n w := ⟨n3, lw, hw⟩
    try simp
    have w1 : (c_NoGate = c_NoGate ∧ wGate = wGate) ∨ (c_NoGate = c_NoPair ∧ wGate = wPair) := .inl ⟨rfl, rfl⟩
    have w2 : (c_NoPair = c_NoGate ∧ wPair = wGate) ∨ (c_NoPair = c_NoPair ∧ wPair = wPair) := .inr ⟨rfl, rfl⟩
    refine lam _ _ rfl w1 (fun hp => by simp [hidO, bad_family bo]) ?_
    simp
    refine lam _ _ rfl w1 (fun hp => by simp [hidO, bad_plain bo]) ?_
    simp
    refine lam _ _ rfl w1 (fun hp => by simp [hidO, bad_to bo]) ?_
    simp
    refine lam _ _ rfl w1 (fun hp => by simp [hidO, bad_keepers bo]) ?_
    simp
    refine lam _ _ rfl w1 (fun hp => by simp [hidO, bad_between bo]) ?_
    simp
    refine lam _ _ rfl w1 (fun hp => by simp [hidO, bad_between2 gx bo]) ?_
    simp
    refine lam _ _ rfl w2 (fun hp => by simp [hidO, bad_pair gx gw nm]) ?_
    simp [wGate, wPair]
    try exact H8
  · obtain ⟨hp, o2, o3, o4, o5, o6, o7, o8, o9, o10, H, rfl⟩ := hI
    simp
end
theorem plain (ns : List Int) (hn : ns.length ≤ 63) : ∃ hp', Kb.run sub ks Pl (30 + 1) i_law [.scr ns] none [] = some (.ret (.val (.bl true)) hp') := by
  have h := law (g := 0) hn
  rw [Run_eq] at h
  generalize hr : Kb.run sub ks Pl (0 + 31) i_law [.scr ns] none [] = r at h
  cases r with
  | none => exact (Fn_none.mp h).elim
  | some r =>
    cases r with
    | ret v hp => exact ⟨hp, by rw [Fn_ret.mp h]⟩
    | exn c fs hp => exact (Fn_exn.mp h).elim
end Kb.Pr

set_option Elab.async false
set_option linter.all false
set_option maxRecDepth 100000
set_option maxHeartbeats 0
/-! Pk86b: the checks of the text, the head. -/
namespace Kb.Pr
open PySem PySem.Spec PyProof.Rows L2 Kb

def top (i : Nat) : Stmt := (PySem.Challenge.pw_keptorbuilt_k86_whole_families_and_what).main.body.getD i (.Pass ⟨0, 0, 0, 0⟩)
def Tt : Tb := { fn := ((["is_integer", "is_within", "is_sized", "is_lot", "is_bit", "is_order", "all_orders", "rows_of", "number_of", "other_bit", "turned_row", "flipped_row", "lots_of", "by_size", "is_gate", "check_gate", "raw_ins", "raw_tells", "check_many", "check_place", "raw_of", "raw_turned", "turned", "raw_flipped"] : List PySem.Str) ++ (["flipped", "raw_moved", "check_order", "moved", "raw_needed", "needed", "raw_kin", "plain_kin", "are_kin", "is_turn_of", "check_turn", "raw_led", "led_by", "all_turns", "turns_many", "raw_family", "family", "plain", "raw_between", "turn_to_plain", "keepers", "turn_between", "lot_of_row", "is_below"] : List PySem.Str) ++ (["raw_sums", "raw_degree", "degree", "check_two", "raw_is_sum", "is_sum", "raw_far", "far", "_law_hand", "_law_draw", "_law_any", "_law_gate", "_law_rows", "_law_orders", "_law_turns", "_law_led", "_law_word", "_law_is_family_right", "_law_is_between_right", "_law_is_kept", "_law_are_turns", "law"] : List PySem.Str)), ks := ["BITS", "MOST_INPUTS", "PLACES", "SIZES"], exs := ["GateError", "NoGate", "NoMany", "NoPlace", "NoOrder", "NoPair", "NoTurn"], cat := ["GateError", "NoGate", "NoPair", "ValueError"], th := fun j => j == 64, gd := fun j => j == 65 || j == 66 || j == 69 }
def s_is_integer : Fs := { x := "is_integer", ps := ["thing"], ns := ["thing"], body := defBody (top 4), scope := defScope (top 4), lam := false, th := false, gd := false }
theorem ok_is_integer : prg1 Tt 0 s_is_integer f_is_integer = true := by decide +kernel
def s_is_within : Fs := { x := "is_within", ps := ["thing", "low", "high"], ns := ["thing", "low", "high"], body := defBody (top 5), scope := defScope (top 5), lam := false, th := false, gd := false }
theorem ok_is_within : prg1 Tt 1 s_is_within f_is_within = true := by decide +kernel
def s_is_sized : Fs := { x := "is_sized", ps := ["thing", "low", "high"], ns := ["thing", "low", "high"], body := defBody (top 6), scope := defScope (top 6), lam := false, th := false, gd := false }
theorem ok_is_sized : prg1 Tt 2 s_is_sized f_is_sized = true := by decide +kernel
def s_is_lot : Fs := { x := "is_lot", ps := ["thing", "below"], ns := ["thing", "below", "one", "other"], body := defBody (top 7), scope := defScope (top 7), lam := false, th := false, gd := false }
theorem ok_is_lot : prg1 Tt 3 s_is_lot f_is_lot = true := by decide +kernel
def s_is_bit : Fs := { x := "is_bit", ps := ["thing"], ns := ["thing"], body := defBody (top 8), scope := defScope (top 8), lam := false, th := false, gd := false }
theorem ok_is_bit : prg1 Tt 4 s_is_bit f_is_bit = true := by decide +kernel
def s_is_order : Fs := { x := "is_order", ps := ["thing", "many"], ns := ["thing", "many", "one"], body := defBody (top 9), scope := defScope (top 9), lam := false, th := false, gd := false }
theorem ok_is_order : prg1 Tt 5 s_is_order f_is_order = true := by decide +kernel
def s_all_orders : Fs := { x := "all_orders", ps := ["many"], ns := ["many", "found", "turn", "longer", "one", "place"], body := defBody (top 10), scope := defScope (top 10), lam := false, th := false, gd := false }
theorem ok_all_orders : prg1 Tt 6 s_all_orders f_all_orders = true := by decide +kernel
def s_rows_of : Fs := { x := "rows_of", ps := ["many"], ns := ["many", "found", "turn", "longer", "row"], body := defBody (top 11), scope := defScope (top 11), lam := false, th := false, gd := false }
theorem ok_rows_of : prg1 Tt 7 s_rows_of f_rows_of = true := by decide +kernel
def s_number_of : Fs := { x := "number_of", ps := ["row"], ns := ["row", "found", "sign"], body := defBody (top 12), scope := defScope (top 12), lam := false, th := false, gd := false }
theorem ok_number_of : prg1 Tt 8 s_number_of f_number_of = true := by decide +kernel
def s_other_bit : Fs := { x := "other_bit", ps := ["bit"], ns := ["bit"], body := defBody (top 13), scope := defScope (top 13), lam := false, th := false, gd := false }
theorem ok_other_bit : prg1 Tt 9 s_other_bit f_other_bit = true := by decide +kernel
def s_turned_row : Fs := { x := "turned_row", ps := ["row"], ns := ["row", "sign"], body := defBody (top 14), scope := defScope (top 14), lam := false, th := false, gd := false }
theorem ok_turned_row : prg1 Tt 10 s_turned_row f_turned_row = true := by decide +kernel
def s_flipped_row : Fs := { x := "flipped_row", ps := ["row", "place"], ns := ["row", "place"], body := defBody (top 15), scope := defScope (top 15), lam := false, th := false, gd := false }
theorem ok_flipped_row : prg1 Tt 11 s_flipped_row f_flipped_row = true := by decide +kernel
def s_lots_of : Fs := { x := "lots_of", ps := ["things"], ns := ["things", "found", "one", "longer", "lot"], body := defBody (top 16), scope := defScope (top 16), lam := false, th := false, gd := false }
theorem ok_lots_of : prg1 Tt 12 s_lots_of f_lots_of = true := by decide +kernel
def s_by_size : Fs := { x := "by_size", ps := ["lot"], ns := ["lot"], body := defBody (top 17), scope := defScope (top 17), lam := false, th := false, gd := false }
theorem ok_by_size : prg1 Tt 13 s_by_size f_by_size = true := by decide +kernel
def s_is_gate : Fs := { x := "is_gate", ps := ["thing"], ns := ["thing", "sign"], body := defBody (top 28), scope := defScope (top 28), lam := false, th := false, gd := false }
theorem ok_is_gate : prg1 Tt 14 s_is_gate f_is_gate = true := by decide +kernel
def s_check_gate : Fs := { x := "check_gate", ps := ["thing"], ns := ["thing"], body := defBody (top 29), scope := defScope (top 29), lam := false, th := false, gd := false }
theorem ok_check_gate : prg1 Tt 15 s_check_gate f_check_gate = true := by decide +kernel
def s_raw_ins : Fs := { x := "raw_ins", ps := ["gate"], ns := ["gate"], body := defBody (top 30), scope := defScope (top 30), lam := false, th := false, gd := false }
theorem ok_raw_ins : prg1 Tt 16 s_raw_ins f_raw_ins = true := by decide +kernel
def s_raw_tells : Fs := { x := "raw_tells", ps := ["gate", "row"], ns := ["gate", "row"], body := defBody (top 31), scope := defScope (top 31), lam := false, th := false, gd := false }
theorem ok_raw_tells : prg1 Tt 17 s_raw_tells f_raw_tells = true := by decide +kernel
def s_check_many : Fs := { x := "check_many", ps := ["many"], ns := ["many"], body := defBody (top 32), scope := defScope (top 32), lam := false, th := false, gd := false }
theorem ok_check_many : prg1 Tt 18 s_check_many f_check_many = true := by decide +kernel
def s_check_place : Fs := { x := "check_place", ps := ["place", "many"], ns := ["place", "many"], body := defBody (top 33), scope := defScope (top 33), lam := false, th := false, gd := false }
theorem ok_check_place : prg1 Tt 19 s_check_place f_check_place = true := by decide +kernel
def s_raw_of : Fs := { x := "raw_of", ps := ["many", "told"], ns := ["many", "told", "row"], body := defBody (top 34), scope := defScope (top 34), lam := false, th := false, gd := false }
theorem ok_raw_of : prg1 Tt 20 s_raw_of f_raw_of = true := by decide +kernel
def s_raw_turned : Fs := { x := "raw_turned", ps := ["gate"], ns := ["gate"], body := defBody (top 35), scope := defScope (top 35), lam := false, th := false, gd := false }
theorem ok_raw_turned : prg1 Tt 21 s_raw_turned f_raw_turned = true := by decide +kernel
def s_turned : Fs := { x := "turned", ps := ["gate"], ns := ["gate"], body := defBody (top 36), scope := defScope (top 36), lam := false, th := false, gd := false }
theorem ok_turned : prg1 Tt 22 s_turned f_turned = true := by decide +kernel
def s_raw_flipped : Fs := { x := "raw_flipped", ps := ["gate", "place"], ns := ["gate", "place", "many", "told", "row"], body := defBody (top 37), scope := defScope (top 37), lam := false, th := false, gd := false }
theorem ok_raw_flipped : prg1 Tt 23 s_raw_flipped f_raw_flipped = true := by decide +kernel
def s_flipped : Fs := { x := "flipped", ps := ["gate", "place"], ns := ["gate", "place"], body := defBody (top 38), scope := defScope (top 38), lam := false, th := false, gd := false }
theorem ok_flipped : prg1 Tt 24 s_flipped f_flipped = true := by decide +kernel
def s_raw_moved : Fs := { x := "raw_moved", ps := ["gate", "order"], ns := ["gate", "order", "told", "row", "place"], body := defBody (top 39), scope := defScope (top 39), lam := false, th := false, gd := false }
theorem ok_raw_moved : prg1 Tt 25 s_raw_moved f_raw_moved = true := by decide +kernel
def s_check_order : Fs := { x := "check_order", ps := ["order", "many"], ns := ["order", "many"], body := defBody (top 40), scope := defScope (top 40), lam := false, th := false, gd := false }
theorem ok_check_order : prg1 Tt 26 s_check_order f_check_order = true := by decide +kernel
def s_moved : Fs := { x := "moved", ps := ["gate", "order"], ns := ["gate", "order"], body := defBody (top 41), scope := defScope (top 41), lam := false, th := false, gd := false }
theorem ok_moved : prg1 Tt 27 s_moved f_moved = true := by decide +kernel
def s_raw_needed : Fs := { x := "raw_needed", ps := ["gate"], ns := ["gate", "place"], body := defBody (top 42), scope := defScope (top 42), lam := false, th := false, gd := false }
theorem ok_raw_needed : prg1 Tt 28 s_raw_needed f_raw_needed = true := by decide +kernel
def s_needed : Fs := { x := "needed", ps := ["gate"], ns := ["gate"], body := defBody (top 43), scope := defScope (top 43), lam := false, th := false, gd := false }
theorem ok_needed : prg1 Tt 29 s_needed f_needed = true := by decide +kernel
def s_raw_kin : Fs := { x := "raw_kin", ps := ["gate"], ns := ["gate", "order"], body := defBody (top 44), scope := defScope (top 44), lam := false, th := false, gd := false }
theorem ok_raw_kin : prg1 Tt 30 s_raw_kin f_raw_kin = true := by decide +kernel
def s_plain_kin : Fs := { x := "plain_kin", ps := ["gate"], ns := ["gate"], body := defBody (top 45), scope := defScope (top 45), lam := false, th := false, gd := false }
theorem ok_plain_kin : prg1 Tt 31 s_plain_kin f_plain_kin = true := by decide +kernel
def s_are_kin : Fs := { x := "are_kin", ps := ["one", "other"], ns := ["one", "other"], body := defBody (top 46), scope := defScope (top 46), lam := false, th := false, gd := false }
theorem ok_are_kin : prg1 Tt 32 s_are_kin f_are_kin = true := by decide +kernel
def s_is_turn_of : Fs := { x := "is_turn_of", ps := ["many", "thing"], ns := ["many", "thing"], body := defBody (top 48), scope := defScope (top 48), lam := false, th := false, gd := false }
theorem ok_is_turn_of : prg1 Tt 33 s_is_turn_of f_is_turn_of = true := by decide +kernel
def s_check_turn : Fs := { x := "check_turn", ps := ["many", "turn"], ns := ["many", "turn"], body := defBody (top 49), scope := defScope (top 49), lam := false, th := false, gd := false }
theorem ok_check_turn : prg1 Tt 34 s_check_turn f_check_turn = true := by decide +kernel
def s_raw_led : Fs := { x := "raw_led", ps := ["gate", "turn"], ns := ["gate", "turn", "found", "place", "order", "flips", "bit"], body := defBody (top 50), scope := defScope (top 50), lam := false, th := false, gd := false }
theorem ok_raw_led : prg1 Tt 35 s_raw_led f_raw_led = true := by decide +kernel
def s_led_by : Fs := { x := "led_by", ps := ["gate", "turn"], ns := ["gate", "turn"], body := defBody (top 51), scope := defScope (top 51), lam := false, th := false, gd := false }
theorem ok_led_by : prg1 Tt 36 s_led_by f_led_by = true := by decide +kernel
def s_all_turns : Fs := { x := "all_turns", ps := ["many"], ns := ["many", "found", "order", "flips"], body := defBody (top 52), scope := defScope (top 52), lam := false, th := false, gd := false }
theorem ok_all_turns : prg1 Tt 37 s_all_turns f_all_turns = true := by decide +kernel
def s_turns_many : Fs := { x := "turns_many", ps := ["many"], ns := ["many"], body := defBody (top 53), scope := defScope (top 53), lam := false, th := false, gd := false }
theorem ok_turns_many : prg1 Tt 38 s_turns_many f_turns_many = true := by decide +kernel
def s_raw_family : Fs := { x := "raw_family", ps := ["gate"], ns := ["gate", "turn"], body := defBody (top 54), scope := defScope (top 54), lam := false, th := false, gd := false }
theorem ok_raw_family : prg1 Tt 39 s_raw_family f_raw_family = true := by decide +kernel
def s_family : Fs := { x := "family", ps := ["gate"], ns := ["gate"], body := defBody (top 55), scope := defScope (top 55), lam := false, th := false, gd := false }
theorem ok_family : prg1 Tt 40 s_family f_family = true := by decide +kernel
def s_plain : Fs := { x := "plain", ps := ["gate"], ns := ["gate"], body := defBody (top 56), scope := defScope (top 56), lam := false, th := false, gd := false }
theorem ok_plain : prg1 Tt 41 s_plain f_plain = true := by decide +kernel
def s_raw_between : Fs := { x := "raw_between", ps := ["one", "other"], ns := ["one", "other", "turn"], body := defBody (top 57), scope := defScope (top 57), lam := false, th := false, gd := false }
theorem ok_raw_between : prg1 Tt 42 s_raw_between f_raw_between = true := by decide +kernel
def s_turn_to_plain : Fs := { x := "turn_to_plain", ps := ["gate"], ns := ["gate"], body := defBody (top 58), scope := defScope (top 58), lam := false, th := false, gd := false }
theorem ok_turn_to_plain : prg1 Tt 43 s_turn_to_plain f_turn_to_plain = true := by decide +kernel
def s_keepers : Fs := { x := "keepers", ps := ["gate"], ns := ["gate", "turn"], body := defBody (top 59), scope := defScope (top 59), lam := false, th := false, gd := false }
theorem ok_keepers : prg1 Tt 44 s_keepers f_keepers = true := by decide +kernel
def s_turn_between : Fs := { x := "turn_between", ps := ["one", "other"], ns := ["one", "other"], body := defBody (top 60), scope := defScope (top 60), lam := false, th := false, gd := false }
theorem ok_turn_between : prg1 Tt 45 s_turn_between f_turn_between = true := by decide +kernel
def s_lot_of_row : Fs := { x := "lot_of_row", ps := ["row"], ns := ["row", "place", "sign"], body := defBody (top 62), scope := defScope (top 62), lam := false, th := false, gd := false }
theorem ok_lot_of_row : prg1 Tt 46 s_lot_of_row f_lot_of_row = true := by decide +kernel
def s_is_below : Fs := { x := "is_below", ps := ["one", "other"], ns := ["one", "other", "sign", "its"], body := defBody (top 63), scope := defScope (top 63), lam := false, th := false, gd := false }
theorem ok_is_below : prg1 Tt 47 s_is_below f_is_below = true := by decide +kernel
def s_raw_sums : Fs := { x := "raw_sums", ps := ["gate"], ns := ["gate", "row", "many", "found", "told", "one"], body := defBody (top 64), scope := defScope (top 64), lam := false, th := false, gd := false }
theorem ok_raw_sums : prg1 Tt 48 s_raw_sums f_raw_sums = true := by decide +kernel
def s_raw_degree : Fs := { x := "raw_degree", ps := ["gate"], ns := ["gate", "lot"], body := defBody (top 65), scope := defScope (top 65), lam := false, th := false, gd := false }
theorem ok_raw_degree : prg1 Tt 49 s_raw_degree f_raw_degree = true := by decide +kernel
def s_degree : Fs := { x := "degree", ps := ["gate"], ns := ["gate"], body := defBody (top 66), scope := defScope (top 66), lam := false, th := false, gd := false }
theorem ok_degree : prg1 Tt 50 s_degree f_degree = true := by decide +kernel
def s_check_two : Fs := { x := "check_two", ps := ["one", "other"], ns := ["one", "other"], body := defBody (top 67), scope := defScope (top 67), lam := false, th := false, gd := false }
theorem ok_check_two : prg1 Tt 51 s_check_two f_check_two = true := by decide +kernel
def s_raw_is_sum : Fs := { x := "raw_is_sum", ps := ["gate"], ns := ["gate"], body := defBody (top 68), scope := defScope (top 68), lam := false, th := false, gd := false }
theorem ok_raw_is_sum : prg1 Tt 52 s_raw_is_sum f_raw_is_sum = true := by decide +kernel
def s_is_sum : Fs := { x := "is_sum", ps := ["gate"], ns := ["gate"], body := defBody (top 69), scope := defScope (top 69), lam := false, th := false, gd := false }
theorem ok_is_sum : prg1 Tt 53 s_is_sum f_is_sum = true := by decide +kernel
def s_raw_far : Fs := { x := "raw_far", ps := ["one", "other"], ns := ["one", "other", "bit", "its"], body := defBody (top 70), scope := defScope (top 70), lam := false, th := false, gd := false }
theorem ok_raw_far : prg1 Tt 54 s_raw_far f_raw_far = true := by decide +kernel
def s_far : Fs := { x := "far", ps := ["one", "other"], ns := ["one", "other"], body := defBody (top 71), scope := defScope (top 71), lam := false, th := false, gd := false }
theorem ok_far : prg1 Tt 55 s_far f_far = true := by decide +kernel
def s__law_hand : Fs := { x := "_law_hand", ps := ["script"], ns := ["script", "cells", "cell"], body := defBody (top 73), scope := defScope (top 73), lam := false, th := false, gd := false }
theorem ok__law_hand : prg1 Tt 56 s__law_hand f__law_hand = true := by decide +kernel
def s__law_draw : Fs := { x := "_law_draw", ps := ["hand", "below"], ns := ["hand", "below", "mixed", "cell", "digit"], body := defBody (top 74), scope := defScope (top 74), lam := false, th := false, gd := false }
theorem ok__law_draw : prg1 Tt 57 s__law_draw f__law_draw = true := by decide +kernel
def s__law_any : Fs := { x := "_law_any", ps := ["hand", "things"], ns := ["hand", "things"], body := defBody (top 75), scope := defScope (top 75), lam := false, th := false, gd := false }
theorem ok__law_any : prg1 Tt 58 s__law_any f__law_any = true := by decide +kernel
def s__law_gate : Fs := { x := "_law_gate", ps := ["hand", "many"], ns := ["hand", "many", "turn"], body := defBody (top 76), scope := defScope (top 76), lam := false, th := false, gd := false }
theorem ok__law_gate : prg1 Tt 59 s__law_gate f__law_gate = true := by decide +kernel
def s__law_rows : Fs := { x := "_law_rows", ps := ["many"], ns := ["many", "rows", "turn", "longer", "row"], body := defBody (top 77), scope := defScope (top 77), lam := false, th := false, gd := false }
theorem ok__law_rows : prg1 Tt 60 s__law_rows f__law_rows = true := by decide +kernel
def s__law_orders : Fs := { x := "_law_orders", ps := ["many"], ns := ["many", "found", "turn", "longer", "order", "place"], body := defBody (top 78), scope := defScope (top 78), lam := false, th := false, gd := false }
theorem ok__law_orders : prg1 Tt 61 s__law_orders f__law_orders = true := by decide +kernel
def s__law_turns : Fs := { x := "_law_turns", ps := ["many"], ns := ["many", "lots", "place", "found", "order", "flips", "lot"], body := defBody (top 79), scope := defScope (top 79), lam := false, th := false, gd := false }
theorem ok__law_turns : prg1 Tt 62 s__law_turns f__law_turns = true := by decide +kernel
def s__law_led : Fs := { x := "_law_led", ps := ["gate", "turn"], ns := ["gate", "turn", "row", "order", "flips", "bit", "rows", "found", "here", "told", "at", "one", "place"], body := defBody (top 80), scope := defScope (top 80), lam := false, th := false, gd := false }
theorem ok__law_led : prg1 Tt 63 s__law_led f__law_led = true := by decide +kernel
def s__law_word : Fs := { x := "_law_word", ps := ["call"], ns := ["call", "found", "error", "flags"], body := defBody (top 81), scope := defScope (top 81), lam := false, th := true, gd := false }
theorem ok__law_word : prg1 Tt 64 s__law_word f__law_word = true := by decide +kernel
def s__law_is_family_right : Fs := { x := "_law_is_family_right", ps := ["gate", "turns"], ns := ["gate", "turns", "own_led", "due", "first", "own_stays", "turn", "there"], body := defBody (top 82), scope := defScope (top 82), lam := false, th := false, gd := true }
theorem ok__law_is_family_right : prg1 Tt 65 s__law_is_family_right f__law_is_family_right = true := by decide +kernel
def s__law_is_between_right : Fs := { x := "_law_is_between_right", ps := ["one", "other", "turns"], ns := ["one", "other", "turns", "leads", "turn"], body := defBody (top 83), scope := defScope (top 83), lam := false, th := false, gd := true }
theorem ok__law_is_between_right : prg1 Tt 66 s__law_is_between_right f__law_is_between_right = true := by decide +kernel
def s__law_is_kept : Fs := { x := "_law_is_kept", ps := ["hand", "gate", "other", "turn"], ns := ["hand", "gate", "other", "turn", "own_led", "there"], body := defBody (top 84), scope := defScope (top 84), lam := false, th := false, gd := false }
theorem ok__law_is_kept : prg1 Tt 67 s__law_is_kept f__law_is_kept = true := by decide +kernel
def s__law_are_turns : Fs := { x := "_law_are_turns", ps := ["gate", "order", "flips"], ns := ["gate", "order", "flips", "place", "here", "same"], body := defBody (top 85), scope := defScope (top 85), lam := false, th := false, gd := false }
theorem ok__law_are_turns : prg1 Tt 68 s__law_are_turns f__law_are_turns = true := by decide +kernel
def s_law : Fs := { x := "law", ps := ["script"], ns := ["script", "hand", "lap", "many", "turn", "other", "odd", "wide", "words", "turns", "gate"], body := defBody (top 86), scope := defScope (top 86), lam := true, th := false, gd := true }
theorem ok_law : prg1 Tt 69 s_law f_law = true := by decide +kernel
def FP : List (Fs × Arguments) := [(s_is_integer, defArgs (top 4)), (s_is_within, defArgs (top 5)), (s_is_sized, defArgs (top 6)), (s_is_lot, defArgs (top 7)), (s_is_bit, defArgs (top 8)), (s_is_order, defArgs (top 9)), (s_all_orders, defArgs (top 10)), (s_rows_of, defArgs (top 11)), (s_number_of, defArgs (top 12)), (s_other_bit, defArgs (top 13)), (s_turned_row, defArgs (top 14)), (s_flipped_row, defArgs (top 15)), (s_lots_of, defArgs (top 16)), (s_by_size, defArgs (top 17)), (s_is_gate, defArgs (top 28)), (s_check_gate, defArgs (top 29)), (s_raw_ins, defArgs (top 30)), (s_raw_tells, defArgs (top 31)), (s_check_many, defArgs (top 32)), (s_check_place, defArgs (top 33)), (s_raw_of, defArgs (top 34)), (s_raw_turned, defArgs (top 35)), (s_turned, defArgs (top 36)), (s_raw_flipped, defArgs (top 37)), (s_flipped, defArgs (top 38)), (s_raw_moved, defArgs (top 39)), (s_check_order, defArgs (top 40)), (s_moved, defArgs (top 41)), (s_raw_needed, defArgs (top 42)), (s_needed, defArgs (top 43)), (s_raw_kin, defArgs (top 44)), (s_plain_kin, defArgs (top 45)), (s_are_kin, defArgs (top 46)), (s_is_turn_of, defArgs (top 48)), (s_check_turn, defArgs (top 49)), (s_raw_led, defArgs (top 50)), (s_led_by, defArgs (top 51)), (s_all_turns, defArgs (top 52)), (s_turns_many, defArgs (top 53)), (s_raw_family, defArgs (top 54)), (s_family, defArgs (top 55)), (s_plain, defArgs (top 56)), (s_raw_between, defArgs (top 57)), (s_turn_to_plain, defArgs (top 58)), (s_keepers, defArgs (top 59)), (s_turn_between, defArgs (top 60)), (s_lot_of_row, defArgs (top 62)), (s_is_below, defArgs (top 63)), (s_raw_sums, defArgs (top 64)), (s_raw_degree, defArgs (top 65)), (s_degree, defArgs (top 66)), (s_check_two, defArgs (top 67)), (s_raw_is_sum, defArgs (top 68)), (s_is_sum, defArgs (top 69)), (s_raw_far, defArgs (top 70)), (s_far, defArgs (top 71)), (s__law_hand, defArgs (top 73)), (s__law_draw, defArgs (top 74)), (s__law_any, defArgs (top 75)), (s__law_gate, defArgs (top 76)), (s__law_rows, defArgs (top 77)), (s__law_orders, defArgs (top 78)), (s__law_turns, defArgs (top 79)), (s__law_led, defArgs (top 80)), (s__law_word, defArgs (top 81)), (s__law_is_family_right, defArgs (top 82)), (s__law_is_between_right, defArgs (top 83)), (s__law_is_kept, defArgs (top 84)), (s__law_are_turns, defArgs (top 85)), (s_law, defArgs (top 86))]
theorem prgL : PrgL Tt 0 (FP.map (·.1)) Pl := ⟨ok_is_integer, ok_is_within, ok_is_sized, ok_is_lot, ok_is_bit, ok_is_order, ok_all_orders, ok_rows_of, ok_number_of, ok_other_bit, ok_turned_row, ok_flipped_row, ok_lots_of, ok_by_size, ok_is_gate, ok_check_gate, ok_raw_ins, ok_raw_tells, ok_check_many, ok_check_place, ok_raw_of, ok_raw_turned, ok_turned, ok_raw_flipped, ok_flipped, ok_raw_moved, ok_check_order, ok_moved, ok_raw_needed, ok_needed, ok_raw_kin, ok_plain_kin, ok_are_kin, ok_is_turn_of, ok_check_turn, ok_raw_led, ok_led_by, ok_all_turns, ok_turns_many, ok_raw_family, ok_family, ok_plain, ok_raw_between, ok_turn_to_plain, ok_keepers, ok_turn_between, ok_lot_of_row, ok_is_below, ok_raw_sums, ok_raw_degree, ok_degree, ok_check_two, ok_raw_is_sum, ok_is_sum, ok_raw_far, ok_far, ok__law_hand, ok__law_draw, ok__law_any, ok__law_gate, ok__law_rows, ok__law_orders, ok__law_turns, ok__law_led, ok__law_word, ok__law_is_family_right, ok__law_is_between_right, ok__law_is_kept, ok__law_are_turns, ok_law, trivial⟩
theorem prgOk : PrgOk Tt (FP.map (·.1)) Pl := prgOk_of prgL rfl
def tf : List He.Defn := [("law", none)]
theorem fs_ok : (FP.all fun q => fscB q.1.ns q.1.ps q.1.scope && (!q.1.lam || decide ((q.1.x, none) ∈ tf))) = true := by decide +kernel
theorem bi_is_integer : BindS s_is_integer (defArgs (top 4)) := fun kV doc pm an cdv ct us hl => match us, hl with | [_], _ => rfl
theorem bi_is_within : BindS s_is_within (defArgs (top 5)) := fun kV doc pm an cdv ct us hl => match us, hl with | [_, _, _], _ => rfl
theorem bi_is_sized : BindS s_is_sized (defArgs (top 6)) := fun kV doc pm an cdv ct us hl => match us, hl with | [_, _, _], _ => rfl
theorem bi_is_lot : BindS s_is_lot (defArgs (top 7)) := fun kV doc pm an cdv ct us hl => match us, hl with | [_, _], _ => rfl
theorem bi_is_bit : BindS s_is_bit (defArgs (top 8)) := fun kV doc pm an cdv ct us hl => match us, hl with | [_], _ => rfl
theorem bi_is_order : BindS s_is_order (defArgs (top 9)) := fun kV doc pm an cdv ct us hl => match us, hl with | [_, _], _ => rfl
theorem bi_all_orders : BindS s_all_orders (defArgs (top 10)) := fun kV doc pm an cdv ct us hl => match us, hl with | [_], _ => rfl
theorem bi_rows_of : BindS s_rows_of (defArgs (top 11)) := fun kV doc pm an cdv ct us hl => match us, hl with | [_], _ => rfl
theorem bi_number_of : BindS s_number_of (defArgs (top 12)) := fun kV doc pm an cdv ct us hl => match us, hl with | [_], _ => rfl
theorem bi_other_bit : BindS s_other_bit (defArgs (top 13)) := fun kV doc pm an cdv ct us hl => match us, hl with | [_], _ => rfl
theorem bi_turned_row : BindS s_turned_row (defArgs (top 14)) := fun kV doc pm an cdv ct us hl => match us, hl with | [_], _ => rfl
theorem bi_flipped_row : BindS s_flipped_row (defArgs (top 15)) := fun kV doc pm an cdv ct us hl => match us, hl with | [_, _], _ => rfl
theorem bi_lots_of : BindS s_lots_of (defArgs (top 16)) := fun kV doc pm an cdv ct us hl => match us, hl with | [_], _ => rfl
theorem bi_by_size : BindS s_by_size (defArgs (top 17)) := fun kV doc pm an cdv ct us hl => match us, hl with | [_], _ => rfl
theorem bi_is_gate : BindS s_is_gate (defArgs (top 28)) := fun kV doc pm an cdv ct us hl => match us, hl with | [_], _ => rfl
theorem bi_check_gate : BindS s_check_gate (defArgs (top 29)) := fun kV doc pm an cdv ct us hl => match us, hl with | [_], _ => rfl
theorem bi_raw_ins : BindS s_raw_ins (defArgs (top 30)) := fun kV doc pm an cdv ct us hl => match us, hl with | [_], _ => rfl
theorem bi_raw_tells : BindS s_raw_tells (defArgs (top 31)) := fun kV doc pm an cdv ct us hl => match us, hl with | [_, _], _ => rfl
theorem bi_check_many : BindS s_check_many (defArgs (top 32)) := fun kV doc pm an cdv ct us hl => match us, hl with | [_], _ => rfl
theorem bi_check_place : BindS s_check_place (defArgs (top 33)) := fun kV doc pm an cdv ct us hl => match us, hl with | [_, _], _ => rfl
theorem bi_raw_of : BindS s_raw_of (defArgs (top 34)) := fun kV doc pm an cdv ct us hl => match us, hl with | [_, _], _ => rfl
theorem bi_raw_turned : BindS s_raw_turned (defArgs (top 35)) := fun kV doc pm an cdv ct us hl => match us, hl with | [_], _ => rfl
theorem bi_turned : BindS s_turned (defArgs (top 36)) := fun kV doc pm an cdv ct us hl => match us, hl with | [_], _ => rfl
theorem bi_raw_flipped : BindS s_raw_flipped (defArgs (top 37)) := fun kV doc pm an cdv ct us hl => match us, hl with | [_, _], _ => rfl
theorem bi_flipped : BindS s_flipped (defArgs (top 38)) := fun kV doc pm an cdv ct us hl => match us, hl with | [_, _], _ => rfl
theorem bi_raw_moved : BindS s_raw_moved (defArgs (top 39)) := fun kV doc pm an cdv ct us hl => match us, hl with | [_, _], _ => rfl
theorem bi_check_order : BindS s_check_order (defArgs (top 40)) := fun kV doc pm an cdv ct us hl => match us, hl with | [_, _], _ => rfl
theorem bi_moved : BindS s_moved (defArgs (top 41)) := fun kV doc pm an cdv ct us hl => match us, hl with | [_, _], _ => rfl
theorem bi_raw_needed : BindS s_raw_needed (defArgs (top 42)) := fun kV doc pm an cdv ct us hl => match us, hl with | [_], _ => rfl
theorem bi_needed : BindS s_needed (defArgs (top 43)) := fun kV doc pm an cdv ct us hl => match us, hl with | [_], _ => rfl
theorem bi_raw_kin : BindS s_raw_kin (defArgs (top 44)) := fun kV doc pm an cdv ct us hl => match us, hl with | [_], _ => rfl
theorem bi_plain_kin : BindS s_plain_kin (defArgs (top 45)) := fun kV doc pm an cdv ct us hl => match us, hl with | [_], _ => rfl
theorem bi_are_kin : BindS s_are_kin (defArgs (top 46)) := fun kV doc pm an cdv ct us hl => match us, hl with | [_, _], _ => rfl
theorem bi_is_turn_of : BindS s_is_turn_of (defArgs (top 48)) := fun kV doc pm an cdv ct us hl => match us, hl with | [_, _], _ => rfl
theorem bi_check_turn : BindS s_check_turn (defArgs (top 49)) := fun kV doc pm an cdv ct us hl => match us, hl with | [_, _], _ => rfl
theorem bi_raw_led : BindS s_raw_led (defArgs (top 50)) := fun kV doc pm an cdv ct us hl => match us, hl with | [_, _], _ => rfl
theorem bi_led_by : BindS s_led_by (defArgs (top 51)) := fun kV doc pm an cdv ct us hl => match us, hl with | [_, _], _ => rfl
theorem bi_all_turns : BindS s_all_turns (defArgs (top 52)) := fun kV doc pm an cdv ct us hl => match us, hl with | [_], _ => rfl
theorem bi_turns_many : BindS s_turns_many (defArgs (top 53)) := fun kV doc pm an cdv ct us hl => match us, hl with | [_], _ => rfl
theorem bi_raw_family : BindS s_raw_family (defArgs (top 54)) := fun kV doc pm an cdv ct us hl => match us, hl with | [_], _ => rfl
theorem bi_family : BindS s_family (defArgs (top 55)) := fun kV doc pm an cdv ct us hl => match us, hl with | [_], _ => rfl
theorem bi_plain : BindS s_plain (defArgs (top 56)) := fun kV doc pm an cdv ct us hl => match us, hl with | [_], _ => rfl
theorem bi_raw_between : BindS s_raw_between (defArgs (top 57)) := fun kV doc pm an cdv ct us hl => match us, hl with | [_, _], _ => rfl
theorem bi_turn_to_plain : BindS s_turn_to_plain (defArgs (top 58)) := fun kV doc pm an cdv ct us hl => match us, hl with | [_], _ => rfl
theorem bi_keepers : BindS s_keepers (defArgs (top 59)) := fun kV doc pm an cdv ct us hl => match us, hl with | [_], _ => rfl
theorem bi_turn_between : BindS s_turn_between (defArgs (top 60)) := fun kV doc pm an cdv ct us hl => match us, hl with | [_, _], _ => rfl
theorem bi_lot_of_row : BindS s_lot_of_row (defArgs (top 62)) := fun kV doc pm an cdv ct us hl => match us, hl with | [_], _ => rfl
theorem bi_is_below : BindS s_is_below (defArgs (top 63)) := fun kV doc pm an cdv ct us hl => match us, hl with | [_, _], _ => rfl
theorem bi_raw_sums : BindS s_raw_sums (defArgs (top 64)) := fun kV doc pm an cdv ct us hl => match us, hl with | [_], _ => rfl
theorem bi_raw_degree : BindS s_raw_degree (defArgs (top 65)) := fun kV doc pm an cdv ct us hl => match us, hl with | [_], _ => rfl
theorem bi_degree : BindS s_degree (defArgs (top 66)) := fun kV doc pm an cdv ct us hl => match us, hl with | [_], _ => rfl
theorem bi_check_two : BindS s_check_two (defArgs (top 67)) := fun kV doc pm an cdv ct us hl => match us, hl with | [_, _], _ => rfl
theorem bi_raw_is_sum : BindS s_raw_is_sum (defArgs (top 68)) := fun kV doc pm an cdv ct us hl => match us, hl with | [_], _ => rfl
theorem bi_is_sum : BindS s_is_sum (defArgs (top 69)) := fun kV doc pm an cdv ct us hl => match us, hl with | [_], _ => rfl
theorem bi_raw_far : BindS s_raw_far (defArgs (top 70)) := fun kV doc pm an cdv ct us hl => match us, hl with | [_, _], _ => rfl
theorem bi_far : BindS s_far (defArgs (top 71)) := fun kV doc pm an cdv ct us hl => match us, hl with | [_, _], _ => rfl
theorem bi__law_hand : BindS s__law_hand (defArgs (top 73)) := fun kV doc pm an cdv ct us hl => match us, hl with | [_], _ => rfl
theorem bi__law_draw : BindS s__law_draw (defArgs (top 74)) := fun kV doc pm an cdv ct us hl => match us, hl with | [_, _], _ => rfl
theorem bi__law_any : BindS s__law_any (defArgs (top 75)) := fun kV doc pm an cdv ct us hl => match us, hl with | [_, _], _ => rfl
theorem bi__law_gate : BindS s__law_gate (defArgs (top 76)) := fun kV doc pm an cdv ct us hl => match us, hl with | [_, _], _ => rfl
theorem bi__law_rows : BindS s__law_rows (defArgs (top 77)) := fun kV doc pm an cdv ct us hl => match us, hl with | [_], _ => rfl
theorem bi__law_orders : BindS s__law_orders (defArgs (top 78)) := fun kV doc pm an cdv ct us hl => match us, hl with | [_], _ => rfl
theorem bi__law_turns : BindS s__law_turns (defArgs (top 79)) := fun kV doc pm an cdv ct us hl => match us, hl with | [_], _ => rfl
theorem bi__law_led : BindS s__law_led (defArgs (top 80)) := fun kV doc pm an cdv ct us hl => match us, hl with | [_, _], _ => rfl
theorem bi__law_word : BindS s__law_word (defArgs (top 81)) := fun kV doc pm an cdv ct us hl => match us, hl with | [_], _ => rfl
theorem bi__law_is_family_right : BindS s__law_is_family_right (defArgs (top 82)) := fun kV doc pm an cdv ct us hl => match us, hl with | [_, _], _ => rfl
theorem bi__law_is_between_right : BindS s__law_is_between_right (defArgs (top 83)) := fun kV doc pm an cdv ct us hl => match us, hl with | [_, _, _], _ => rfl
theorem bi__law_is_kept : BindS s__law_is_kept (defArgs (top 84)) := fun kV doc pm an cdv ct us hl => match us, hl with | [_, _, _, _], _ => rfl
theorem bi__law_are_turns : BindS s__law_are_turns (defArgs (top 85)) := fun kV doc pm an cdv ct us hl => match us, hl with | [_, _, _], _ => rfl
theorem bi_law : BindS s_law (defArgs (top 86)) := fun kV doc pm an cdv ct us hl => match us, hl with | [_], _ => rfl
theorem bi_all : ∀ q ∈ FP, BindS q.1 q.2 := by
  unfold FP
  refine List.forall_mem_cons.mpr ⟨bi_is_integer, ?_⟩
  refine List.forall_mem_cons.mpr ⟨bi_is_within, ?_⟩
  refine List.forall_mem_cons.mpr ⟨bi_is_sized, ?_⟩
  refine List.forall_mem_cons.mpr ⟨bi_is_lot, ?_⟩
  refine List.forall_mem_cons.mpr ⟨bi_is_bit, ?_⟩
  refine List.forall_mem_cons.mpr ⟨bi_is_order, ?_⟩
  refine List.forall_mem_cons.mpr ⟨bi_all_orders, ?_⟩
  refine List.forall_mem_cons.mpr ⟨bi_rows_of, ?_⟩
  refine List.forall_mem_cons.mpr ⟨bi_number_of, ?_⟩
  refine List.forall_mem_cons.mpr ⟨bi_other_bit, ?_⟩
  refine List.forall_mem_cons.mpr ⟨bi_turned_row, ?_⟩
  refine List.forall_mem_cons.mpr ⟨bi_flipped_row, ?_⟩
  refine List.forall_mem_cons.mpr ⟨bi_lots_of, ?_⟩
  refine List.forall_mem_cons.mpr ⟨bi_by_size, ?_⟩
  refine List.forall_mem_cons.mpr ⟨bi_is_gate, ?_⟩
  refine List.forall_mem_cons.mpr ⟨bi_check_gate, ?_⟩
  refine List.forall_mem_cons.mpr ⟨bi_raw_ins, ?_⟩
  refine List.forall_mem_cons.mpr ⟨bi_raw_tells, ?_⟩
  refine List.forall_mem_cons.mpr ⟨bi_check_many, ?_⟩
  refine List.forall_mem_cons.mpr ⟨bi_check_place, ?_⟩
  refine List.forall_mem_cons.mpr ⟨bi_raw_of, ?_⟩
  refine List.forall_mem_cons.mpr ⟨bi_raw_turned, ?_⟩
  refine List.forall_mem_cons.mpr ⟨bi_turned, ?_⟩
  refine List.forall_mem_cons.mpr ⟨bi_raw_flipped, ?_⟩
  refine List.forall_mem_cons.mpr ⟨bi_flipped, ?_⟩
  refine List.forall_mem_cons.mpr ⟨bi_raw_moved, ?_⟩
  refine List.forall_mem_cons.mpr ⟨bi_check_order, ?_⟩
  refine List.forall_mem_cons.mpr ⟨bi_moved, ?_⟩
  refine List.forall_mem_cons.mpr ⟨bi_raw_needed, ?_⟩
  refine List.forall_mem_cons.mpr ⟨bi_needed, ?_⟩
  refine List.forall_mem_cons.mpr ⟨bi_raw_kin, ?_⟩
  refine List.forall_mem_cons.mpr ⟨bi_plain_kin, ?_⟩
  refine List.forall_mem_cons.mpr ⟨bi_are_kin, ?_⟩
  refine List.forall_mem_cons.mpr ⟨bi_is_turn_of, ?_⟩
  refine List.forall_mem_cons.mpr ⟨bi_check_turn, ?_⟩
  refine List.forall_mem_cons.mpr ⟨bi_raw_led, ?_⟩
  refine List.forall_mem_cons.mpr ⟨bi_led_by, ?_⟩
  refine List.forall_mem_cons.mpr ⟨bi_all_turns, ?_⟩
  refine List.forall_mem_cons.mpr ⟨bi_turns_many, ?_⟩
  refine List.forall_mem_cons.mpr ⟨bi_raw_family, ?_⟩
  refine List.forall_mem_cons.mpr ⟨bi_family, ?_⟩
  refine List.forall_mem_cons.mpr ⟨bi_plain, ?_⟩
  refine List.forall_mem_cons.mpr ⟨bi_raw_between, ?_⟩
  refine List.forall_mem_cons.mpr ⟨bi_turn_to_plain, ?_⟩
  refine List.forall_mem_cons.mpr ⟨bi_keepers, ?_⟩
  refine List.forall_mem_cons.mpr ⟨bi_turn_between, ?_⟩
  refine List.forall_mem_cons.mpr ⟨bi_lot_of_row, ?_⟩
  refine List.forall_mem_cons.mpr ⟨bi_is_below, ?_⟩
  refine List.forall_mem_cons.mpr ⟨bi_raw_sums, ?_⟩
  refine List.forall_mem_cons.mpr ⟨bi_raw_degree, ?_⟩
  refine List.forall_mem_cons.mpr ⟨bi_degree, ?_⟩
  refine List.forall_mem_cons.mpr ⟨bi_check_two, ?_⟩
  refine List.forall_mem_cons.mpr ⟨bi_raw_is_sum, ?_⟩
  refine List.forall_mem_cons.mpr ⟨bi_is_sum, ?_⟩
  refine List.forall_mem_cons.mpr ⟨bi_raw_far, ?_⟩
  refine List.forall_mem_cons.mpr ⟨bi_far, ?_⟩
  refine List.forall_mem_cons.mpr ⟨bi__law_hand, ?_⟩
  refine List.forall_mem_cons.mpr ⟨bi__law_draw, ?_⟩
  refine List.forall_mem_cons.mpr ⟨bi__law_any, ?_⟩
  refine List.forall_mem_cons.mpr ⟨bi__law_gate, ?_⟩
  refine List.forall_mem_cons.mpr ⟨bi__law_rows, ?_⟩
  refine List.forall_mem_cons.mpr ⟨bi__law_orders, ?_⟩
  refine List.forall_mem_cons.mpr ⟨bi__law_turns, ?_⟩
  refine List.forall_mem_cons.mpr ⟨bi__law_led, ?_⟩
  refine List.forall_mem_cons.mpr ⟨bi__law_word, ?_⟩
  refine List.forall_mem_cons.mpr ⟨bi__law_is_family_right, ?_⟩
  refine List.forall_mem_cons.mpr ⟨bi__law_is_between_right, ?_⟩
  refine List.forall_mem_cons.mpr ⟨bi__law_is_kept, ?_⟩
  refine List.forall_mem_cons.mpr ⟨bi__law_are_turns, ?_⟩
  refine List.forall_mem_cons.mpr ⟨bi_law, ?_⟩
  exact fun q h => nomatch h
def kd : List (Str × List Str) := [("PLACES", ["", "0", "1", "00", "01", "10", "11", "000", "001", "010", "011", "100", "101", "110", "111"])]
def nm0 : List PySem.Str := ["BITS", "MOST_INPUTS", "PLACES", "is_integer", "is_within", "is_sized", "is_lot", "is_bit", "is_order", "all_orders", "rows_of", "number_of", "other_bit", "turned_row", "flipped_row", "lots_of", "by_size", "GateError", "NoGate", "NoMany", "NoPlace", "NoOrder", "NoPair", "NoTurn", "SIZES", "is_gate", "check_gate", "raw_ins", "raw_tells", "check_many"]
def nm1 : List PySem.Str := ["check_place", "raw_of", "raw_turned", "turned", "raw_flipped", "flipped", "raw_moved", "check_order", "moved", "raw_needed", "needed", "raw_kin", "plain_kin", "are_kin", "is_turn_of", "check_turn", "raw_led", "led_by", "all_turns", "turns_many", "raw_family", "family", "plain", "raw_between", "turn_to_plain", "keepers", "turn_between", "lot_of_row", "is_below", "raw_sums"]
def nm2 : List PySem.Str := ["raw_degree", "degree", "check_two", "raw_is_sum", "is_sum", "raw_far", "far", "_law_hand", "_law_draw", "_law_any", "_law_gate", "_law_rows", "_law_orders", "_law_turns", "_law_led", "_law_word", "_law_is_family_right", "_law_is_between_right", "_law_is_kept", "_law_are_turns"]
def nms : List PySem.Str := nm0 ++ nm1 ++ nm2
abbrev R : PySem.W.OpenRow := PySem.W.OpenLaw.row PySem.Challenge.rw_keptorbuilt_k86_whole_families_and_what
abbrev exK : PySem.W.Frag → Bool := exB Tt ks sub FP tf
abbrev hk : PySem.W.Hook := He.hookX 2 [] (fnD FP) (kdT kd) tf exK
def ob (s : PySem.W.SharedT) : He.AlX := He.obsX 2 [] (fnD FP) (kdT kd) tf exK (HandSHeadRun.getT s)
theorem ob_eq (s : PySem.W.SharedT) : ob s = hk.obs s.abs := He.obsX_eq (HandSHeadRun.getT_eq s)
theorem run0f (w : World) : HandSHeadRun.RunEq R (PySem.W.view R.prog [86]) hk ob 8000 nms (w.withFollow "special-get-raises" false) := fun os => by kernel_rfl
theorem run0t (w : World) : HandSHeadRun.RunEq R (PySem.W.view R.prog [86]) hk ob 8000 nms (w.withFollow "special-get-raises" true) := fun os => by kernel_rfl
theorem run0 (w : World) : HandSHeadRun.RunEq R (PySem.W.view R.prog [86]) hk ob 8000 nms w :=
  PySem.W.byRow2 "special-get-raises" (P := fun w => HandSHeadRun.RunEq R (PySem.W.view R.prog [86]) hk ob 8000 nms w) run0f run0t w
end Kb.Pr
open PySem PySem.W PySem.Calls PyProof.Rows
theorem Kb.Pr.holds_of_plain (plain : ∀ ns : List Int, ns.length ≤ 63 → (∀ z ∈ ns, Builtin.Int.intBits z ≤ 1048576) → ∃ hp', Kb.run Kb.Pr.sub Kb.Pr.ks Kb.Pr.Pl (30 + 1) Kb.Pr.i_law [.scr ns] none [] = some (.ret (.val (.bl true)) hp')) : PySem.Challenge.rw_keptorbuilt_k86_whole_families_and_what.Holds := by
  w_on; o_law
  refine HandSHeadRun.head_any (r := OpenLaw.row PySem.Challenge.rw_keptorbuilt_k86_whole_families_and_what) (q := view (OpenLaw.row PySem.Challenge.rw_keptorbuilt_k86_whole_families_and_what).prog [86]) (H := Kb.Pr.hk) (ob := Kb.Pr.ob) (M := 8000) (loose := Kb.Pr.nms) (d := HandSHeadRun.topDef (OpenLaw.row PySem.Challenge.rw_keptorbuilt_k86_whole_families_and_what).prog 86) (kwd := []) Kb.Pr.ob_eq
    (by kernel_rfl) (fun s => by kernel_rfl) Kb.Pr.run0 (by kernel_rfl) (by kernel_rfl) (by kernel_rfl) (by rfl) (by first | assumption | decide +kernel) (by decide +kernel) ⟨rfl, rfl, rfl, rfl, rfl, by decide +kernel⟩ ?hw ?hc
  case hw => w_witness2
  case hc =>
    refine Kb.walkG (l := PySem.Challenge.rw_keptorbuilt_k86_whole_families_and_what) (n := 63) (k := 3 * (30 + 1)) (x := "script") rfl (by decide) (by kernel_rfl) ⟨rfl, by decide, by decide⟩ ?F
    intro w mg fa h Y G hmg0
    obtain ⟨K, KX, c⟩ := Y
    have hmg : mg ("law" : PySem.Str) = some (.ref fa) := by
      have e : (HandSHeadRun.topDef (OpenLaw.row PySem.Challenge.rw_keptorbuilt_k86_whole_families_and_what).prog 86).name = ("law" : PySem.Str) := by kernel_rfl
      rw [← e]
      exact hmg0
    exact ⟨K, KX, Kb.law_of (FP := Kb.Pr.FP) (sl := Kb.Pr.s_law) (dl := Kb.Pr.f_law) (jl := Kb.Pr.i_law) (g := 30) Kb.Pr.prgOk Kb.Pr.fs_ok Kb.Pr.bi_all (by decide +kernel) (by decide +kernel) Kb.Pr.sub_es rfl rfl rfl rfl plain KX c G hmg⟩


theorem PySem.Challenge.cw_keptorbuilt_k86_whole_families_and_what_holds : PySem.Challenge.rw_keptorbuilt_k86_whole_families_and_what.Holds :=
  Kb.Pr.holds_of_plain fun ns hn _ => Kb.Pr.plain ns hn
