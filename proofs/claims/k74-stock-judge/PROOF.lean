import PyProof.Rows.All
import Wide.All
import OpenK.AllK
import Wide.FinOn
import KE.DataCmp
import KE.SortCalls
import HandS.ForMost
import HandS.ForExc
import HandS.Defaults
import HandS.Walk
import HandS.Zip
import HandS.Rev
import HandS.RevRange
import HandS.Wide
import HandS.Gcd
import HandS.IsInst
import HandS.Flow
import HandS.TupAny
import HandS.TupMul
import HandS.Deep
import HandS.DictComp
import HandS.ExcIs
import KE.GoesMore
import KE.GoesEnum
import HandS.Style
import HandS.Conv
import HandS.WordsDict
import KE.SortData
import HandS.Strs
import HandS.HeadHook2
import HandS.HeadEnd
import HandS.Head2
import KE.KStateDown
import HandS.Head0
import HandS.Head1
import HandS.HeadHook1
import PySem.Challenge.RW_typefoundry_k74_stock_judge
set_option Elab.async false
set_option linter.all false
section
/-! A small core language for the defs of a program, and its interpreter over plain data (own work). -/
namespace PI
open PySem PySem.Spec PyProof.Rows L2

/-- a datum: ref n is the n-th object of the abstract store (a list or a dict) -/
inductive D where
  | non | bl (b : Bool) | int (i : Int) | str (x : Str) | tup (xs : List D) | ref (n : Nat)
  deriving Inhabited
mutual
def D.deq : (a b : D) → Decidable (a = b)
  | .non, .non => .isTrue rfl
  | .bl a, .bl b => if h : a = b then .isTrue (h ▸ rfl) else .isFalse fun e => h (D.bl.inj e)
  | .int a, .int b => if h : a = b then .isTrue (h ▸ rfl) else .isFalse fun e => h (D.int.inj e)
  | .str a, .str b => if h : a = b then .isTrue (h ▸ rfl) else .isFalse fun e => h (D.str.inj e)
  | .ref a, .ref b => if h : a = b then .isTrue (h ▸ rfl) else .isFalse fun e => h (D.ref.inj e)
  | .tup xs, .tup ys => match D.deqs xs ys with
    | .isTrue h => .isTrue (h ▸ rfl)
    | .isFalse h => .isFalse fun e => h (D.tup.inj e)
  | .non, .bl _ => .isFalse nofun
  | .non, .int _ => .isFalse nofun
  | .non, .str _ => .isFalse nofun
  | .non, .tup _ => .isFalse nofun
  | .non, .ref _ => .isFalse nofun
  | .bl _, .non => .isFalse nofun
  | .bl _, .int _ => .isFalse nofun
  | .bl _, .str _ => .isFalse nofun
  | .bl _, .tup _ => .isFalse nofun
  | .bl _, .ref _ => .isFalse nofun
  | .int _, .non => .isFalse nofun
  | .int _, .bl _ => .isFalse nofun
  | .int _, .str _ => .isFalse nofun
  | .int _, .tup _ => .isFalse nofun
  | .int _, .ref _ => .isFalse nofun
  | .str _, .non => .isFalse nofun
  | .str _, .bl _ => .isFalse nofun
  | .str _, .int _ => .isFalse nofun
  | .str _, .tup _ => .isFalse nofun
  | .str _, .ref _ => .isFalse nofun
  | .tup _, .non => .isFalse nofun
  | .tup _, .bl _ => .isFalse nofun
  | .tup _, .int _ => .isFalse nofun
  | .tup _, .str _ => .isFalse nofun
  | .tup _, .ref _ => .isFalse nofun
  | .ref _, .non => .isFalse nofun
  | .ref _, .bl _ => .isFalse nofun
  | .ref _, .int _ => .isFalse nofun
  | .ref _, .str _ => .isFalse nofun
  | .ref _, .tup _ => .isFalse nofun
def D.deqs : (xs ys : List D) → Decidable (xs = ys)
  | [], [] => .isTrue rfl
  | [], _ :: _ => .isFalse nofun
  | _ :: _, [] => .isFalse nofun
  | x :: xs, y :: ys => match D.deq x y, D.deqs xs ys with
    | .isTrue h, .isTrue k => .isTrue (h ▸ k ▸ rfl)
    | .isFalse h, _ => .isFalse fun e => h (List.cons.inj e).1
    | _, .isFalse k => .isFalse fun e => k (List.cons.inj e).2
end
instance : DecidableEq D := D.deq
inductive VO where
  /-- a list; a list that is only read (k: it stands in the written part) -/
  | lst (xs : List D) | ro (k : Bool) (xs : List D)
  /-- a dict; lk: while a loop walks it -/
  | dK (lk : Bool) (kvs : List (Key × D)) | dT (lk : Bool) (kvs : List (List Key × D))
  deriving Inhabited
abbrev VH := List VO
inductive Res (α : Type) where
  | ok (a : α) (h : VH) | exc (c : Nat) (h : VH) | stuck
abbrev M (α : Type) := VH → Res α
def bnd {α β : Type} (r : Res α) (f : α → VH → Res β) : Res β := match r with
  | .ok a h => f a h
  | .exc c h => .exc c h
  | .stuck => .stuck
/-- what raises is none of ours (within a comprehension) -/
def bndN {α β : Type} (r : Res α) (f : α → VH → Res β) : Res β := match r with
  | .ok a h => f a h
  | .exc _ _ => .stuck
  | .stuck => .stuck
def opt {α β : Type} (o : Option α) (f : α → Res β) : Res β := match o with
  | some a => f a
  | none => .stuck
def grd {β : Type} (b : Bool) (r : Res β) : Res β := match b with
  | true => r
  | false => .stuck
abbrev lim : Nat := sizeLine

/-- a bool, an int, a tuple, a list of ours -/
def asB {α : Type} (d : D) (f : Bool → Res α) : Res α := match d with
  | .bl b => f b
  | _ => .stuck
def asI {α : Type} (d : D) (f : Int → Res α) : Res α := match d with
  | .int b => f b
  | _ => .stuck
def asT {α : Type} (d : D) (f : List D → Res α) : Res α := match d with
  | .tup b => f b
  | _ => .stuck
def asL {α : Type} (h : VH) (d : D) (f : Nat → List D → Res α) : Res α := match d with
  | .ref n => (match h[n]? with
    | some (.lst xs) => f n xs
    | _ => .stuck)
  | _ => .stuck
def isNonD : D → Bool
  | .non => true
  | _ => false
/-! ### data -/
/-- as the library's plain data -/
def toP : Nat → VH → D → Option PyData
  | 0, _, _ => none
  | _ + 1, _, .non => some .none
  | _ + 1, _, .bl b => some (.bool b)
  | _ + 1, _, .int i => some (.int i)
  | _ + 1, _, .str x => some (.str x)
  | n + 1, h, .tup xs => (xs.mapM (toP n h)).map .tuple
  | n + 1, h, .ref r => match h[r]? with
    | some (.lst xs) => (xs.mapM (toP n h)).map .list
    | some (.ro _ xs) => (xs.mapM (toP n h)).map .list
    | _ => none
abbrev deep : Nat := 40
def eqD (h : VH) (a b : D) : Option Bool := match toP deep h a, toP deep h b with
  | some p, some q => if SeqAt.shaped p && SeqAt.shaped q then some (PyData.eqv p q) else none
  | _, _ => none
/-- a < b -/
def ltD (h : VH) (a b : D) : Option Bool := match a, b with
  | .int i, .int j => some (decide (i < j))
  | .str x, .str y => some (decide (x.cps.toList < y.cps.toList))
  | .tup _, .tup _ => (match toP deep h a, toP deep h b with
    | some p, some q => if SeqAt.shaped p && SeqAt.shaped q && PySem.W.alike p q then some (PySem.W.dataLt p q) else none
    | _, _ => none)
  | _, _ => none
def flatD : D → Bool
  | .non => true
  | .bl _ => true
  | .int _ => true
  | .str _ => true
  | _ => false
def eqF : D → D → Bool
  | .non, .non => true
  | .bl a, .bl b => a == b
  | .bl a, .int b => (if a then 1 else 0) == b
  | .int a, .bl b => a == (if b then 1 else 0)
  | .int a, .int b => a == b
  | .str a, .str b => a == b
  | _, _ => false
def keyD : D → Option Key
  | .int i => some (.inl i)
  | .str x => some (.inr x)
  | _ => none
def keysD : List D → Option (List Key)
  | [] => some []
  | d :: ds => match keyD d, keysD ds with
    | some k, some ks => some (k :: ks)
    | _, _ => none
def dK (k : Key) : D := match k with
  | .inl i => .int i
  | .inr x => .str x
section
variable {κ : Type} [DecidableEq κ]
def getD (kvs : List (κ × D)) (k : κ) : Option D := (kvs.find? fun kv => decide (kv.1 = k)).map (·.2)
def putD (kvs : List (κ × D)) (k : κ) (v : D) : List (κ × D) :=
  if (kvs.any fun kv => decide (kv.1 = k)) = true then kvs.map (fun kv => if kv.1 = k then (kv.1, v) else kv) else kvs ++ [(k, v)]
end
/-- what a dict holds at a key (none: this is no look-up of ours) -/
def lookD (h : VH) (o k : D) : Option (Option D) := match o with
  | .ref n => (match h[n]? with
    | some (.dK _ kvs) => (keyD k).map (getD kvs)
    | some (.dT _ kvs) => (match k with
      | .tup ks => (keysD ks).map (getD kvs)
      | _ => none)
    | _ => none)
  | _ => none
/-- x in y -/
def inD (h : VH) (x y : D) : Option Bool := match y with
  | .str z => (match x with
    | .str c => if c.length = 1 then some (decide (c.cps.getD 0 0 ∈ z.cps.toList)) else none
    | _ => none)
  | .tup ys => if flatD x && ys.all flatD then some (ys.any fun y => eqF y x) else none
  | .ref n => (match h[n]? with
    | some (.lst ys) => (match toP deep h x, ys.mapM (toP (deep - 1) h) with
      | some p, some qs => if SeqAt.shaped p && SeqAt.shaped (.list qs) then some (qs.any fun q => PyData.eqv q p) else none
      | _, _ => none)
    | _ => (lookD h y x).map (·.isSome))
  | _ => none
def truthD (h : VH) : D → Option Bool
  | .non => some false
  | .bl b => some b
  | .int i => some (i != 0)
  | .str x => if x.length ≤ lim then some ((x.length : Int) != 0) else none
  | .tup xs => some (!xs.isEmpty)
  | .ref n => match h[n]? with
    | some (.lst xs) => some (!xs.isEmpty)
    | some (.ro _ xs) => some (!xs.isEmpty)
    | some (.dK false kvs) => some (!kvs.isEmpty)
    | _ => none
/-- the items of a list or tuple -/
def itemsD (h : VH) : D → Option (List D)
  | .tup xs => some xs
  | .ref n => match h[n]? with
    | some (.lst xs) => some xs
    | some (.ro _ xs) => some xs
    | _ => none
  | _ => none
def newL (xs : List D) : M D := fun h => grd (decide (xs.length ≤ lim)) (.ok (.ref h.length) (h ++ [.lst xs]))
def newT (xs : List D) : M D := fun h => grd (decide (xs.length ≤ lim)) (.ok (.tup xs) h)

/-! ### the language -/
inductive Lit where
  | non | bl (b : Bool) | int (i : Int) | str (x : Str)
  deriving DecidableEq, Inhabited
def Lit.d : Lit → D
  | .non => .non
  | .bl b => .bl b
  | .int i => .int i
  | .str x => .str x
inductive B1 where
  | len | int | abs | bool | str | sum | max | min | sorted | tuple | list | all
  deriving DecidableEq, Inhabited
inductive B2 where
  | max | min | gcd
  deriving DecidableEq, Inhabited
inductive Ty where
  | int | bool | str | tuple
  deriving DecidableEq, Inhabited
inductive Op where
  | add | sub | mul | fdiv | mod | pow | band | bxor
  deriving DecidableEq, Inhabited
inductive Cp where
  | eq | ne | lt | le | gt | ge | isin | notin
  deriving DecidableEq, Inhabited

mutual
inductive CE where
  | var (i : Nat)
  | lit (l : Lit)
  /-- a constant of the module -/
  | glob (x : Str) (l : Lit)
  | tup (es : CEs) | lst (es : CEs) | dnK | dnT
  | call (f : Nat) (es : CEs)
  | b1 (b : B1) (a : CE)
  | b2 (b : B2) (a : CE) (c : CE)
  | isi (a : CE) (t : Ty)
  | bin (op : Op) (a : CE) (b : CE)
  | neg (a : CE)
  | cmp (op : Cp) (a : CE) (b : CE)
  | chain (op : Cp) (op' : Cp) (a : CE) (b : CE) (c : CE)
  | isN (a : CE) | notN (a : CE)
  /-- a is k, a is not k (k: True or False) -/
  | isB (k : Bool) (a : CE) | notB (k : Bool) (a : CE)
  | and_ (a : CE) (b : CE) | or_ (a : CE) (b : CE) | not_ (a : CE)
  | ix (a : CE) (i : CE)
  | sl (a : CE) (lo : CO) (hi : CO)
  | rvs (a : CE)
  | lc (g : TG) (it : CI) (c : CO) (e : CE)
  | dc (g : TG) (it : CI) (k : CE) (v : CE)
  | app (o : CE) (e : CE) | ext (o : CE) (e : CE) | pop (o : CE) | idx (o : CE) (e : CE) | idxT (o : CE) (e : CE)
  | get2 (o : CE) (k : CE) (d : CE)
  /-- list(range(e)) -/
  | lrg (e : CE)
inductive CO where
  | none | some (e : CE)
inductive CEs where
  | nil | cons (e : CE) (es : CEs)
/-- what a loop walks -/
inductive CI where
  | seq (e : CE) | rng1 (e : CE) | rng2 (a : CE) (b : CE) | enum (e : CE) | zip (a : CE) (b : CE) | rev (e : CE) | revrng (e : CE) | keys (e : CE)
/-- a target -/
inductive TG where
  | name (i : Nat) | tup (ts : TGs) | sub (o : CE) (i : CE)
inductive TGs where
  | nil | cons (t : TG) (ts : TGs)
end
/-- what stands behind `return` in an except suite -/
inductive SB where
  | lit (l : Lit)
  /-- isinstance(e, class) -/
  | isE (c : Nat) | isVE
  | and_ (a b : SB) | not_ (a : SB)
mutual
inductive CS where
  | expr (e : CE) | asg (t : TG) (e : CE)
  | ret (e : CE) | retN
  | if_ (c : CE) (a : CSs) (b : CSs)
  | for_ (t : TG) (it : CI) (body : CSs)
  | while_ (c : CE) (body : CSs)
  | raise (c : Nat)
  | try_ (body : CSs) (c : Nat) (s : SB)
  | pass | brk | cnt
inductive CSs where
  | nil | cons (s : CS) (ss : CSs)
end

/-! ### operations -/
def mulOk (i j : Int) : Bool := decide (i.natAbs.log2 + j.natAbs.log2 < 1000000)
def binD (op : Op) (a b : D) : M D := fun h => match op, a, b with
  | .add, .int i, .int j => .ok (.int (i + j)) h
  | .add, .str x, .str y => grd (decide (x.length + y.length ≤ lim)) (.ok (.str (x ++ y)) h)
  | .add, .tup xs, .tup ys => grd (decide (xs.length + ys.length ≤ lim)) (.ok (.tup (xs ++ ys)) h)
  | .add, .ref n, .ref m => (match h[n]?, h[m]? with
    | some (.lst xs), some (.lst ys) => newL (xs ++ ys) h
    | _, _ => .stuck)
  | .sub, .int i, .int j => .ok (.int (i - j)) h
  | .mul, .int i, .int j => grd (mulOk i j) (.ok (.int (i * j)) h)
  | .mul, .tup xs, .int k => grd (!xs.isEmpty && decide (2 ≤ k) && decide (k ≤ 1000) && decide (xs.length ≤ 1000)) (.ok (.tup (List.replicate k.toNat xs).flatten) h)
  | .mul, .ref n, .int k => (match h[n]? with
    | some (.lst xs) => grd (decide (-(2 ^ 63) ≤ k) && decide (k < 2 ^ 63) && decide (xs.length * k.toNat ≤ lim)) (newL (List.replicate k.toNat xs).flatten h)
    | _ => .stuck)
  | .fdiv, .int i, .int j => grd (decide (0 < j) && decide (j.natAbs.log2 < 9000)) (.ok (.int (i / j)) h)
  | .mod, .int i, .int j => grd (decide (0 < j)) (.ok (.int (i % j)) h)
  | .pow, .int i, .int j => grd (decide (0 ≤ j) && decide (j ≤ 1000000) && decide (i.natAbs < 2 ^ 64)) (.ok (.int (i ^ j.toNat)) h)
  | .band, .int i, .int j => .ok (.int (Builtin.bitAnd i j)) h
  | .bxor, .int i, .int j => .ok (.int (Builtin.bitXor i j)) h
  | _, _, _ => .stuck
def cmpD (op : Cp) (h : VH) (a b : D) : Option Bool := match op with
  | .eq => eqD h a b
  | .ne => (eqD h a b).map (!·)
  | .lt => ltD h a b
  | .gt => ltD h b a
  | .le => (ltD h b a).map (!·)
  | .ge => (ltD h a b).map (!·)
  | .isin => inD h a b
  | .notin => (inD h a b).map (!·)
def isiD (d : D) (t : Ty) : Bool := match t, d with
  | .int, .int _ => true
  | .int, .bl _ => true
  | .bool, .bl _ => true
  | .str, .str _ => true
  | .tuple, .tup _ => true
  | _, _ => false
/-- what isinstance is asked of: no dict that is walked -/
def isiOk (h : VH) : D → Bool
  | .ref n => match h[n]? with
    | some (.lst _) => true
    | some (.ro _ _) => true
    | some (.dK _ _) => true
    | some (.dT lk _) => !lk
    | none => false
  | _ => true
def intsD : List D → Option (List Int)
  | [] => some []
  | .int i :: ds => (intsD ds).map (i :: ·)
  | _ => none
def blsD : List D → Option (List Bool)
  | [] => some []
  | .bl i :: ds => (blsD ds).map (i :: ·)
  | _ => none
/-- the listed items' numbers -/
def listInts (h : VH) : D → Option (List Int)
  | .ref n => match h[n]? with
    | some (.lst xs) => intsD xs
    | some (.ro _ xs) => intsD xs
    | _ => none
  | _ => none
def maxL : List Int → Option Int
  | [] => none
  | x :: xs => some (xs.foldl (fun m y => if y > m then y else m) x)
def minL : List Int → Option Int
  | [] => none
  | x :: xs => some (xs.foldl (fun m y => if y < m then y else m) x)
/-- sorted of a list: data that are alike -/
def sortD (h : VH) (xs : List D) : Option (List D) := match xs.mapM (toP deep h) with
  | some ps => if ps.all (fun p => ps.all fun q => PySem.W.alike p q) && (ps.all (fun p => match p with | .tuple (_ :: _) => true | _ => false) || ps.all (fun p => match p with | .tuple _ => false | .none => false | _ => true)) && ps.all (fun p => decide (p.depth ≤ 60)) && decide (xs.length ≤ lim) then
      some (((xs.zip ps).mergeSort (fun a b => !PySem.W.dataLt b.2 a.2)).map (·.1)) else none
  | none => none
def b1D (b : B1) (d : D) : M D := fun h => match b with
  | .len => (match d with
    | .str x => grd (decide (x.length ≤ lim)) (.ok (.int x.length) h)
    | .tup xs => .ok (.int xs.length) h
    | .ref n => (match h[n]? with
      | some (.lst xs) => .ok (.int xs.length) h
      | some (.ro _ xs) => .ok (.int xs.length) h
      | some (.dK false kvs) => .ok (.int kvs.length) h
      | _ => .stuck)
    | _ => .stuck)
  | .int => (match d with
    | .int i => .ok (.int i) h
    | .bl k => .ok (.int (if k then 1 else 0)) h
    | _ => .stuck)
  | .abs => (match d with
    | .int i => .ok (.int (if i < 0 then -i else i)) h
    | _ => .stuck)
  | .bool => (match d with
    | .int i => .ok (.bl (i != 0)) h
    | .bl k => .ok (.bl k) h
    | _ => .stuck)
  | .str => (match d with
    | .int i => grd (decide (i.natAbs.log2 < 1920)) (.ok (.str (toString i)) h)
    | _ => .stuck)
  | .sum => opt (listInts h d) fun ns => .ok (.int ns.sum) h
  | .max => opt ((listInts h d).bind maxL) fun m => .ok (.int m) h
  | .min => opt ((listInts h d).bind minL) fun m => .ok (.int m) h
  | .sorted => (match d with
    | .ref n => (match h[n]? with
      | some (.lst xs) => opt (sortD h xs) fun ys => newL ys h
      | _ => .stuck)
    | .tup xs => opt (sortD h xs) fun ys => newL ys h
    | _ => .stuck)
  | .tuple => (match d with
    | .tup xs => .ok (.tup xs) h
    | .ref n => (match h[n]? with
      | some (.lst xs) => newT xs h
      | some (.ro _ xs) => newT xs h
      | _ => .stuck)
    | _ => .stuck)
  | .list => opt (itemsD h d) fun xs => newL xs h
  | .all => (match d with
    | .ref n => (match h[n]? with
      | some (.lst xs) => opt (blsD xs) fun bs => .ok (.bl (bs.all id)) h
      | _ => .stuck)
    | _ => .stuck)
def b2D (b : B2) (a c : D) : M D := fun h => match a, c with
  | .int i, .int j => (match b with
    | .max => .ok (.int (if j > i then j else i)) h
    | .min => .ok (.int (if j < i then j else i)) h
    | .gcd => .ok (.int ((Nat.gcd i.natAbs j.natAbs : Nat) : Int)) h)
  | _, _ => .stuck
def atD {α : Type} (xs : List α) (i : Int) : Option α := atI xs i
def ixD (a i : D) : M D := fun h => match a with
  | .str z => (match i with
    | .int k => grd (decide (z.length ≤ lim)) (opt (atI z.cps.toList k) fun c => .ok (.str ⟨#[c]⟩) h)
    | _ => .stuck)
  | .tup xs => (match i with
    | .int k => opt (atI xs k) fun d => .ok d h
    | _ => .stuck)
  | .ref n => (match h[n]? with
    | some (.lst xs) => (match i with
      | .int k => opt (atI xs k) fun d => .ok d h
      | _ => .stuck)
    | some (.ro _ xs) => (match i with
      | .int k => opt (atI xs k) fun d => .ok d h
      | _ => .stuck)
    | _ => opt (lookD h a i) fun r => opt r fun d => .ok d h)
  | _ => .stuck
/-- xs[lo:hi] -/
def cutL {α : Type} (xs : List α) (lo hi : Option Int) : List α := (xs.drop (HT.sIx xs.length 0 lo)).take (HT.sIx xs.length xs.length hi - HT.sIx xs.length 0 lo)
def slD (a : D) (lo hi : Option Int) : M D := fun h => match a with
  | .str z => grd (decide (z.length ≤ lim)) (.ok (.str ⟨(cutL z.cps.toList lo hi).toArray⟩) h)
  | .tup xs => .ok (.tup (cutL xs lo hi)) h
  | .ref n => (match h[n]? with
    | some (.lst xs) => newL (cutL xs lo hi) h
    | some (.ro _ xs) => newL (cutL xs lo hi) h
    | _ => .stuck)
  | _ => .stuck
def setD (o i v : D) : VH → Option VH := fun h => match o with
  | .ref n => (match h[n]? with
    | some (.lst xs) => (match i with
      | .int k => (ixN xs.length k).map fun j => h.set n (.lst (xs.set j v))
      | _ => none)
    | some (.dK false kvs) => (match keyD i with
      | some k => if kvs.length < lim then some (h.set n (.dK false (putD kvs k v))) else none
      | none => none)
    | some (.dT false kvs) => (match i with
      | .tup ks => (match keysD ks with
        | some k => if kvs.length < lim then some (h.set n (.dT false (putD kvs k v))) else none
        | none => none)
      | _ => none)
    | _ => none)
  | _ => none
/-- the first place of an equal one, flat items -/
def idxF (xs : List D) (d : D) : Option Nat := if flatD d && xs.all flatD then xs.findIdx? (fun y => eqF y d) else none
def itemsL (h : VH) : D → Option (List D)
  | .ref n => match h[n]? with
    | some (.lst xs) => some xs
    | some (.ro _ xs) => some xs
    | _ => none
  | _ => none
def strsD : List D → Option (List Str)
  | [] => some []
  | .str i :: ds => (strsD ds).map (i :: ·)
  | _ => none

def isLst (h : VH) : D → Bool
  | .ref n => match h[n]? with
    | some (.lst _) => true
    | some (.ro _ _) => true
    | _ => false
  | _ => false
def isDic (h : VH) : D → Bool
  | .ref n => match h[n]? with
    | some (.dK _ _) => true
    | some (.dT _ _) => true
    | _ => false
  | _ => false

def isTup : D → Bool
  | .tup _ => true
  | _ => false
/-! ### the interpreter -/
abbrev Env := List (Option D)
inductive Fl where
  | nx (e : Env) | rt (d : D) | bk (e : Env) | ct (e : Env)
def eval_items (h : VH) (d : D) : Option (List D) := match d with
  | .str x => some (x.cps.toList.map fun c => .str ⟨#[c]⟩)
  | d => itemsD h d
def zipD (xs ys : List D) : List D := (xs.zip ys).map fun p => .tup [p.1, p.2]
def enumD (xs : List D) : List D := (List.range xs.length |>.zip xs).map fun p => .tup [.int p.1, p.2]
def rngD (lo : Int) (n : Nat) : List D := (List.range n).map fun k => .int (lo + (k : Nat))
/-- a bound of a range (natAbs: so that the kernel never counts down a great number) -/
def isr (j : Int) : Bool := decide (j.natAbs < 2 ^ 61)
def onNx (f : Fl) (h : VH) (k : Env → Res Fl) : Res Fl := match f with
  | .nx r => k r
  | f => .ok f h
def onLp (f : Fl) (h : VH) (k : Env → Res Fl) : Res Fl := match f with
  | .nx r => k r
  | .ct r => k r
  | .bk r => .ok (.nx r) h
  | .rt d => .ok (.rt d) h
/-- the loop: src, the lists that it walks, as they stood (it asks at each turn that they still stand so) -/
def loopL (src : VH → Bool) (tn : D → Env → VH → Res Fl) : List D → Env → VH → Res Fl
  | [], r, h => grd (src h) (.ok (.nx r) h)
  | x :: xs, r, h => grd (src h) (bnd (tn x r h) fun f h' => onLp f h' fun r' => loopL src tn xs r' h')
/-- a comprehension's loop: tn gives the turn's item, or none -/
def loopC (src : VH → Bool) (tn : D → VH → Res (Option D)) (n : Nat) : List D → VH → Res Unit
  | [], h => grd (src h) (.ok () h)
  | x :: xs, h => grd (src h) (bndN (tn x h) fun o h' => match o with
    | none => loopC src tn n xs h'
    | some y => asL h' (.ref n) fun _ acc => grd (decide (acc.length < lim)) (loopC src tn n xs (h'.set n (.lst (acc ++ [y])))))
def loopK (src : VH → Bool) (tn : D → VH → Res (D × D)) (n : Nat) : List D → VH → Res Unit
  | [], h => grd (src h) (.ok () h)
  | x :: xs, h => grd (src h) (bndN (tn x h) fun o h' => match h'[n]?, keyD o.1 with
      | some (.dK false kvs), some k => grd (decide (kvs.length < lim)) (loopK src tn n xs (h'.set n (.dK false (putD kvs k o.2))))
      | _, _ => .stuck)
def whileL (c : Env → VH → Res Bool) (body : Env → VH → Res Fl) : Nat → Env → VH → Res Fl
  | 0, _, _ => .stuck
  | k + 1, r, h => bnd (c r h) fun b h' => cond b (bnd (body r h') fun f h2 => onLp f h2 fun r' => whileL c body k r' h2) (.ok (.nx r) h')
/-- turns of a while at most -/
def turns : Nat := 1000000
/-- the object at a datum still is a list of these items -/
def stands (d : D) (xs : List D) : VH → Bool := fun h => match d with
  | .ref n => (match h[n]? with
    | some (.lst ys) => decide (ys = xs)
    | some (.ro _ ys) => decide (ys = xs)
    | _ => false)
  | _ => true
mutual
def slotsG : TG → List Nat
  | .name i => [i]
  | .tup ts => slotsGs ts
  | .sub _ _ => []
def slotsGs : TGs → List Nat
  | .nil => []
  | .cons t ts => slotsG t ++ slotsGs ts
end
def lenGs : TGs → Nat
  | .nil => 0
  | .cons _ ts => lenGs ts + 1
def wipeE (r : Env) : List Nat → Env
  | [] => r
  | i :: is => (wipeE r is).set i none
/-- the callees -/
abbrev Fns := Nat → List D → VH → Res D
/-- is the class c an instance of k, as an except clause asks -/
abbrev Subs := Nat → Nat → Option Bool
def SB.ev (sub : Subs) (c : Nat) : SB → Option Bool
  | .lit (.bl b) => some b
  | .lit _ => none
  | .isE k => sub c k
  | .isVE => (sub c c).map fun _ => true
  | .and_ a b => match a.ev sub c with
    | some true => b.ev sub c
    | some false => some false
    | none => none
  | .not_ a => (a.ev sub c).map (!·)
def SB.d (sub : Subs) (c : Nat) : SB → Option D
  | .lit l => some l.d
  | s => (s.ev sub c).map .bl
section
variable (F : Fns)
mutual
def evE : CE → Env → M D
  | .var i, r, h => opt ((r[i]?).bind id) fun d => .ok d h
  | .lit l, _, h => .ok l.d h
  | .glob _ l, _, h => .ok l.d h
  | .tup es, r, h => bnd (evEs es r h) newT
  | .lst es, r, h => bnd (evEs es r h) newL
  | .dnK, _, h => .ok (.ref h.length) (h ++ [.dK false []])
  | .dnT, _, h => .ok (.ref h.length) (h ++ [.dT false []])
  | .call f es, r, h => bnd (evEs es r h) (F f)
  | .b1 b a, r, h => bnd (evE a r h) (b1D b)
  | .b2 b a c, r, h => bnd (evE a r h) fun x h => bnd (evE c r h) (b2D b x)
  | .isi a t, r, h => bnd (evE a r h) fun d h => grd (isiOk h d) (.ok (.bl (isiD d t)) h)
  | .bin op a b, r, h => bnd (evE a r h) fun x h => bnd (evE b r h) (binD op x)
  | .neg a, r, h => bnd (evE a r h) fun d h => asI d fun i => .ok (.int (-i)) h
  | .cmp op a b, r, h => bnd (evE a r h) fun x h => bnd (evE b r h) fun y h => opt (cmpD op h x y) fun k => .ok (.bl k) h
  | .chain op op' a b c, r, h => bnd (evE a r h) fun x h => bnd (evE b r h) fun y h => opt (cmpD op h x y) fun k => cond k (bnd (evE c r h) fun z h => opt (cmpD op' h y z) fun k => .ok (.bl k) h) (.ok (.bl false) h)
  | .isN a, r, h => bnd (evE a r h) fun d h => .ok (.bl (isNonD d)) h
  | .notN a, r, h => bnd (evE a r h) fun d h => .ok (.bl (!isNonD d)) h
  | .isB k a, r, h => bnd (evE a r h) fun d h => asB d fun b => .ok (.bl (decide (b = k))) h
  | .notB k a, r, h => bnd (evE a r h) fun d h => asB d fun b => .ok (.bl (!decide (b = k))) h
  | .and_ a b, r, h => bnd (evE a r h) fun d h => asB d fun k => cond k (evE b r h) (.ok (.bl false) h)
  | .or_ a b, r, h => bnd (evE a r h) fun d h => asB d fun k => cond k (.ok (.bl true) h) (evE b r h)
  | .not_ a, r, h => bnd (evE a r h) fun d h => opt (truthD h d) fun k => .ok (.bl (!k)) h
  | .ix a i, r, h => bnd (evE a r h) fun x h => bnd (evE i r h) (ixD x)
  | .sl a lo hi, r, h => bnd (evE a r h) fun x h => bnd (evO lo r h) fun l h => bnd (evO hi r h) fun u h => slD x l u h
  | .rvs a, r, h => bnd (evE a r h) fun d h => match d with
    | .tup xs => .ok (.tup xs.reverse) h
    | _ => .stuck
  | .lc g it c e, r, h => bnd (evI it r h) fun s h => bnd (loopC s.2 (fun x h => bnd (asgG g x (wipeE r (slotsG g)) h) fun r' h =>
      match c with
      | .none => bnd (evE e r' h) fun y h => .ok (some y) h
      | .some c => bnd (evE c r' h) fun d h => opt (truthD h d) fun k => cond k (bnd (evE e r' h) fun y h => .ok (some y) h) (.ok none h)) h.length s.1 (h ++ [.lst []])) fun _ h' => .ok (.ref h.length) h'
  | .dc g it k v, r, h => bnd (evI it r h) fun s h => bnd (loopK s.2 (fun x h => bnd (asgG g x (wipeE r (slotsG g)) h) fun r' h =>
      bnd (evE k r' h) fun y h => bnd (evE v r' h) fun z h => .ok (y, z) h) h.length s.1 (h ++ [.dK false []])) fun _ h' => .ok (.ref h.length) h'
  | .app o e, r, h => bnd (evE o r h) fun x h => grd (isLst h x) (bnd (evE e r h) fun y h => asL h x fun n xs => grd (decide (xs.length < lim)) (.ok .non (h.set n (.lst (xs ++ [y])))))
  | .ext o e, r, h => bnd (evE o r h) fun x h => grd (isLst h x) (bnd (evE e r h) fun y h => asL h x fun n xs => asL h y fun _ ys => grd (decide (xs.length + ys.length ≤ lim)) (.ok .non (h.set n (.lst (xs ++ ys)))))
  | .pop o, r, h => bnd (evE o r h) fun x h => asL h x fun n xs => opt (xs[xs.length - 1]?) fun y => .ok y (h.set n (.lst xs.dropLast))
  | .idx o e, r, h => bnd (evE o r h) fun x h => grd (isLst h x) (bnd (evE e r h) fun y h => opt ((itemsL h x).bind fun xs => idxF xs y) fun j => .ok (.int (j : Nat)) h)
  | .idxT _ _, _, _ => .stuck
  | .get2 o k d, r, h => bnd (evE o r h) fun x h => grd (isDic h x) (bnd (evE k r h) fun y h => bnd (evE d r h) fun z h => opt (lookD h x y) fun q => .ok (q.getD z) h)
  | .lrg e, r, h => bnd (evE e r h) fun d h => asI d fun j => grd (decide (j.natAbs ≤ 16777216)) (newL (rngD 0 j.toNat) h)
def evO : CO → Env → M (Option Int)
  | .none, _, h => .ok none h
  | .some e, r, h => bnd (evE e r h) fun d h => asI d fun i => .ok (some i) h
def evEs : CEs → Env → M (List D)
  | .nil, _, h => .ok [] h
  | .cons e es, r, h => bnd (evE e r h) fun d h => bnd (evEs es r h) fun ds h => .ok (d :: ds) h
/-- what is walked: its items, and what must stand meanwhile -/
def evI : CI → Env → M (List D × (VH → Bool))
  | .seq e, r, h => bnd (evE e r h) fun d h => opt (eval_items h d) fun xs => .ok (xs, stands d xs) h
  | .rng1 e, r, h => bnd (evE e r h) fun d h => asI d fun j => grd (isr j) (.ok (rngD 0 j.toNat, fun _ => true) h)
  | .rng2 a b, r, h => bnd (evE a r h) fun x h => bnd (evE b r h) fun y h => asI x fun i => asI y fun j => grd (isr i && isr j) (.ok (rngD i (j - i).toNat, fun _ => true) h)
  | .enum e, r, h => bnd (evE e r h) fun d h => opt (itemsD h d) fun xs => .ok (enumD xs, stands d xs) h
  | .zip a b, r, h => bnd (evE a r h) fun x h => bnd (evE b r h) fun y h => opt (itemsD h x) fun xs => opt (itemsD h y) fun ys => grd (isTup x == isTup y) <| .ok (zipD xs ys, fun h => stands x xs h && stands y ys h) h
  | .rev e, r, h => bnd (evE e r h) fun d h => opt (itemsD h d) fun xs => .ok (xs.reverse, stands d xs) h
  | .revrng e, r, h => bnd (evE e r h) fun d h => asI d fun j => grd (isr j) (.ok ((rngD 0 j.toNat).reverse, fun _ => true) h)
  | .keys _, _, _ => .stuck
def asgG : TG → D → Env → M Env
  | .name i, d, r, h => .ok (r.set i (some d)) h
  | .tup ts, d, r, h => asT d fun xs => grd (decide (xs.length = lenGs ts)) (asgGs ts xs r h)
  | .sub o i, d, r, h => bnd (evE o r h) fun x h => bnd (evE i r h) fun y h => opt (setD x y d h) fun h => .ok r h
def asgGs : TGs → List D → Env → M Env
  | .nil, ds, r, h => (match ds with
    | [] => .ok r h
    | _ => .stuck)
  | .cons t ts, ds, r, h => (match ds with
    | d :: ds => bnd (asgG t d r h) fun r h => asgGs ts ds r h
    | [] => .stuck)
end
variable (sub : Subs)
mutual
def evS : CS → Env → M Fl
  | .expr e, r, h => bnd (evE F e r h) fun _ h => .ok (.nx r) h
  | .asg t e, r, h => bnd (evE F e r h) fun d h => bnd (asgG F t d r h) fun r h => .ok (.nx r) h
  | .ret e, r, h => bnd (evE F e r h) fun d h => .ok (.rt d) h
  | .retN, _, h => .ok (.rt .non) h
  | .if_ c a b, r, h => bnd (evE F c r h) fun d h => opt (truthD h d) fun k => cond k (evSs a r h) (evSs b r h)
  | .for_ t it body, r, h => bnd (evI F it r h) fun s h => loopL s.2 (fun x r h => bnd (asgG F t x r h) fun r h => evSs body r h) s.1 r h
  | .while_ c body, r, h => whileL (fun r h => bnd (evE F c r h) fun d h => opt (truthD h d) fun k => .ok k h) (fun r h => evSs body r h) turns r h
  | .raise c, _, h => .exc c h
  | .try_ body c s, r, h => match evSs body r h with
    | .ok f h => .ok f h
    | .exc k h => opt (sub k c) fun b => (match b with
      | true => opt (s.d sub k) fun d => .ok (.rt d) h
      | false => .exc k h)
    | .stuck => .stuck
  | .pass, r, h => .ok (.nx r) h
  | .brk, r, h => .ok (.bk r) h
  | .cnt, r, h => .ok (.ct r) h
def evSs : CSs → Env → M Fl
  | .nil, r, h => .ok (.nx r) h
  | .cons s ss, r, h => bnd (evS s r h) fun f h => onNx f h fun r => evSs ss r h
end
end
/-- a def: the number of its names, of its parameters, its body -/
structure Fn where
  names : Nat
  pars : Nat
  body : CSs
structure Prog where
  fns : List Fn
  sub : Subs
def startE (n : Nat) (ds : List D) : Env := ds.map some ++ List.replicate (n - ds.length) none
def callN (P : Prog) : Nat → Fns
  | 0, _, _, _ => .stuck
  | k + 1, f, ds, h => match P.fns[f]? with
    | none => .stuck
    | some fn => grd (decide (ds.length = fn.pars)) (bnd (evSs (callN P k) P.sub fn.body (startE fn.names ds) h) fun fl h => match fl with
      | .nx _ => .ok .non h
      | .rt d => .ok d h
      | _ => .stuck)
end PI
end
section
set_option maxRecDepth 100000
/-! The core language's data and the abstract heap of the hand layer: one says the other (own work). -/
namespace PI
open PySem PySem.Spec PyProof.Rows L2

/-! ### a datum and a value -/
section
variable (K : PySem.W.Frag)
/-- a list of the written part -/
def KLst (a : Addr) (xs : List V) : Prop := ∃ (o : Obj) (its : Array Value) (n : Nat), K.lookup a = some o ∧ o.cls = .type "list" ∧ o.dict = none ∧ o.data = .seq its n ∧ its.size ≤ sizeLine ∧ Vals xs its.toList
def TupAt (_ : PySem.W.Frag) (H : Hp) (a : Addr) (xs : List V) : Prop := H a = some (.tup xs)
mutual
inductive RelD (mu : List Addr) (H : Hp) : D → V → Prop where
  | non : RelD mu H .non .non
  | bl (b : Bool) : RelD mu H (.bl b) (.bl b)
  | int (i : Int) : RelD mu H (.int i) (.int i)
  | str (x : Str) : RelD mu H (.str x) (.str x)
  | ref {n : Nat} {a : Addr} (e : mu[n]? = some a) : RelD mu H (.ref n) (.ref a)
  | tup {a : Addr} {ds : List D} {vs : List V} (e : TupAt K H a vs) (r : RelDs mu H ds vs) : RelD mu H (.tup ds) (.ref a)
inductive RelDs (mu : List Addr) (H : Hp) : List D → List V → Prop where
  | nil : RelDs mu H [] []
  | cons {d : D} {v : V} {ds : List D} {vs : List V} (r : RelD mu H d v) (rs : RelDs mu H ds vs) : RelDs mu H (d :: ds) (v :: vs)
end
end
section
variable {K : PySem.W.Frag} {mu mu' mu2 : List Addr} {H H' H2 : Hp}
theorem TupAt.sq {a : Addr} {xs : List V} (h : TupAt K H a xs) : SqT K H a xs := .inl (.inl h)
/-- the heap goes on: what was tracked as a tuple stays, what was known (the script) stays, the store grows -/
structure Ext (mu : List Addr) (H : Hp) (mu' : List Addr) (H' : Hp) : Prop where
  pre : ∃ t, mu' = mu ++ t
  tups : ∀ a xs, H a = some (.tup xs) → H' a = some (.tup xs)
  ros : ∀ a o xs, H a = some (.frz o (.lst xs)) → H' a = some (.frz o (.lst xs))
theorem Ext.refl : Ext mu H mu H := ⟨⟨[], by simp⟩, fun _ _ h => h, fun _ _ _ h => h⟩
theorem Ext.trans (a : Ext mu H mu' H') (b : Ext mu' H' mu2 H2) : Ext mu H mu2 H2 := by
  obtain ⟨t, e⟩ := a.pre
  obtain ⟨u, e'⟩ := b.pre
  exact ⟨⟨t ++ u, by rw [e', e, List.append_assoc]⟩, fun x xs h => b.tups x xs (a.tups x xs h), fun x o xs h => b.ros x o xs (a.ros x o xs h)⟩
theorem Ext.get {n : Nat} {a : Addr} (e : Ext mu H mu' H') (h : mu[n]? = some a) : mu'[n]? = some a := by
  obtain ⟨t, rfl⟩ := e.pre
  have hl : n < mu.length := (List.getElem?_eq_some_iff.mp h).1
  rw [List.getElem?_append_left hl]
  exact h
theorem TupAt.ext {a : Addr} {xs : List V} (h : TupAt K H a xs) (e : Ext mu H mu' H') : TupAt K H' a xs := e.tups _ _ h
mutual
theorem RelD.ext (e : Ext mu H mu' H') : ∀ {d : D} {v : V}, RelD K mu H d v → RelD K mu' H' d v
  | _, _, .non => .non
  | _, _, .bl b => .bl b
  | _, _, .int i => .int i
  | _, _, .str x => .str x
  | _, _, .ref h => .ref (e.get h)
  | _, _, .tup h r => .tup (h.ext e) (RelDs.ext e r)
theorem RelDs.ext (e : Ext mu H mu' H') : ∀ {ds : List D} {vs : List V}, RelDs K mu H ds vs → RelDs K mu' H' ds vs
  | _, _, .nil => .nil
  | _, _, .cons r rs => .cons (RelD.ext e r) (RelDs.ext e rs)
end
theorem RelDs.length : ∀ {ds : List D} {vs : List V}, RelDs K mu H ds vs → ds.length = vs.length
  | _, _, .nil => rfl
  | _, _, .cons _ rs => by rw [List.length_cons, List.length_cons, RelDs.length rs]
theorem RelDs.get : ∀ {ds : List D} {vs : List V} {i : Nat} {d : D}, RelDs K mu H ds vs → ds[i]? = some d → ∃ v, vs[i]? = some v ∧ RelD K mu H d v
  | _, _, _, _, .nil, e => by simp at e
  | _, _, 0, _, .cons r _, e => by simp at e; subst e; exact ⟨_, rfl, r⟩
  | _, _, i + 1, d, .cons _ rs, e => by
    obtain ⟨v, h1, h2⟩ := RelDs.get (i := i) (d := d) rs (by simpa using e)
    exact ⟨v, by simpa using h1, h2⟩
theorem RelDs.append : ∀ {ds es : List D} {vs ws : List V}, RelDs K mu H ds vs → RelDs K mu H es ws → RelDs K mu H (ds ++ es) (vs ++ ws)
  | _, _, _, _, .nil, s => s
  | _, _, _, _, .cons r rs, s => .cons r (RelDs.append rs s)
theorem RelDs.set {d : D} {v : V} (r : RelD K mu H d v) : ∀ {ds : List D} {vs : List V} (i : Nat), RelDs K mu H ds vs → RelDs K mu H (ds.set i d) (vs.set i v)
  | _, _, _, .nil => .nil
  | _, _, 0, .cons _ rs => .cons r rs
  | _, _, i + 1, .cons q rs => .cons q (RelDs.set r i rs)
theorem RelDs.take : ∀ {ds : List D} {vs : List V} (n : Nat), RelDs K mu H ds vs → RelDs K mu H (ds.take n) (vs.take n)
  | _, _, 0, _ => .nil
  | _, _, _ + 1, .nil => .nil
  | _, _, n + 1, .cons r rs => .cons r (RelDs.take n rs)
theorem RelDs.drop : ∀ {ds : List D} {vs : List V} (n : Nat), RelDs K mu H ds vs → RelDs K mu H (ds.drop n) (vs.drop n)
  | _, _, 0, r => r
  | _, _, _ + 1, .nil => .nil
  | _, _, n + 1, .cons _ rs => RelDs.drop n rs
theorem RelDs.dropLast {ds : List D} {vs : List V} (r : RelDs K mu H ds vs) : RelDs K mu H ds.dropLast vs.dropLast := by
  rw [List.dropLast_eq_take, List.dropLast_eq_take, ← r.length]
  exact r.take _
theorem RelDs.reverse : ∀ {ds : List D} {vs : List V}, RelDs K mu H ds vs → RelDs K mu H ds.reverse vs.reverse
  | _, _, .nil => .nil
  | _, _, .cons r rs => by
    rw [List.reverse_cons, List.reverse_cons]
    exact (RelDs.reverse rs).append (.cons r .nil)
theorem RelDs.rep {ds : List D} {vs : List V} (r : RelDs K mu H ds vs) : ∀ k : Nat, RelDs K mu H (List.replicate k ds).flatten (List.replicate k vs).flatten
  | 0 => .nil
  | k + 1 => by
    rw [List.replicate_succ, List.replicate_succ, List.flatten_cons, List.flatten_cons]
    exact r.append (RelDs.rep r k)
theorem RelDs.ints : ∀ (ns : List Int), RelDs K mu H (ns.map .int) (ns.map .int)
  | [] => .nil
  | n :: ns => .cons (.int n) (RelDs.ints ns)
end

/-! ### the store and the abstract heap -/
section
variable (K : PySem.W.Frag) (mu : List Addr) (H : Hp)
def RelKV {κ : Type} (kvs : List (κ × D)) (ws : List (κ × V)) : Prop := Paired (fun (p : κ × D) (q : κ × V) => p.1 = q.1 ∧ RelD K mu H p.2 q.2) kvs ws
def Holds (a : Addr) : VO → Prop
  | .lst xs => ∃ vs, H a = some (.lst vs) ∧ RelDs K mu H xs vs
  | .ro k xs => ∃ vs, (if k = true then KLst K a vs else ∃ o, H a = some (.frz o (.lst vs))) ∧ RelDs K mu H xs vs
  | .dK lk kvs => ∃ ws, (if lk = true then ∃ o, H a = some (.frz o (.dK ws)) else H a = some (.dK ws)) ∧ RelKV K mu H kvs ws
  | .dT lk kvs => ∃ ws, (if lk = true then ∃ o, H a = some (.frz o (.dT ws)) else H a = some (.dT ws)) ∧ RelKV K mu H kvs ws
def isK : VO → Bool
  | .ro true _ => true
  | _ => false
structure Sim (h : VH) : Prop where
  len : mu.length = h.length
  at_ : ∀ (n : Nat) (a : Addr) (o : VO), mu[n]? = some a → h[n]? = some o → Holds K mu H a o
  sep : ∀ (n m : Nat) (a : Addr) (o u : VO), n ≠ m → mu[n]? = some a → mu[m]? = some a → h[n]? = some o → h[m]? = some u → isK o = false → isK u = false → False
end
section
variable {K : PySem.W.Frag} {mu mu' mu2 : List Addr} {H H' H2 : Hp} {h h' : VH} {a p : Addr} {n : Nat}
theorem Paired.mono2 {α β : Type} {F G : α → β → Prop} (f : ∀ a b, F a b → G a b) : ∀ {l : List α} {m : List β}, Paired F l m → Paired G l m
  | _, _, .nil => .nil
  | _, _, .cons r t => .cons (f _ _ r) (Paired.mono2 f t)
theorem RelKV.ext {κ : Type} {kvs : List (κ × D)} {ws : List (κ × V)} (r : RelKV K mu H kvs ws) (e : Ext mu H mu' H') : RelKV K mu' H' kvs ws := Paired.mono2 (fun _ _ z => ⟨z.1, z.2.ext e⟩) r
theorem Holds.ext {o : VO} (x : Holds K mu H a o) (e : Ext mu H mu' H') (k : isK o = false → H' a = H a) : Holds K mu' H' a o := by
  cases o with
  | lst xs => obtain ⟨vs, q, r⟩ := x; exact ⟨vs, (k rfl).trans q, r.ext e⟩
  | ro b xs =>
    obtain ⟨vs, q, r⟩ := x
    cases b with
    | true => exact ⟨vs, q, r.ext e⟩
    | false => exact ⟨vs, by rw [k rfl]; exact q, r.ext e⟩
  | dK lk kvs =>
    obtain ⟨ws, q, r⟩ := x
    exact ⟨ws, by rw [k rfl]; exact q, r.ext e⟩
  | dT lk kvs =>
    obtain ⟨ws, q, r⟩ := x
    exact ⟨ws, by rw [k rfl]; exact q, r.ext e⟩
theorem Holds.there {o : VO} (x : Holds K mu H a o) (k : isK o = false) : H a ≠ none ∧ (∀ xs, H a ≠ some (.tup xs)) := by
  cases o with
  | lst xs => obtain ⟨vs, q, r⟩ := x; rw [q]; simp
  | ro b xs =>
    obtain ⟨vs, q, r⟩ := x
    cases b with
    | true => cases k
    | false => obtain ⟨o, q⟩ := (show ∃ o, _ from q); rw [q]; simp
  | dK lk kvs =>
    obtain ⟨ws, q, r⟩ := x
    cases lk with
    | true => obtain ⟨o, q⟩ := (show ∃ o, _ from q); rw [q]; simp
    | false => rw [(show H a = _ from q)]; simp
  | dT lk kvs =>
    obtain ⟨ws, q, r⟩ := x
    cases lk with
    | true => obtain ⟨o, q⟩ := (show ∃ o, _ from q); rw [q]; simp
    | false => rw [(show H a = _ from q)]; simp
theorem Sim.mem (S : Sim K mu H h) {n : Nat} {a : Addr} (e : mu[n]? = some a) : ∃ o, h[n]? = some o := by
  have hl := (List.getElem?_eq_some_iff.mp e).1
  exact ⟨h[n]'(by rw [← S.len]; exact hl), List.getElem?_eq_getElem _⟩
theorem Sim.addr (S : Sim K mu H h) {n : Nat} {o : VO} (e : h[n]? = some o) : ∃ a, mu[n]? = some a := by
  have hl := (List.getElem?_eq_some_iff.mp e).1
  exact ⟨mu[n]'(by rw [S.len]; exact hl), List.getElem?_eq_getElem _⟩
/-- what a new thing at p leaves -/
theorem ext_new {ob : HO} (hp : H p = none) (t : List Addr) : Ext mu H (mu ++ t) (upd H p ob) :=
  ⟨⟨t, rfl⟩, fun a xs q => by rw [upd_ne (ne_of_none q hp)]; exact q, fun a o xs q => by rw [upd_ne (ne_of_none q hp)]; exact q⟩
theorem ext_newT {ob : HO} (hp : H p = none) : Ext mu H mu (upd H p ob) := by
  have := ext_new (mu := mu) (ob := ob) hp []
  rwa [List.append_nil] at this
/-- a new tuple (or anything that the store does not name) -/
theorem Sim.newT {ob : HO} (S : Sim K mu H h) (hp : H p = none) : Sim K mu (upd H p ob) h :=
  ⟨S.len, fun n a o e1 e2 => (S.at_ n a o e1 e2).ext (ext_newT hp) fun k => upd_ne fun z => ((S.at_ n a o e1 e2).there k).1 (by rw [z]; exact hp), S.sep⟩
theorem get_snoc {α : Type} {l : List α} {x y : α} {n : Nat} (e : (l ++ [x])[n]? = some y) : (n < l.length ∧ l[n]? = some y) ∨ (n = l.length ∧ y = x) := by
  by_cases q : n < l.length
  · rw [List.getElem?_append_left q] at e; exact .inl ⟨q, e⟩
  · rw [List.getElem?_append_right (by omega)] at e
    have e0 : n - l.length = 0 := by
      have := (List.getElem?_eq_some_iff.mp e).1
      simp at this; omega
    rw [e0] at e
    simp at e
    exact .inr ⟨by omega, e.symm⟩
/-- a new object of the store -/
theorem Sim.newO {ob : HO} {vo : VO} (S : Sim K mu H h) (hp : H p = none) (hv : Holds K (mu ++ [p]) (upd H p ob) p vo) (hk : isK vo = false) : Sim K (mu ++ [p]) (upd H p ob) (h ++ [vo]) := by
  have e := ext_new (mu := mu) (ob := ob) hp [p]
  have old : ∀ {n a o}, mu[n]? = some a → h[n]? = some o → isK o = false → a ≠ p := fun e1 e2 k z => ((S.at_ _ _ _ e1 e2).there k).1 (by rw [z]; exact hp)
  refine ⟨by simp [S.len], fun n a o e1 e2 => ?_, fun n m a o u ne e1 e2 e3 e4 k1 k2 => ?_⟩
  · rcases get_snoc e1 with ⟨l1, e1⟩ | ⟨l1, rfl⟩
    · rcases get_snoc e2 with ⟨l2, e2⟩ | ⟨l2, rfl⟩
      · exact (S.at_ n a o e1 e2).ext e fun k => upd_ne (old e1 e2 k)
      · have := S.len; omega
    · rcases get_snoc e2 with ⟨l2, e2⟩ | ⟨l2, rfl⟩
      · have := S.len; omega
      · exact hv
  · have hl := S.len
    rcases get_snoc e1 with ⟨l1, e1⟩ | ⟨l1, q1⟩ <;> rcases get_snoc e2 with ⟨l2, e2⟩ | ⟨l2, q2⟩ <;> rcases get_snoc e3 with ⟨l3, e3⟩ | ⟨l3, q3⟩ <;> rcases get_snoc e4 with ⟨l4, e4⟩ | ⟨l4, q4⟩ <;> first
      | omega
      | exact S.sep n m a o u ne e1 e2 e3 e4 k1 k2
      | exact old e1 e3 k1 q2
      | exact old e2 e4 k2 q1
/-- an object of the store is changed -/
theorem Sim.put {ob : HO} {vo vo' : VO} (S : Sim K mu H h) (e1 : mu[n]? = some a) (e2 : h[n]? = some vo) (k : isK vo = false) (hf : ∀ o xs, H a ≠ some (.frz o (.lst xs))) (hv : Ext mu H mu (upd H a ob) → Holds K mu (upd H a ob) a vo') (hk : isK vo' = false) :
    Sim K mu (upd H a ob) (h.set n vo') ∧ Ext mu H mu (upd H a ob) := by
  have th := (S.at_ n a vo e1 e2).there k
  have e : Ext mu H mu (upd H a ob) := ⟨⟨[], by simp⟩, fun b xs q => by
    rw [upd_ne fun z => th.2 xs (by rw [← z]; exact q)]; exact q, fun b o xs q => by
    rw [upd_ne fun z => hf o xs (by rw [← z]; exact q)]; exact q⟩
  refine ⟨⟨by simp [S.len], fun m b o q1 q2 => ?_, fun m l b o u ne q1 q2 q3 q4 k1 k2 => ?_⟩, e⟩
  · by_cases hm : m = n
    · subst hm
      rw [e1] at q1; cases q1
      rw [List.getElem?_set_self (List.getElem?_eq_some_iff.mp e2).1] at q2; cases q2
      exact hv e
    · rw [List.getElem?_set_ne (Ne.symm hm)] at q2
      exact (S.at_ m b o q1 q2).ext e fun kk => upd_ne fun z => S.sep m n a o vo hm (by rw [← z]; exact q1) e1 q2 e2 kk k
  · have back : ∀ {m o}, (h.set n vo')[m]? = some o → isK o = false → ∃ o', h[m]? = some o' ∧ isK o' = false := fun {m o} q kk => by
      by_cases hm : m = n
      · exact ⟨vo, by rw [hm]; exact e2, k⟩
      · rw [List.getElem?_set_ne (Ne.symm hm)] at q; exact ⟨o, q, kk⟩
    obtain ⟨o', z1, z2⟩ := back q3 k1
    obtain ⟨u', z3, z4⟩ := back q4 k2
    exact S.sep m l b o' u' ne q1 q2 z1 z3 z2 z4
theorem Sim.lst (S : Sim K mu H h) {xs : List D} (e1 : mu[n]? = some a) (e2 : h[n]? = some (.lst xs)) : ∃ vs, H a = some (.lst vs) ∧ RelDs K mu H xs vs := S.at_ n a _ e1 e2
theorem Sim.putL (S : Sim K mu H h) {xs ys : List D} {ws : List V} (e1 : mu[n]? = some a) (e2 : h[n]? = some (.lst xs)) (r : RelDs K mu H ys ws) : Sim K mu (upd H a (.lst ws)) (h.set n (.lst ys)) ∧ Ext mu H mu (upd H a (.lst ws)) := by
  obtain ⟨vs, q, _⟩ := S.lst e1 e2
  exact S.put e1 e2 rfl (fun o xs z => by rw [q] at z; cases z) (fun e => ⟨ws, upd_same, r.ext e⟩) rfl
theorem Sim.newL (S : Sim K mu H h) {ys : List D} {ws : List V} (hp : H p = none) (r : RelDs K mu H ys ws) : Sim K (mu ++ [p]) (upd H p (.lst ws)) (h ++ [.lst ys]) ∧ Ext mu H (mu ++ [p]) (upd H p (.lst ws)) ∧ RelD K (mu ++ [p]) (upd H p (.lst ws)) (.ref h.length) (.ref p) := by
  have e := ext_new (mu := mu) (ob := .lst ws) hp [p]
  refine ⟨S.newO hp ⟨ws, upd_same, r.ext e⟩ rfl, e, .ref ?_⟩
  rw [← S.len]; simp
end

/-! ### what is wanted behind a run -/
section
variable (K : PySem.W.Frag)
def Post {α : Type} (mu : List Addr) (H : Hp) (r : Res α) (k : α → VH → List Addr → Hp → Prop) (x : Nat → Hp → Prop) : Prop := match r with
  | .ok a h => ∀ mu' H', Ext mu H mu' H' → Sim K mu' H' h → k a h mu' H'
  | .exc c h => ∀ mu' H', Ext mu H mu' H' → Sim K mu' H' h → x c H'
  | .stuck => False
def RelEnv (mu : List Addr) (H : Hp) (r : Env) (σ : L2.St) : Prop := r.length = σ.length ∧ ∀ (i : Nat) (d : D), r[i]? = some (some d) → ∃ v, σ[i]? = some (some v) ∧ RelD K mu H d v
end
section
variable {K : PySem.W.Frag} {mu mu' mu2 : List Addr} {H H' H2 : Hp} {h h' : VH} {α β : Type}
theorem Post.bnd {m : Res α} {f : α → VH → Res β} {k : β → VH → List Addr → Hp → Prop} {x : Nat → Hp → Prop} (p : Post K mu H (PI.bnd m f) k x) : Post K mu H m (fun a h mu' H' => Post K mu' H' (f a h) k x) x := by
  cases m with
  | ok a h1 =>
    intro mu1 H1 e1 s1
    have p : Post K mu H (f a h1) k x := p
    show Post K mu1 H1 (f a h1) k x
    cases q : f a h1 with
    | ok b h2 => rw [q] at p; exact fun mu2 H2 e2 s2 => p mu2 H2 (e1.trans e2) s2
    | exc c h2 => rw [q] at p; exact fun mu2 H2 e2 s2 => p mu2 H2 (e1.trans e2) s2
    | stuck => rw [q] at p; exact p
  | exc c h1 => exact p
  | stuck => exact p
theorem Post.imp {m : Res α} {k k' : α → VH → List Addr → Hp → Prop} {x x' : Nat → Hp → Prop} (p : Post K mu H m k x) (f : ∀ a h mu' H', Ext mu H mu' H' → Sim K mu' H' h → k a h mu' H' → k' a h mu' H')
    (g : ∀ c H', x c H' → x' c H' := by exact fun _ _ z => z) : Post K mu H m k' x' := by
  cases m with
  | ok a h1 => exact fun mu1 H1 e1 s1 => f a h1 mu1 H1 e1 s1 (p mu1 H1 e1 s1)
  | exc c h1 => exact fun mu1 H1 e1 s1 => g c H1 (p mu1 H1 e1 s1)
  | stuck => exact p
/-- from here to a later heap -/
theorem Post.later {m : Res α} {k : α → VH → List Addr → Hp → Prop} {x : Nat → Hp → Prop} (p : Post K mu H m k x) (e : Ext mu H mu' H') : Post K mu' H' m k x := by
  cases m with
  | ok a h1 => exact fun mu1 H1 e1 s1 => p mu1 H1 (e.trans e1) s1
  | exc c h1 => exact fun mu1 H1 e1 s1 => p mu1 H1 (e.trans e1) s1
  | stuck => exact p
theorem Post.ok {a : α} {k : α → VH → List Addr → Hp → Prop} {x : Nat → Hp → Prop} (p : Post K mu H (.ok a h) k x) (S : Sim K mu H h) : k a h mu H := p mu H .refl S
theorem Post.opt {o : Option α} {f : α → Res β} {k : β → VH → List Addr → Hp → Prop} {x : Nat → Hp → Prop} (p : Post K mu H (PI.opt o f) k x) : ∃ a, o = some a ∧ Post K mu H (f a) k x := by
  cases o with
  | some a => exact ⟨a, rfl, p⟩
  | none => exact p.elim
theorem Post.grd {b : Bool} {r : Res β} {k : β → VH → List Addr → Hp → Prop} {x : Nat → Hp → Prop} (p : Post K mu H (PI.grd b r) k x) : b = true ∧ Post K mu H r k x := by
  cases b with
  | true => exact ⟨rfl, p⟩
  | false => exact p.elim
theorem RelEnv.ext {r : Env} {σ : L2.St} (x : RelEnv K mu H r σ) (e : Ext mu H mu' H') : RelEnv K mu' H' r σ := ⟨x.1, fun i d q => by
  obtain ⟨v, h1, h2⟩ := x.2 i d q
  exact ⟨v, h1, h2.ext e⟩⟩
theorem RelEnv.set {r : Env} {σ : L2.St} {d : D} {v : V} (x : RelEnv K mu H r σ) (i : Nat) (rv : RelD K mu H d v) : RelEnv K mu H (r.set i (some d)) (σ.set i (some v)) := by
  refine ⟨by simp [x.1], fun j e q => ?_⟩
  by_cases hj : j = i
  · subst hj
    by_cases hl : j < r.length
    · rw [List.getElem?_set_self hl] at q
      cases q
      exact ⟨v, List.getElem?_set_self (by rw [← x.1]; exact hl), rv⟩
    · rw [List.getElem?_eq_none (by simpa using hl)] at q; cases q
  · rw [List.getElem?_set_ne (Ne.symm hj)] at q
    obtain ⟨w, h1, h2⟩ := x.2 j e q
    exact ⟨w, by rw [List.getElem?_set_ne (Ne.symm hj)]; exact h1, h2⟩
theorem wipeE_length (r : Env) : ∀ is : List Nat, (wipeE r is).length = r.length
  | [] => rfl
  | i :: is => by unfold wipeE; rw [List.length_set, wipeE_length r is]
theorem RelEnv.unset {r : Env} {σ : L2.St} (x : RelEnv K mu H r σ) (i : Nat) : RelEnv K mu H (r.set i none) (σ.set i none) := by
  refine ⟨by simp [x.1], fun j e q => ?_⟩
  by_cases hj : j = i
  · subst hj
    by_cases hl : j < r.length
    · rw [List.getElem?_set_self hl] at q
      cases q
    · rw [List.getElem?_eq_none (by simpa using hl)] at q; cases q
  · rw [List.getElem?_set_ne (Ne.symm hj)] at q
    obtain ⟨w, h1, h2⟩ := x.2 j e q
    exact ⟨w, by rw [List.getElem?_set_ne (Ne.symm hj)]; exact h1, h2⟩
theorem RelEnv.wipe {r : Env} {σ : L2.St} (x : RelEnv K mu H r σ) : ∀ is : List Nat, RelEnv K mu H (wipeE r is) (L2.wipe σ is)
  | [] => x
  | i :: is => (RelEnv.wipe x is).unset i
end
end PI
end
section
set_option maxRecDepth 100000
/-! enumerate over a tuple, at the hand level (own work; in the manner of the library's enumerate over a list). -/
namespace PI
open PySem PySem.Spec PyProof.Rows L2
set_option maxHeartbeats 1000000 in
theorem meets_enumerate_newT (t : Addr) (items : Array Value) :
    Meets (Builtin.«enumerate.__new__» ⟨[.type "enumerate", .ref t], []⟩) (fun _ R s => s.heap.IsTuple t items ∧
      R (.ok (.ret (.ref (s.heap.push { cls := .type "tuple_iterator", data := .fields #[.ref t, .int 0 0] }).objs.size)))
        { s with heap := (s.heap.push { cls := .type "tuple_iterator", data := .fields #[.ref t, .int 0 0] }).push { cls := .type "enumerate", data := .fields #[.none, .bool false, .ref s.heap.objs.size, rawInt 0, .none, .none] } }) :=
  .of_wp fun prog w A R s h => by
    obtain ⟨hp, g, d, tk, os⟩ := s; obtain ⟨hT, h⟩ := h
    have hsub := sub_enumerate
    wp_walk
    refine wpAny_stack_any fun st => wpAny_pure ?_
    split
    · rename_i c _ _ _ _ _
      cases (c == Value.type "enumerate")
      · wp_walk using wpAny_pyIter_tuple hT
        exact ⟨_, rfl, h⟩
      · wp_walk using wpAny_pyIter_tuple hT
        exact ⟨_, rfl, h⟩
    · wp_walk using wpAny_pyIter_tuple hT
      exact ⟨_, rfl, h⟩
section
variable {prog : Program} {w : World} {A : Around} {E : Value → Shared → Prop} {s : Shared}
theorem call_enumerate_tuple {t : Addr} {items : Array Value} {Q : Value → Shared → Prop} (hT : s.heap.IsTuple t items)
    (h : ∀ h', IsEnum h' (s.heap.objs.size + 1) s.heap.objs.size 0 .none → h'.IsTupleIter s.heap.objs.size t 0 → h'.objs.size = s.heap.objs.size + 2 →
      (∀ b o, s.heap.get? b = some o → h'.get? b = some o) → Q (.ref (s.heap.objs.size + 1)) { s with heap := h' }) :
    wpAny (model prog w) A (call (.type "enumerate") [.ref t]) Q E s := by
  refine callType_new F.called_enumerate (by decide) (F.typeCall_enumerate_1 _) (F.newCall_enumerate_1 _) (fun obj => F.args_object_init_2 obj _) F.entry_enumerate_new
    (meets_enumerate_newT t items) ⟨hT, ?_⟩
  have hz : (s.heap.push { cls := .type "tuple_iterator", data := .fields #[.ref t, .int 0 0] }).objs.size = s.heap.objs.size + 1 := Heap.size_push ..
  show _ ∧ _
  rw [hz]
  have he : IsEnum ((s.heap.push { cls := .type "tuple_iterator", data := .fields #[.ref t, .int 0 0] }).push
      { cls := .type "enumerate", data := .fields #[.none, .bool false, .ref s.heap.objs.size, rawInt 0, .none, .none] }) (s.heap.objs.size + 1) s.heap.objs.size 0 .none := by
    have := Heap.get?_push_size (s.heap.push { cls := .type "tuple_iterator", data := .fields #[.ref t, .int 0 0] })
      (o := { cls := .type "enumerate", data := .fields #[.none, .bool false, .ref s.heap.objs.size, rawInt 0, .none, .none] }) rfl
    rw [hz] at this; exact this
  refine ⟨⟨_, he, rfl⟩, h _ he ⟨_, Heap.get?_push_of_some _ (Heap.get?_push_size _ rfl), rfl, rfl⟩ (by rw [Heap.size_push, hz]) fun b o x => Heap.get?_push_of_some _ (Heap.get?_push_of_some _ x)⟩
end
section
variable {prog : Program} {w : World} {A : Around} {E : Value → Shared → Prop} {s : Shared}
theorem enum_tuple_end {e it l : Addr} {i : Nat} {items : Array Value} {old : Value} {Q : Option Value → Shared → Prop} (hh : A.handled = none)
    (he : IsEnum s.heap e it i old) (hit : s.heap.IsTupleIter it l i) (hl : s.heap.IsTuple l items) (hx : items[i]? = none)
    (hQ : ∀ h', Heap.ExtBut it s.heap h' → Q none { s with heap := h' }) : wpAny (model prog w) A (pyNext (.ref e)) Q E s := by
  have hT : s.TypeIs (.ref e) "enumerate" := ⟨_, he, rfl⟩
  unfold pyNext
  refine wpAny_bind (wpAny_attempt (wpAny_callSpecial?_slot (name := Str.ofString "__next__") hT F.slot_enumerate_next
    (wpAny_call_entry F.slot_enumerate_next hT F.entry_enumerate_next ?_ (F.args_enumerate_next_1 _))))
  show wpAny _ _ (field (.ref e) 2 >>= _) _ _ _
  refine wpAny_bind (wpAny_field he rfl (x := .ref it) rfl ?_)
  refine wpAny_bind (wpAny_nextOf_tuple_end hh hit hl hx fun h' x he' hx' => ?_)
  obtain ⟨o, ho, hc⟩ := hx'
  refine wpAny_bind (wpAny_isInstance (T := "StopIteration") (b := true) ⟨o, ho, hc⟩ isSubtype_stop ?_)
  exact wpAny_pure (hQ _ he')
end
/-- the tuple at a as it stands at each turn, each item in a new pair -/
def IteT (K : PySem.W.Frag) (a : Addr) : It :=
  ⟨fun i H => ∃ (xs : List V) (x : V), SqT K H a xs ∧ xs[i]? = some x, fun i H v H' => ∃ T x, v = .ref T ∧ H T = none ∧ H' = upd H T (.tup [.int (i : Nat), x]) ∧ ∀ xs, SqT K H a xs → xs[i]? = some x, fun i H => ∃ xs : List V, SqT K H a xs ∧ xs.length ≤ i⟩
theorem turn_enumT {P : Program} {w : World} {K : PySem.W.Frag} {elts : List Expr} {kk : Nat} {tpos : Pos} (a e it : Addr) :
    Turn P w K (.Tuple elts kk tpos) (IteT K a) [e, it] e (fun i h => (∃ old, IsEnum h e it ((i : Nat) : Int) old) ∧ h.IsTupleIter it a i ∧ e ≠ it ∧ a ≠ it ∧ e ≠ a) where
  mem := by simp
  obj := fun i h st b hb => by
    obtain ⟨⟨old, he⟩, ⟨o, ho, hc, hd⟩, _⟩ := st
    have e' : b = e ∨ b = it := by simpa using hb
    rcases e' with z | z
    · rw [z]; exact ⟨_, he, fun v q => nomatch q⟩
    · rw [z]; exact ⟨o, ho, fun v q => by rw [hd] at q; cases q⟩
  keep := fun i h h' st k => let ⟨⟨old, he⟩, hi, hne⟩ := st; ⟨⟨old, k e (by simp) _ he⟩, hi.at fun o q => k it (by simp) o q, hne⟩
  item := by
    intro X hP hw hK hc i pins s σ H E I hf st hg
    subst hP hw hK
    obtain ⟨⟨old, he⟩, hit, hne, hai, hea⟩ := st
    obtain ⟨xs, x, hq, hx⟩ := hg
    obtain ⟨its, rv, p, _⟩ := I.tuple hq
    obtain ⟨u, hu, ru⟩ := rv.get hx
    have hel : e < s.heap.objs.size := Heap.lt_size he
    have hil : it < s.heap.objs.size := by obtain ⟨_, q, _⟩ := hit; exact Heap.lt_size q
    have hlt : i < its.toArray.size := by
      have := (List.getElem?_eq_some_iff.mp hu).1
      simpa using this
    refine wpAny_pyNext_enum_itemD (Draws.tuple (A := X.A.in1) (I.ok.hd hc) it a hai its.toArray) he ⟨hit, show s.heap.IsTuple a its.toArray from p⟩ hlt hne (by simp [hne, hea]) fun v h' tk hv ho hit' hT hsz hk => ?_
    have hvu : v = u := by
      have : its.toArray[i]? = some u := by simpa using hu
      rw [hv] at this
      exact Option.some.inj this
    subst hvu
    refine ⟨_, rfl, wpAny_letOwnedTupleGo_enum (s := { s with heap := h', toks := tk + 1 }) ho fun h'' he' sb => ?_⟩
    have hT2 : h''.get? s.heap.objs.size = some { cls := .type "tuple", data := .seq #[.int i tk, v] } := (sb.2 _ (Nat.ne_of_gt hel)).trans hT
    have new : ObjOk X.prog X.w (upd H s.heap.objs.size (.tup [.int (i : Nat), x])) h'' s.heap.objs.size (.tup [.int (i : Nat), x]) :=
      ⟨by show 2 ≤ sizeLine; decide, [.int i tk, v], .cons ⟨_, rfl⟩ (.cons ru .nil), ⟨_, hT2, rfl, _, rfl⟩⟩
    have I1 : Inv X pins σ (upd H s.heap.objs.size (.tup [.int (i : Nat), x])) { s with heap := h'', toks := tk + 1 } :=
      I.turnedNew (ch := [e, it]) (fun b ob hb q => (sb.2 b (fun z => hb (by simp [z]))).trans (hk b ob (fun z => hb (by simp [z])) (fun z => hb (by simp [z])) q)) hf (Nat.le_refl _) new
    refine ⟨.ref s.heap.objs.size, _, I1, rfl, ⟨_, x, rfl, I.hok.fresh (Nat.le_refl _), rfl, fun ys hy => by rw [I.tuple_inj hy hq]; exact hx⟩, ⟨⟨v, ?_⟩, hit'.1.at fun o q => (sb.2 it (Ne.symm hne)).trans q, hne, hai, hea⟩, fun b hb => ?_⟩
    · have e1 : ((i + 1 : Nat) : Int) = (i : Int) + 1 := by omega
      rw [e1]; exact he'
    · have hb' : b < s.heap.objs.size := by
        have e' : b = e ∨ b = it := by simpa using hb
        rcases e' with z | z
        · rw [z]; exact hel
        · rw [z]; exact hil
      rw [upd_ne (Nat.ne_of_lt hb')]
      exact (hf b hb).1
  done := by
    intro X hP hw hK hc i pins s σ H E I hf st hg
    subst hP hw hK
    obtain ⟨⟨old, he⟩, hit, hne, hai, hea⟩ := st
    obtain ⟨xs, hq, hx⟩ := hg
    obtain ⟨its, rv, p, _⟩ := I.tuple hq
    obtain ⟨f0, f1, f2, f3, f4, f5⟩ := hf it (by simp)
    have hl := rv.length
    exact enum_tuple_end (I.ok.hd hc) he hit (show s.heap.IsTuple a its.toArray from p) (by simp; omega) fun h' eb => ⟨rfl, I.turned (t' := s.toks) (fun b o hb q => eb b o hb q) f0 f1 f3 f4 f5⟩
  self := fun A i s Q E st h => let ⟨⟨_, he⟩, _⟩ := st; wpAny_pyIter_enum he h
def iEnumA (K : PySem.W.Frag) (ta : TA) : TI := fun σ H R => ta σ H fun vs H1 => ∃ a xs, vs = [.ref a] ∧ ((SqL K H1 a xs ∧ R (Ite K a) H1) ∨ (SqT K H1 a xs ∧ R (IteT K a) H1))
theorem pi_enumA {X : Cx} {e : Expr} {ta : TA} {p pos tpos : Pos} {elts : List Expr} {kk : Nat} (hg : Gl X "enumerate") (hm : X.mg "enumerate" = none) (ha : PA X [e] ta) (hs : starEach [e] X.env = [(false, eval e X.env)] := by rfl) :
    L2.PI X (.Tuple elts kk tpos) (.Call (.Name "enumerate" p) [e] [] pos) (iEnumA X.K ta) := by
  refine ⟨fun pins s σ H R I h => ?_⟩
  refine Call_ (ld_blt I hg hm boot_enumerate (PyProof.Rows.callWith_type1 (thn (ha.run pos pins s σ H _ I h) fun us s1 ⟨vs, H1, I1, r1, q1⟩ => ?_) hs rfl))
  obtain ⟨a, xs, ex, q1⟩ := q1
  subst ex
  cases r1 with
  | cons r rr =>
    cases rr
    cases r
    have hfresh : ∀ b, b ∈ [s1.heap.objs.size + 1, s1.heap.objs.size] → FpOk X pins H1 b := fun b hb => by
      have e' : b = s1.heap.objs.size + 1 ∨ b = s1.heap.objs.size := by simpa using hb
      have hle : s1.heap.objs.size ≤ b := by
        rcases e' with z | z
        · rw [z]; exact Nat.le_add_right _ _
        · rw [z]; exact Nat.le_refl _
      exact I1.fpOk hle (I1.hok.fresh hle)
    rcases q1 with ⟨hq, q⟩ | ⟨hq, q⟩
    · obtain ⟨its, rv, p', hz⟩ := I1.list hq
      refine call_enumerate_list p'.isList fun h' he hit hsz hk => wpAny_pyIter_enum he ?_
      have I2 : Inv X pins σ H1 { s1 with heap := h' } := I1.kept (t' := s1.toks) hk
      exact ⟨s1.heap.objs.size + 1, [s1.heap.objs.size + 1, s1.heap.objs.size], _, _, H1, rfl, I2, turn_enum a (s1.heap.objs.size + 1) s1.heap.objs.size, ⟨⟨.none, he⟩, hit, Nat.succ_ne_self _⟩, hfresh, q⟩
    · obtain ⟨its, rv, p', _⟩ := I1.tuple hq
      obtain ⟨o1, ho1, _⟩ := id p'
      have hlt := Heap.lt_size ho1
      refine call_enumerate_tuple (show s1.heap.IsTuple a its.toArray from p') fun h' he hit hsz hk => wpAny_pyIter_enum he ?_
      have I2 : Inv X pins σ H1 { s1 with heap := h' } := I1.kept (t' := s1.toks) hk
      exact ⟨s1.heap.objs.size + 1, [s1.heap.objs.size + 1, s1.heap.objs.size], _, _, H1, rfl, I2, turn_enumT a (s1.heap.objs.size + 1) s1.heap.objs.size, ⟨⟨.none, he⟩, hit, Nat.succ_ne_self _, Nat.ne_of_lt hlt, Nat.ne_of_gt (Nat.lt_succ_of_lt hlt)⟩, hfresh, q⟩
end PI
end
section
set_option maxRecDepth 100000
/-! name = {..} on one line, the name a local, at the hand level (own work; as the library's for a list). -/
namespace PI
open PySem PySem.Spec PyProof.Rows L2
theorem ps_setDc {X : Cx} {i : Nat} {y : Str} {py : Pos} {kx vx tg iter : Expr} {ifs : List Expr} {scope : Scope} {own : List (Str × Nat)} {pos spos : Pos} {wi : TI} {g : L2.TG} {tt : TT} {tk tv : TE} (hc : X.calm = true) (hN : X.N.Nodup) (hy : X.N[i]? = some y) (hyl : X.env.scope.names.lookup y = some .local)
    (hsw : swapsWith (.DictComp kx vx [⟨tg, iter, ifs, 0⟩] scope pos) (some (.Name y py)) spos.line X.env = pure true) (hi : L2.PI X tg iter wi) (ok : BlkOk X.N X.env.scope scope own)
    (hg : ∀ (s : Shared) (H : Hp) (C : Addr) (cl : List (Str × Addr)) (fp : List Addr), PG (X.blk s H scope (compEnvC scope cl C X.env) fp) tg g) (ht : ∀ (s : Shared) (H : Hp) (C : Addr) (cl : List (Str × Addr)) (fp : List Addr), PTs (X.blk s H scope (compEnvC scope cl C X.env) fp) ifs tt)
    (hk : ∀ (s : Shared) (H : Hp) (C : Addr) (cl : List (Str × Addr)) (fp : List Addr), PE (X.blk s H scope (compEnvC scope cl C X.env) fp) kx tk)
    (he : ∀ (s : Shared) (H : Hp) (C : Addr) (cl : List (Str × Addr)) (fp : List Addr), PE (X.blk s H scope (compEnvC scope cl C X.env) fp) vx tv) (hs : ∀ x, foldedSetIterable iter X.env x = pure x := by intro _; rfl) :
    PS X (.Assign [.Name y py] (.DictComp kx vx [⟨tg, iter, ifs, 0⟩] scope pos) spos) (tAsg (tDc wi g tt tk tv (own.map (·.2))) (gName i)) := by
  refine ⟨fun pins s σ H D I h => ?_⟩
  rw [exec_Assign_Name_used _ _ _ _ hsw]
  refine wpAny_bind (wpAny_standAt (wpAny_bind ?_))
  show wpAny _ X.A (do let _ ← comprehension (.DictComp kx vx [⟨tg, iter, ifs, 0⟩] scope pos) scope X.env (firstIterPos [⟨tg, iter, ifs, 0⟩] pos) newDict false (eval iter X.env) (some (assign (.Name y py) X.env))) _ _ s
  have h : tDc wi g tt tk tv (own.map (·.2)) σ H (fun x H1 => gName i x σ H1 D.nx) := h
  refine wpAny_bind (thn (dc_core (Qf := fun _ s' => SP X pins D .next s') hc hN I hi ok hg ht hk he hs h fun L C s' m H' I' q hn f => ?_) fun _ s' hq => wpAny_pure (wpAny_pure hq))
  show wpAny _ _ (assign (.Name y py) X.env (.ref L)) _ _ _
  refine wpAny_assign_Name (store_ok2 (v := V.ref L) I' hN hy (.inl hyl) rfl (fun s2 I2 ⟨a, sb, ha⟩ => ?_) (.inr hyl))
  obtain ⟨f0, f1, f2, f3, f4, f5⟩ := f
  have haC : C ≠ a := by
    rcases ha with z | z
    · rw [z]; exact f1
    · exact fun e => f4 y a z e.symm
  refine ⟨m, hn.sameBut sb haC, fun h3 sb3 => ?_⟩
  exact ⟨_, H', I2.turned (t' := s2.toks) (fun b o hb e => (sb3.2 b hb).trans e) f0 f1 f3 f4 f5, q⟩
theorem sw_trueD {kx vx : Expr} {gs : List Comprehension} {scope : Scope} {pos py : Pos} {y : Str} {l : Nat} {env : PySem.Env} (hk : env.scope.kind = .function) (hy : env.scope.names.lookup y = some .local) (hl : (py.line == pos.line) = true)
    (ha : (scope.names.any fun (n, k) => n == y && (k == .local || k == .cell)) = false) : swapsWith (.DictComp kx vx gs scope pos) (some (.Name y py)) l env = pure true := by
  have ky : env.kindOf y = some .local := hy
  have hb : env.blockKind = .function := by unfold PySem.Env.blockKind; rw [hk]; rfl
  unfold swapsWith
  simp only [hb, ky, ha, Expr.pos, hl]
  rfl
end PI
end
section
set_option maxRecDepth 100000
set_option maxHeartbeats 1000000
/-! The core language's operations, by the hand layer's rules (own work). -/
namespace PI
open PySem PySem.Spec PyProof.Rows L2
section
variable {K : PySem.W.Frag} {mu mu' mu2 : List Addr} {H H' H2 : Hp} {h h' : VH} {x y : V} {d e : D}
/-- a datum's answer -/
abbrev PV (K : PySem.W.Frag) (mu : List Addr) (H : Hp) (r : Res D) (Q : VK) (x : Nat → Hp → Prop) : Prop := Post K mu H r (fun z _ mu' H' => ∀ v, RelD K mu' H' z v → Q v H') x
abbrev noX : Nat → Hp → Prop := fun _ _ => False
theorem RelD.int_inv {i : Int} (r : RelD K mu H (.int i) x) : x = .int i := by cases r; rfl
theorem RelD.str_inv {z : Str} (r : RelD K mu H (.str z) x) : x = .str z := by cases r; rfl
theorem RelD.bl_inv {b : Bool} (r : RelD K mu H (.bl b) x) : x = .bl b := by cases r; rfl
theorem RelD.non_inv (r : RelD K mu H .non x) : x = .non := by cases r; rfl
theorem RelD.tup_inv {ds : List D} (r : RelD K mu H (.tup ds) x) : ∃ a vs, x = .ref a ∧ TupAt K H a vs ∧ RelDs K mu H ds vs := by cases r with | tup e r => exact ⟨_, _, rfl, e, r⟩
theorem RelD.ref_inv {n : Nat} (r : RelD K mu H (.ref n) x) : ∃ a, x = .ref a ∧ mu[n]? = some a := by cases r with | ref e => exact ⟨_, rfl, e⟩
theorem RelDs.nil_iff {ds : List D} {vs : List V} (r : RelDs K mu H ds vs) : ds = [] ↔ vs = [] := by cases r <;> simp
/-- a store's list, read -/
theorem Sim.sqL (S : Sim K mu H h) {n : Nat} {a : Addr} {xs : List D} (e1 : mu[n]? = some a) (e2 : h[n]? = some (.lst xs) ∨ ∃ k, h[n]? = some (.ro k xs)) : ∃ vs, SqL K H a vs ∧ RelDs K mu H xs vs := by
  rcases e2 with e2 | ⟨k, e2⟩
  · obtain ⟨vs, q, r⟩ := S.lst e1 e2
    exact ⟨vs, SqL.of q, r⟩
  · obtain ⟨vs, q, r⟩ := S.at_ n a _ e1 e2
    cases k with
    | true => exact ⟨vs, .inr q, r⟩
    | false => obtain ⟨o, q⟩ := (show ∃ o, _ from q); exact ⟨vs, .inl (.inr ⟨o, q⟩), r⟩
theorem PV.ok {z : D} {Q : VK} {k : Nat → Hp → Prop} (p : PV K mu H (.ok z h) Q k) (S : Sim K mu H h) {v : V} (r : RelD K mu H z v) : Q v H := Post.ok p S v r
/-- a new list, a new tuple as the answer -/
theorem PV.newL {xs : List D} {vs : List V} {Q : VK} {k : Nat → Hp → Prop} (p : PV K mu H (newL xs h) Q k) (S : Sim K mu H h) (r : RelDs K mu H xs vs) : vs.length ≤ sizeLine ∧ ∀ q, H q = none → Q (.ref q) (upd H q (.lst vs)) := by
  obtain ⟨c, p⟩ := Post.grd p
  refine ⟨by rw [← r.length]; exact of_decide_eq_true c, fun q hq => ?_⟩
  obtain ⟨S1, e1, r1⟩ := S.newL hq r
  exact p _ _ e1 S1 _ r1
theorem PV.tup {xs : List D} {vs : List V} {Q : VK} {k : Nat → Hp → Prop} (p : PV K mu H (.ok (.tup xs) h) Q k) (S : Sim K mu H h) (r : RelDs K mu H xs vs) : ∀ q, H q = none → Q (.ref q) (upd H q (.tup vs)) := fun q hq =>
  p _ _ (ext_newT hq) (S.newT hq) _ (.tup upd_same (r.ext (ext_newT hq)))
theorem PV.newT {xs : List D} {vs : List V} {Q : VK} {k : Nat → Hp → Prop} (p : PV K mu H (newT xs h) Q k) (S : Sim K mu H h) (r : RelDs K mu H xs vs) : vs.length ≤ sizeLine ∧ ∀ q, H q = none → Q (.ref q) (upd H q (.tup vs)) := by
  obtain ⟨c, p⟩ := Post.grd p
  exact ⟨by rw [← r.length]; exact of_decide_eq_true c, PV.tup p S r⟩
end

/-! ### two operands -/
def Op.py : Op → Operator
  | .add => .Add | .sub => .Sub | .mul => .Mult | .fdiv => .FloorDiv | .mod => .Mod | .pow => .Pow | .band => .BitAnd | .bxor => .BitXor
def rBin (K : PySem.W.Frag) (op : Op) : R2 := fun x y H Q => ∃ mu h d e, Sim K mu H h ∧ RelD K mu H d x ∧ RelD K mu H e y ∧ PV K mu H (binD op d e h) Q noX
section
variable {X : Cx}
theorem op_bin (op : Op) : OpR X (binaryOp op.py) (rBin X.K op) := by
  intro pins s σ H x y v u Q I rx ry ⟨mu, h, d, e, S, rd, re, P⟩
  cases op with
  | add =>
    cases d with
    | int i =>
      cases e with
      | int j => exact op_add pins s σ H x y v u Q I rx ry ⟨i, j, rd.int_inv, re.int_inv, P.ok S (.int _)⟩
      | _ => exact P.elim
    | str i =>
      cases e with
      | str j =>
        obtain ⟨c, P⟩ := Post.grd P
        exact op_add_str pins s σ H x y v u Q I rx ry ⟨i, j, rd.str_inv, re.str_inv, of_decide_eq_true c, PV.ok P S (.str _)⟩
      | _ => exact P.elim
    | tup xs =>
      cases e with
      | tup ys =>
        obtain ⟨c, P⟩ := Post.grd P
        obtain ⟨a, vs, rfl, ta, ra⟩ := rd.tup_inv
        obtain ⟨b, ws, rfl, tb, rb⟩ := re.tup_inv
        refine op_catA pins s σ H _ _ v u Q I rx ry ⟨a, b, vs, ws, rfl, rfl, ta.sq, tb.sq, by rw [← ra.length, ← rb.length]; exact of_decide_eq_true c, fun e => ?_, fun _ e => ?_, fun _ _ => PV.tup P S (ra.append rb)⟩
        · have e' := ra.nil_iff.mpr e
          subst e'
          exact PV.ok P S (.tup tb rb)
        · have e' := rb.nil_iff.mpr e
          subst e'
          exact PV.ok P S (.tup ta (by rw [List.append_nil]; exact ra))
      | _ => exact P.elim
    | ref n =>
      cases e with
      | ref m =>
        obtain ⟨a, rfl, ea⟩ := rd.ref_inv
        obtain ⟨b, rfl, eb⟩ := re.ref_inv
        have P : PV X.K mu H (match h[n]?, h[m]? with | some (.lst xs), some (.lst ys) => newL (xs ++ ys) h | _, _ => .stuck) Q noX := P
        split at P
        · rename_i xs ys e1 e2
          obtain ⟨vs, qa, ra⟩ := S.lst ea e1
          obtain ⟨ws, qb, rb⟩ := S.lst eb e2
          obtain ⟨hl, hq⟩ := PV.newL P S (ra.append rb)
          exact op_cat pins s σ H _ _ v u Q I rx ry ⟨a, b, vs, ws, rfl, rfl, qa, qb, by rw [← List.length_append]; exact hl, hq⟩
        · exact P.elim
      | _ => exact P.elim
    | _ => cases e <;> exact P.elim
  | sub =>
    cases d with
    | int i =>
      cases e with
      | int j => exact op_sub pins s σ H x y v u Q I rx ry ⟨i, j, rd.int_inv, re.int_inv, P.ok S (.int _)⟩
      | _ => exact P.elim
    | _ => cases e <;> exact P.elim
  | mul =>
    cases d with
    | int i =>
      cases e with
      | int j =>
        obtain ⟨c, P⟩ := Post.grd P
        exact op_mulW pins s σ H x y v u Q I rx ry ⟨i, j, rd.int_inv, re.int_inv, (show i.natAbs.log2 + j.natAbs.log2 < 1000000 from of_decide_eq_true c), PV.ok P S (.int _)⟩
      | _ => exact P.elim
    | tup xs =>
      cases e with
      | int k =>
        obtain ⟨c, P⟩ := Post.grd P
        obtain ⟨a, vs, rfl, ta, ra⟩ := rd.tup_inv
        simp only [Bool.and_eq_true, decide_eq_true_eq, Bool.not_eq_true', List.isEmpty_eq_false_iff] at c
        obtain ⟨⟨⟨c1, c2⟩, c3⟩, c4⟩ := c
        exact op_repT pins s σ H _ _ v u Q I rx ry ⟨a, k, vs, rfl, re.int_inv, ta.sq, fun z => c1 (ra.nil_iff.mpr z), c2, c3, by rw [← ra.length]; exact c4, PV.tup P S (ra.rep _)⟩
      | _ => exact P.elim
    | ref n =>
      cases e with
      | int k =>
        obtain ⟨a, rfl, ea⟩ := rd.ref_inv
        have P : PV X.K mu H (match h[n]? with | some (.lst xs) => grd (decide (-(2 ^ 63) ≤ k) && decide (k < 2 ^ 63) && decide (xs.length * k.toNat ≤ lim)) (newL (List.replicate k.toNat xs).flatten h) | _ => .stuck) Q noX := P
        split at P
        · rename_i xs e1
          obtain ⟨vs, qa, ra⟩ := S.lst ea e1
          obtain ⟨c, P⟩ := Post.grd P
          simp only [Bool.and_eq_true, decide_eq_true_eq] at c
          obtain ⟨⟨c1, c2⟩, c3⟩ := c
          obtain ⟨hl, hq⟩ := PV.newL P S (ra.rep k.toNat)
          exact op_rep pins s σ H _ _ v u Q I rx ry ⟨a, k, vs, rfl, re.int_inv, qa, c1, c2, by rw [← ra.length]; exact c3, hq⟩
        · exact P.elim
      | _ => exact P.elim
    | _ => cases e <;> exact P.elim
  | fdiv =>
    cases d with
    | int i =>
      cases e with
      | int j =>
        obtain ⟨c, P⟩ := Post.grd P
        simp only [Bool.and_eq_true, decide_eq_true_eq] at c
        exact op_fdivW pins s σ H x y v u Q I rx ry ⟨i, j, rd.int_inv, re.int_inv, c, PV.ok P S (.int _)⟩
      | _ => exact P.elim
    | _ => cases e <;> exact P.elim
  | mod =>
    cases d with
    | int i =>
      cases e with
      | int j =>
        obtain ⟨c, P⟩ := Post.grd P
        exact op_mod pins s σ H x y v u Q I rx ry ⟨i, j, rd.int_inv, re.int_inv, of_decide_eq_true c, PV.ok P S (.int _)⟩
      | _ => exact P.elim
    | _ => cases e <;> exact P.elim
  | pow =>
    cases d with
    | int i =>
      cases e with
      | int j =>
        obtain ⟨c, P⟩ := Post.grd P
        simp only [Bool.and_eq_true, decide_eq_true_eq] at c
        obtain ⟨⟨c1, c2⟩, c3⟩ := c
        exact op_pow pins s σ H x y v u Q I rx ry ⟨i, j, rd.int_inv, re.int_inv, ⟨c1, c2, c3⟩, PV.ok P S (.int _)⟩
      | _ => exact P.elim
    | _ => cases e <;> exact P.elim
  | band =>
    cases d with
    | int i =>
      cases e with
      | int j => exact op_and pins s σ H x y v u Q I rx ry ⟨i, j, rd.int_inv, re.int_inv, P.ok S (.int _)⟩
      | _ => exact P.elim
    | _ => cases e <;> exact P.elim
  | bxor =>
    cases d with
    | int i =>
      cases e with
      | int j => exact op_xor pins s σ H x y v u Q I rx ry ⟨i, j, rd.int_inv, re.int_inv, P.ok S (.int _)⟩
      | _ => exact P.elim
    | _ => cases e <;> exact P.elim

end

/-! ### plain data -/
section
variable {K : PySem.W.Frag} {mu : List Addr} {H : Hp} {h : VH}
theorem mapM_some {α β : Type} {f : α → Option β} : ∀ {xs : List α} {ys : List β}, xs.mapM f = some ys → Paired (fun x y => f x = some y) xs ys
  | [], ys, e => by
    have e : ([] : List β) = ys := by simpa using e
    subst e; exact .nil
  | x :: xs, ys, e => by
    rw [List.mapM_cons] at e
    cases q : f x with
    | none => rw [q] at e; simp at e
    | some y =>
      cases q2 : xs.mapM f with
      | none => rw [q, q2] at e; simp at e
      | some zs =>
        rw [q, q2] at e
        have e : y :: zs = ys := by simpa using e
        subst e
        exact .cons q (mapM_some q2)
theorem dp_of (S : Sim K mu H h) : ∀ (n : Nat) (d : D) (p : PyData) (x : V), toP n h d = some p → RelD K mu H d x → Dp K H x p := by
  intro n
  induction n with
  | zero => intro d p x e _; simp [toP] at e
  | succ n ih =>
    have all : ∀ (ds : List D) (ps : List PyData) (vs : List V), Paired (fun d p => toP n h d = some p) ds ps → RelDs K mu H ds vs → DpAll K H vs ps := by
      intro ds ps vs e
      induction e generalizing vs with
      | nil => intro r; cases r; exact .nil
      | cons q _ ihh =>
        intro r
        cases r with
        | cons r rs => exact .cons (ih _ _ _ q r) (ihh _ rs)
    intro d p x e r
    cases d with
    | non => simp [toP] at e; subst e; rw [r.non_inv]; exact .non
    | bl b => simp [toP] at e; subst e; rw [r.bl_inv]; exact .bl b
    | int i => simp [toP] at e; subst e; rw [r.int_inv]; exact .int i
    | str z => simp [toP] at e; subst e; rw [r.str_inv]; exact .str z
    | tup xs =>
      obtain ⟨a, vs, rfl, ta, ra⟩ := r.tup_inv
      rw [toP] at e
      obtain ⟨ps, e1, rfl⟩ := Option.map_eq_some_iff.mp e
      exact .tup ta.sq (all _ _ _ (mapM_some e1) ra)
    | ref m =>
      obtain ⟨a, rfl, ea⟩ := r.ref_inv
      rw [toP] at e
      split at e
      · rename_i xs q
        obtain ⟨ps, e1, rfl⟩ := Option.map_eq_some_iff.mp e
        obtain ⟨vs, qs, rr⟩ := S.sqL ea (.inl q)
        exact .lst qs (all _ _ _ (mapM_some e1) rr)
      · rename_i k xs q
        obtain ⟨ps, e1, rfl⟩ := Option.map_eq_some_iff.mp e
        obtain ⟨vs, qs, rr⟩ := S.sqL ea (.inr ⟨k, q⟩)
        exact .lst qs (all _ _ _ (mapM_some e1) rr)
      · cases e
theorem dpAll_of (S : Sim K mu H h) {n : Nat} : ∀ {ds : List D} {ps : List PyData} {vs : List V}, Paired (fun d p => toP n h d = some p) ds ps → RelDs K mu H ds vs → DpAll K H vs ps
  | _, _, _, .nil, .nil => .nil
  | _, _, _, .cons q t, .cons r rs => .cons (dp_of S n _ _ _ q r) (dpAll_of S t rs)
/-! flat data -/
theorem flat_rel {d : D} {x : V} (r : RelD K mu H d x) (f : flatD d = true) : flatV x = true := by
  cases d with
  | non => rw [r.non_inv]; rfl
  | bl b => rw [r.bl_inv]; rfl
  | int i => rw [r.int_inv]; rfl
  | str z => rw [r.str_inv]; rfl
  | _ => cases f
theorem flats_rel : ∀ {ds : List D} {vs : List V}, RelDs K mu H ds vs → ds.all flatD = true → vs.all flatV = true
  | _, _, .nil, _ => rfl
  | _, _, .cons r rs, f => by
    rw [List.all_cons, Bool.and_eq_true] at f ⊢
    exact ⟨flat_rel r f.1, flats_rel rs f.2⟩
theorem eqF_rel {d e : D} {x y : V} (r : RelD K mu H d x) (q : RelD K mu H e y) (f : flatD d = true) (g : flatD e = true) : eqV x y = eqF d e := by
  cases d with
  | tup _ => cases f
  | ref _ => cases f
  | non => cases r; cases e <;> first | (cases g; done) | (cases q; rfl)
  | bl b => cases r; cases e <;> first | (cases g; done) | (cases q; rfl)
  | int i => cases r; cases e <;> first | (cases g; done) | (cases q; rfl)
  | str z => cases r; cases e <;> first | (cases g; done) | (cases q; rfl)
theorem inV_rel {d : D} {x : V} (r : RelD K mu H d x) (f : flatD d = true) : ∀ {ds : List D} {vs : List V}, RelDs K mu H ds vs → ds.all flatD = true → inV x vs = ds.any fun y => eqF y d
  | _, _, .nil, _ => rfl
  | _, _, .cons q qs, g => by
    rw [List.all_cons, Bool.and_eq_true] at g
    have ih := inV_rel r f qs g.2
    unfold inV at ih ⊢
    rw [List.any_cons, List.any_cons, ih, eqF_rel q r g.1 f]
/-! keys -/
theorem key_rel {d : D} {x : V} {k : Key} (r : RelD K mu H d x) (e : keyD d = some k) : x = kV k := by
  cases d with
  | int i => cases e; rw [r.int_inv]; rfl
  | str z => cases e; rw [r.str_inv]; rfl
  | _ => cases e
theorem keys_rel : ∀ {ds : List D} {vs : List V} {ks : List Key}, RelDs K mu H ds vs → keysD ds = some ks → vs = ks.map kV
  | _, _, ks, .nil, e => by
    have e : some ([] : List Key) = some ks := e
    cases e; rfl
  | d :: ds, _, ks, .cons r rs, e => by
    unfold keysD at e
    cases q : keyD d with
    | none => rw [q] at e; cases e
    | some k =>
      cases q2 : keysD ds with
      | none => rw [q, q2] at e; cases e
      | some ks' =>
        rw [q, q2] at e
        cases e
        rw [List.map_cons, key_rel r q, keys_rel rs q2]
section
variable {κ : Type} [DecidableEq κ]
/-- two answers of a look-up -/
def RelOD (K : PySem.W.Frag) (mu : List Addr) (H : Hp) : Option D → Option V → Prop
  | some d, some v => RelD K mu H d v
  | none, none => True
  | _, _ => False
theorem get_rel {kvs : List (κ × D)} {ws : List (κ × V)} (r : RelKV K mu H kvs ws) (k : κ) : RelOD K mu H (getD kvs k) (valV ws k) := by
  unfold RelKV at r
  induction r with
  | nil => exact True.intro
  | @cons p q ps qs z t ih =>
    by_cases e : p.1 = k
    · have e' : q.1 = k := z.1.symm.trans e
      rw [valV_pos e']
      have : getD (p :: ps) k = some p.2 := by simp [getD, List.find?_cons, e]
      rw [this]
      exact z.2
    · have e' : ¬ q.1 = k := fun w => e (z.1.trans w)
      rw [valV_neg e']
      have : getD (p :: ps) k = getD ps k := by simp [getD, List.find?_cons, e]
      rw [this]
      exact ih
theorem any_rel {kvs : List (κ × D)} {ws : List (κ × V)} (r : RelKV K mu H kvs ws) (k : κ) : (kvs.any fun kv => decide (kv.1 = k)) = ws.any fun kv => decide (kv.1 = k) := by
  unfold RelKV at r
  induction r with
  | nil => rfl
  | cons z t ih => rw [List.any_cons, List.any_cons, ih, z.1]
theorem repl_rel {kvs : List (κ × D)} {ws : List (κ × V)} (r : RelKV K mu H kvs ws) (k : κ) {d : D} {v : V} (rv : RelD K mu H d v) :
    RelKV K mu H (kvs.map fun kv => if kv.1 = k then (kv.1, d) else kv) (ws.map fun kv => if kv.1 = k then (kv.1, v) else kv) := by
  unfold RelKV at r ⊢
  induction r with
  | nil => exact .nil
  | @cons p q ps qs z t ih =>
    rw [List.map_cons, List.map_cons]
    refine .cons ?_ ih
    by_cases e : p.1 = k
    · rw [if_pos e, if_pos (z.1.symm.trans e)]; exact ⟨z.1, rv⟩
    · rw [if_neg e, if_neg (fun w => e (z.1.trans w))]; exact z
theorem paired_append {α β : Type} {F : α → β → Prop} : ∀ {l1 l2 : List α} {m1 m2 : List β}, Paired F l1 m1 → Paired F l2 m2 → Paired F (l1 ++ l2) (m1 ++ m2)
  | _, _, _, _, .nil, s => s
  | _, _, _, _, .cons r t, s => .cons r (paired_append t s)
theorem put_rel {kvs : List (κ × D)} {ws : List (κ × V)} (r : RelKV K mu H kvs ws) (k : κ) {d : D} {v : V} (rv : RelD K mu H d v) : RelKV K mu H (putD kvs k d) (putK ws k v) := by
  unfold putD putK
  rw [any_rel r k]
  by_cases e : (ws.any fun kv => decide (kv.1 = k)) = true
  · rw [if_pos e, if_pos e]; exact repl_rel r k rv
  · rw [if_neg e, if_neg e]; exact paired_append r (.cons ⟨rfl, rv⟩ .nil)
end
theorem RelKV.length {κ : Type} {kvs : List (κ × D)} {ws : List (κ × V)} (r : RelKV K mu H kvs ws) : kvs.length = ws.length := Paired.length r
theorem look_rel (S : Sim K mu H h) {o k : D} {x y : V} {q : Option D} (e : lookD h o k = some q) (ro : RelD K mu H o x) (rk : RelD K mu H k y) : ∃ a w, x = .ref a ∧ DGet H a y w ∧ RelOD K mu H q w ∧ IsD H a := by
  cases o with
  | ref n =>
    obtain ⟨a, rfl, ea⟩ := ro.ref_inv
    simp only [lookD] at e
    split at e
    · rename_i lk kvs eh
      obtain ⟨k', e1, rfl⟩ := Option.map_eq_some_iff.mp e
      obtain ⟨ws, qw, r⟩ := S.at_ n a _ ea eh
      have rd : Rd H a (.dK ws) := by
        cases lk with
        | true => exact .inr qw
        | false => exact .inl qw
      exact ⟨a, _, rfl, .inl ⟨ws, k', rd, key_rel rk e1, rfl⟩, get_rel r k', .inl ⟨ws, rd⟩⟩
    · rename_i lk kvs eh
      cases k with
      | tup ks =>
        obtain ⟨k', e1, rfl⟩ := Option.map_eq_some_iff.mp e
        obtain ⟨ws, qw, r⟩ := S.at_ n a _ ea eh
        obtain ⟨b, vs, rfl, tb, rb⟩ := rk.tup_inv
        have rd : Rd H a (.dT ws) := by
          cases lk with
          | true => exact .inr qw
          | false => exact .inl qw
        have tb : H b = some (.tup vs) := tb
        rw [keys_rel rb e1] at tb
        exact ⟨a, _, rfl, .inr ⟨ws, k', b, rd, rfl, tb, rfl⟩, get_rel r k', .inr ⟨ws, rd⟩⟩
      | _ => cases e
    · cases e
  | _ => cases e
end
end PI
end
section
set_option maxRecDepth 100000
set_option maxHeartbeats 1000000
/-! The core language's comparisons, built-ins, subscripts, by the hand layer's rules (own work). -/
namespace PI
open PySem PySem.Spec PyProof.Rows L2
def Cp.py : Cp → CmpOp
  | .eq => .Eq | .ne => .NotEq | .lt => .Lt | .le => .LtE | .gt => .Gt | .ge => .GtE | .isin => .In | .notin => .NotIn
def rCmp (K : PySem.W.Frag) (op : Cp) : R2 := fun x y H Q => ∃ mu h d e k, Sim K mu H h ∧ RelD K mu H d x ∧ RelD K mu H e y ∧ cmpD op h d e = some k ∧ Q (.bl k) H
section
variable {K : PySem.W.Frag} {mu : List Addr} {H : Hp} {h : VH}
theorem eqD_inv {a b : D} {k : Bool} (e : eqD h a b = some k) : ∃ p q, toP deep h a = some p ∧ toP deep h b = some q ∧ SeqAt.shaped p = true ∧ SeqAt.shaped q = true ∧ k = PyData.eqv p q := by
  unfold eqD at e
  split at e
  · rename_i p q e1 e2
    split at e
    · rename_i c
      rw [Bool.and_eq_true] at c
      cases e
      exact ⟨p, q, e1, e2, c.1, c.2, rfl⟩
    · cases e
  · cases e
theorem le_not_lt (i j : Int) : decide (i ≤ j) = !decide (j < i) := by
  by_cases h : i ≤ j
  · rw [decide_eq_true h, decide_eq_false (by omega)]; rfl
  · rw [decide_eq_false h, decide_eq_true (by omega)]; rfl
/-- ltD of tuples -/
theorem ltT_inv {xs ys : List D} {k : Bool} (e : ltD h (.tup xs) (.tup ys) = some k) : ∃ p q, toP deep h (.tup xs) = some p ∧ toP deep h (.tup ys) = some q ∧ SeqAt.shaped p = true ∧ SeqAt.shaped q = true ∧ PySem.W.alike p q = true ∧ k = PySem.W.dataLt p q ∧ p ≠ .none := by
  simp only [ltD] at e
  split at e
  · rename_i p q e1 e2
    split at e
    · rename_i c
      simp only [Bool.and_eq_true] at c
      cases e
      refine ⟨p, q, e1, e2, c.1.1, c.1.2, c.2, rfl, ?_⟩
      rintro rfl
      rw [toP] at e1
      obtain ⟨_, _, z⟩ := Option.map_eq_some_iff.mp e1
      cases z
    · cases e
  · cases e
end
section
variable {X : Cx} {pins : List (Addr × Obj)} {s : Shared} {σ : L2.St} {H : Hp} {x y : V} {v u : Value} {Q : VK} {mu : List Addr} {h : VH} {d e : D} {k : Bool}
theorem Sim.reads (S : Sim X.K mu H h) (I : Inv X pins σ H s) (rx : RelV x v) (rd : RelD X.K mu H d x) {p : PyData} (ep : toP deep h d = some p) : ∃ as, Reads s.heap v p as := Dp.reads I p x v (dp_of S _ _ _ _ ep rd) rx
theorem op_in_str2 (I : Inv X pins σ H s) (rx : RelV x v) (ry : RelV y u) {c z : Str} (ex : x = .str c) (ey : y = .str z) (hc : c.length = 1) : (Q (.bl (decide (c.cps.getD 0 0 ∈ z.cps.toList))) H → wpAny (model X.prog X.w) X.A (compareOp .In v u) (EP X pins σ Q) X.xe s) ∧
    (Q (.bl (!decide (c.cps.getD 0 0 ∈ z.cps.toList))) H → wpAny (model X.prog X.w) X.A (compareOp .NotIn v u) (EP X pins σ Q) X.xe s) := by
  obtain ⟨⟨l⟩⟩ := c
  obtain ⟨a, rfl⟩ : ∃ a, l = [a] := by
    match l, hc with
    | [a], _ => exact ⟨a, rfl⟩
  exact ⟨fun q => op_in_sign pins s σ H x y v u Q I rx ry ⟨a, z, ex, ey, q⟩, fun q => op_notIn_sign pins s σ H x y v u Q I rx ry ⟨a, z, ex, ey, q⟩⟩
theorem in_both (hu : X.A.units + 65 < cLine) (I : Inv X pins σ H s) (rx : RelV x v) (ry : RelV y u) (S : Sim X.K mu H h) (rd : RelD X.K mu H d x) (re : RelD X.K mu H e y) (c : inD h d e = some k) :
    (Q (.bl k) H → wpAny (model X.prog X.w) X.A (compareOp .In v u) (EP X pins σ Q) X.xe s) ∧ (Q (.bl (!k)) H → wpAny (model X.prog X.w) X.A (compareOp .NotIn v u) (EP X pins σ Q) X.xe s) := by
  have byLook : (lookD h e d).map (·.isSome) = some k → (Q (.bl k) H → wpAny (model X.prog X.w) X.A (compareOp .In v u) (EP X pins σ Q) X.xe s) ∧ (Q (.bl (!k)) H → wpAny (model X.prog X.w) X.A (compareOp .NotIn v u) (EP X pins σ Q) X.xe s) := fun c => by
    obtain ⟨q, e1, rfl⟩ := Option.map_eq_some_iff.mp c
    obtain ⟨a, w, rfl, g, ro, _⟩ := look_rel S e1 re rd
    cases ry
    have ek : q.isSome = w.isSome := by
      cases q <;> cases w <;> first | rfl | exact ro.elim
    rw [ek]
    exact ⟨fun q => d_in (by omega) I g rx fun s' I' => ⟨.bl _, H, I', rfl, q⟩, fun q => d_notIn (by omega) I g rx fun s' I' => ⟨.bl _, H, I', rfl, q⟩⟩
  cases e with
  | str z =>
    cases d with
    | str c' =>
      simp only [inD] at c
      split at c
      · rename_i hl
        cases c
        exact op_in_str2 I rx ry rd.str_inv re.str_inv hl
      · cases c
    | _ => simp [inD] at c
  | tup ys =>
    simp only [inD] at c
    split at c
    · rename_i f
      rw [Bool.and_eq_true] at f
      cases c
      obtain ⟨a, vs, rfl, ta, ra⟩ := re.tup_inv
      have z := inV_rel rd f.1 ra f.2
      refine ⟨fun q => op_in_seq pins s σ H x _ v u Q I rx ry ⟨a, vs, rfl, .inr ta.sq, flat_rel rd f.1, flats_rel ra f.2, ?_⟩, fun q => op_notIn_seq pins s σ H x _ v u Q I rx ry ⟨a, vs, rfl, .inr ta.sq, flat_rel rd f.1, flats_rel ra f.2, ?_⟩⟩
      · simp only [Bool.false_eq_true, if_false]; rw [z]; exact q
      · simp only [if_true]; rw [z]; exact q
    · cases c
  | ref n =>
    simp only [inD] at c
    split at c
    · rename_i ys e1
      split at c
      · rename_i p qs e2 e3
        split at c
        · rename_i f
          rw [Bool.and_eq_true] at f
          cases c
          obtain ⟨a, rfl, ea⟩ := re.ref_inv
          obtain ⟨vs, q1, r1⟩ := S.sqL ea (.inl e1)
          have hd := dp_of S _ _ _ _ e2 rd
          have he : Dp X.K H (.ref a) (.list qs) := .lst q1 (dpAll_of S (mapM_some e3) r1)
          exact ⟨fun q => op_inD hu pins s σ H x _ v u Q I rx ry ⟨p, qs, hd, he, f.1, f.2, q⟩, fun q => op_notInD hu pins s σ H x _ v u Q I rx ry ⟨p, qs, hd, he, f.1, f.2, q⟩⟩
        · cases c
      · cases c
    · exact byLook c
  | _ => simp [inD] at c
theorem op_cmp (hu : X.A.units + 65 < cLine) (op : Cp) : OpR X (compareOp op.py) (rCmp X.K op) := by
  intro pins s σ H x y v u Q I rx ry ⟨mu, h, d, e, k, S, rd, re, c, P⟩
  have hu64 : X.A.units + 64 < cLine := by omega
  have tup : ∀ {xs ys : List D}, RelD X.K mu H (.tup xs) x → RelD X.K mu H (.tup ys) y → ∀ k, ltD h (.tup xs) (.tup ys) = some k → (Q (.bl k) H → wpAny (model X.prog X.w) X.A (compareOp .Lt v u) (EP X pins σ Q) X.xe s) ∧ (Q (.bl (!k)) H → wpAny (model X.prog X.w) X.A (compareOp .GtE v u) (EP X pins σ Q) X.xe s) := fun {xs ys} r1 r2 k c => by
    obtain ⟨p, q, e1, e2, s1, s2, al, rfl, nn⟩ := ltT_inv c
    obtain ⟨as, R1⟩ := S.reads I rx r1 e1
    obtain ⟨bs, R2⟩ := S.reads I ry r2 e2
    exact ⟨fun q => PySem.W.lt_data R1 R2 al nn (SeqAt.room_of_shaped s1 hu64) ⟨.bl _, H, I, rfl, q⟩, fun q => PySem.W.ge_data R1 R2 al nn (SeqAt.room_of_shaped s1 hu64) ⟨.bl _, H, I, rfl, q⟩⟩
  have tup' : ∀ {xs ys : List D}, RelD X.K mu H (.tup xs) x → RelD X.K mu H (.tup ys) y → ∀ k, ltD h (.tup ys) (.tup xs) = some k → (Q (.bl k) H → wpAny (model X.prog X.w) X.A (compareOp .Gt v u) (EP X pins σ Q) X.xe s) ∧ (Q (.bl (!k)) H → wpAny (model X.prog X.w) X.A (compareOp .LtE v u) (EP X pins σ Q) X.xe s) := fun {xs ys} r1 r2 k c => by
    obtain ⟨q, p, e2, e1, s2, s1, al, rfl, nn⟩ := ltT_inv c
    obtain ⟨as, R1⟩ := S.reads I rx r1 e1
    obtain ⟨bs, R2⟩ := S.reads I ry r2 e2
    have al' : PySem.W.alike p q = true := by rw [PySem.W.alike_comm]; exact al
    have nn' : p ≠ .none := by
      rintro rfl
      rw [toP] at e1
      obtain ⟨_, _, z⟩ := Option.map_eq_some_iff.mp e1
      cases z
    exact ⟨fun q => PySem.W.gt_data R1 R2 al' nn' (SeqAt.room_of_shaped s1 hu64) ⟨.bl _, H, I, rfl, q⟩, fun q => PySem.W.le_data R1 R2 al' nn' (SeqAt.room_of_shaped s1 hu64) ⟨.bl _, H, I, rfl, q⟩⟩
  cases op with
  | eq =>
    obtain ⟨p, q, e1, e2, s1, s2, rfl⟩ := eqD_inv c
    exact op_eqD hu64 pins s σ H x y v u Q I rx ry ⟨p, q, dp_of S _ _ _ _ e1 rd, dp_of S _ _ _ _ e2 re, s1, s2, P⟩
  | ne =>
    have c : (eqD h d e).map (!·) = some k := c
    obtain ⟨k0, c0, ek⟩ := Option.map_eq_some_iff.mp c
    subst ek
    clear c
    have c := c0
    obtain ⟨p, q, e1, e2, s1, s2, rfl⟩ := eqD_inv c
    exact op_neD hu64 pins s σ H x y v u Q I rx ry ⟨p, q, dp_of S _ _ _ _ e1 rd, dp_of S _ _ _ _ e2 re, s1, s2, P⟩
  | lt =>
    have c : ltD h d e = some k := c
    cases d with
    | int i =>
      cases e with
      | int j => cases c; exact op_lt pins s σ H x y v u Q I rx ry ⟨i, j, rd.int_inv, re.int_inv, P⟩
      | _ => cases c
    | str i =>
      cases e with
      | str j => cases c; exact op_lt_str pins s σ H x y v u Q I rx ry ⟨i, j, rd.str_inv, re.str_inv, P⟩
      | _ => cases c
    | tup xs =>
      cases e with
      | tup ys => exact (tup rd re k c).1 P
      | _ => cases c
    | _ => cases e <;> cases c
  | gt =>
    have c : ltD h e d = some k := c
    cases d with
    | int i =>
      cases e with
      | int j => cases c; exact op_gt pins s σ H x y v u Q I rx ry ⟨i, j, rd.int_inv, re.int_inv, P⟩
      | _ => cases c
    | str i =>
      cases e with
      | str j => cases c; exact op_gt_str pins s σ H x y v u Q I rx ry ⟨i, j, rd.str_inv, re.str_inv, P⟩
      | _ => cases c
    | tup xs =>
      cases e with
      | tup ys => exact (tup' rd re k c).1 P
      | _ => cases c
    | _ => cases e <;> cases c
  | le =>
    have c : (ltD h e d).map (!·) = some k := c
    obtain ⟨k0, c0, ek⟩ := Option.map_eq_some_iff.mp c
    subst ek
    clear c
    have c := c0
    cases d with
    | int i =>
      cases e with
      | int j => cases c; exact op_le pins s σ H x y v u Q I rx ry ⟨i, j, rd.int_inv, re.int_inv, by dsimp only; rw [le_not_lt]; exact P⟩
      | _ => cases c
    | str i =>
      cases e with
      | str j => cases c; exact op_le_str pins s σ H x y v u Q I rx ry ⟨i, j, rd.str_inv, re.str_inv, P⟩
      | _ => cases c
    | tup xs =>
      cases e with
      | tup ys => exact (tup' rd re k0 c).2 P
      | _ => cases c
    | _ => cases e <;> cases c
  | ge =>
    have c : (ltD h d e).map (!·) = some k := c
    obtain ⟨k0, c0, ek⟩ := Option.map_eq_some_iff.mp c
    subst ek
    clear c
    have c := c0
    cases d with
    | int i =>
      cases e with
      | int j => cases c; exact op_ge pins s σ H x y v u Q I rx ry ⟨i, j, rd.int_inv, re.int_inv, by dsimp only; rw [le_not_lt]; exact P⟩
      | _ => cases c
    | str i =>
      cases e with
      | str j => cases c; exact op_ge_str pins s σ H x y v u Q I rx ry ⟨i, j, rd.str_inv, re.str_inv, P⟩
      | _ => cases c
    | tup xs =>
      cases e with
      | tup ys => exact (tup rd re k0 c).2 P
      | _ => cases c
    | _ => cases e <;> cases c
  | isin => exact (in_both hu I rx ry S rd re c).1 P
  | notin =>
    have c : (inD h d e).map (!·) = some k := c
    obtain ⟨k0, c0, ek⟩ := Option.map_eq_some_iff.mp c
    subst ek
    clear c
    have c := c0
    exact (in_both hu I rx ry S rd re c).2 P

/-! ### truth -/
theorem tru_of (S : Sim X.K mu H h) (rd : RelD X.K mu H d x) (c : truthD h d = some k) : TruV X.K x H k := by
  cases d with
  | non => rw [rd.non_inv]; cases c; rfl
  | bl b => rw [rd.bl_inv]; cases c; rfl
  | int i => rw [rd.int_inv]; cases c; rfl
  | str z =>
    rw [rd.str_inv]
    simp only [truthD] at c
    split at c
    · rename_i hl
      cases c
      exact ⟨hl, rfl⟩
    · cases c
  | tup xs =>
    obtain ⟨a, vs, rfl, ta, ra⟩ := rd.tup_inv
    cases c
    refine .inr (.inl ⟨vs, ta.sq, ?_⟩)
    cases ra <;> rfl
  | ref n =>
    obtain ⟨a, rfl, ea⟩ := rd.ref_inv
    simp only [truthD] at c
    split at c
    · rename_i xs e1
      cases c
      obtain ⟨vs, q, r⟩ := S.sqL ea (.inl e1)
      refine .inl ⟨vs, q, ?_⟩
      cases r <;> rfl
    · rename_i kk xs e1
      cases c
      obtain ⟨vs, q, r⟩ := S.sqL ea (.inr ⟨kk, e1⟩)
      refine .inl ⟨vs, q, ?_⟩
      cases r <;> rfl
    · rename_i kvs e1
      cases c
      obtain ⟨ws, q, r⟩ := S.at_ n a _ ea e1
      refine .inr (.inr ⟨ws, q, ?_⟩)
      unfold RelKV at r
      cases r <;> rfl
    · cases c
end
end PI
end
section
set_option maxRecDepth 100000
set_option maxHeartbeats 1000000
/-! The core language's subscripts, built-ins, methods, by the hand layer's rules (own work). -/
namespace PI
open PySem PySem.Spec PyProof.Rows L2
section
variable {K : PySem.W.Frag} {mu : List Addr} {H : Hp} {h : VH}
theorem atI_rel {ds : List D} {vs : List V} {i : Int} {d : D} (r : RelDs K mu H ds vs) (e : atI ds i = some d) : ∃ v, atI vs i = some v ∧ RelD K mu H d v := by
  unfold atI at e ⊢
  rw [← r.length]
  cases q : ixN ds.length i with
  | none => rw [q] at e; cases e
  | some j =>
    rw [q, Option.bind_some] at e
    rw [Option.bind_some]
    exact r.get e
theorem cut_rel {ds : List D} {vs : List V} (lo hi : Option Int) (r : RelDs K mu H ds vs) : RelDs K mu H (cutL ds lo hi) (cutV vs lo hi) := by
  unfold cutL cutV
  rw [← r.length]
  exact (r.drop _).take _
end
section
variable {X : Cx}
def rIxD : R2 := fun x y H Q => ∃ a v, x = .ref a ∧ DGet H a y (some v) ∧ Q v H
theorem ix_dict (hu : X.A.units + 1 < cLine) : IxR X rIxD := by
  intro value slice pins s σ H x y v u Q I rx ry h hs
  obtain ⟨a, w, rfl, g, q⟩ := h
  cases rx
  have hT := dict_typeIs I g
  unfold subscriptTail
  refine wpAny_bind ?_
  rw [getitemInPython_of_ne hT.not_modules]
  refine wpAny_bind (wpAny_specialOf hT PySem.F.slot_dict_getitem.lookup ?_)
  have fin : wpAny (model X.prog X.w) X.A (subscripted slice false (.ref a) u) (fun r s₃ => wpAny (model X.prog X.w) X.A (letTemporaryGo value (.ref a) r >>= fun _ => pure r) (EP X pins σ Q) X.xe s₃) X.xe s := by
    rw [hs]
    exact wpAny_operating (d_getItem hu I g ry fun w' s' I' rw' => wpAny_bind (wpAny_letTemporaryGo (wpAny_pure ⟨w, H, I', rw', q⟩)))
  first
    | exact wpAny_pure (wpAny_bind fin)
    | exact wpAny_bind (wpAny_pure (wpAny_bind fin))
    | exact wpAny_bind fin
def rIx' (K : PySem.W.Frag) : R2 := fun x y H Q => ∃ mu h d e, Sim K mu H h ∧ RelD K mu H d x ∧ RelD K mu H e y ∧ PV K mu H (ixD d e h) Q noX
theorem ix_all (hu : X.A.units + 1 < cLine) : IxR X (rIx' X.K) := by
  intro value slice pins s σ H x y v u Q I rx ry ⟨mu, h, d, e, S, rd, re, P⟩ hs
  cases d with
  | str z =>
    cases e with
    | int i =>
      obtain ⟨c, P⟩ := Post.grd P
      obtain ⟨w, ew, P⟩ := Post.opt P
      exact ix_str value slice pins s σ H x y v u Q I rx ry ⟨z, i, w, rd.str_inv, re.int_inv, of_decide_eq_true c, ew, PV.ok P S (.str _)⟩ hs
    | _ => exact P.elim
  | tup xs =>
    cases e with
    | int i =>
      obtain ⟨w, ew, P⟩ := Post.opt P
      obtain ⟨a, vs, rfl, ta, ra⟩ := rd.tup_inv
      obtain ⟨v', ev, rv⟩ := atI_rel ra ew
      exact ix_tup value slice pins s σ H _ y v u Q I rx ry ⟨a, vs, i, v', rfl, re.int_inv, ta.sq, ev, PV.ok P S rv⟩ hs
    | _ => exact P.elim
  | ref n =>
    obtain ⟨a, rfl, ea⟩ := rd.ref_inv
    have lst : ∀ {xs : List D} {i : Int} {w : D}, (h[n]? = some (.lst xs) ∨ ∃ k, h[n]? = some (.ro k xs)) → e = .int i → atI xs i = some w → PV X.K mu H (.ok w h) Q noX → wpAny (model X.prog X.w) X.A (subscriptTail value slice v u) (EP X pins σ Q) X.xe s := fun {xs i w} e1 e2 ew P2 => by
      subst e2
      obtain ⟨vs, q, r⟩ := S.sqL ea e1
      obtain ⟨v', ev, rv⟩ := atI_rel r ew
      exact ix_list value slice pins s σ H _ y v u Q I rx ry ⟨a, vs, i, v', rfl, re.int_inv, q, ev, PV.ok P2 S rv⟩ hs
    unfold ixD at P
    dsimp only at P
    split at P
    · rename_i xs e1
      cases e with
      | int i =>
        obtain ⟨w, ew, P⟩ := Post.opt P
        exact lst (.inl e1) rfl ew P
      | _ => exact P.elim
    · rename_i k xs e1
      cases e with
      | int i =>
        obtain ⟨w, ew, P⟩ := Post.opt P
        exact lst (.inr ⟨k, e1⟩) rfl ew P
      | _ => exact P.elim
    · obtain ⟨q, eq, P⟩ := Post.opt P
      obtain ⟨w, ew, P⟩ := Post.opt P
      subst ew
      obtain ⟨b, w', eb, g, ro, _⟩ := look_rel S eq rd re
      cases eb
      cases w' with
      | none => exact ro.elim
      | some v' => exact ix_dict hu value slice pins s σ H _ y v u Q I rx ry ⟨a, v', rfl, g, PV.ok P S ro⟩ hs
  | _ => exact P.elim
/-! ### slices -/
def rSl' (K : PySem.W.Frag) : V → Option Int → Option Int → Hp → VK → Prop := fun x lo hi H Q => ∃ mu h d, Sim K mu H h ∧ RelD K mu H d x ∧ PV K mu H (slD d lo hi h) Q noX
theorem sl_all : SlR X (rSl' X.K) := by
  intro pins s σ H x v vl vu lo hi sl Q I rx hs pl pu ⟨mu, h, d, S, rd, P⟩
  cases d with
  | str z =>
    obtain ⟨c, P⟩ := Post.grd P
    exact sl_str pins s σ H x v vl vu lo hi sl Q I rx hs pl pu ⟨z, rd.str_inv, of_decide_eq_true c, PV.ok P S (.str _)⟩
  | tup xs =>
    obtain ⟨a, vs, rfl, ta, ra⟩ := rd.tup_inv
    refine sl_tupA pins s σ H _ v vl vu lo hi sl Q I rx hs pl pu ⟨a, vs, rfl, ta.sq, fun z => ?_, fun _ => PV.tup P S (cut_rel lo hi ra)⟩
    have e : cutL xs lo hi = xs := by
      unfold cutL
      rw [ra.length, z.1, z.2]
      rw [List.drop_zero, ← ra.length, Nat.sub_zero, List.take_length]
    have P : PV X.K mu H (.ok (.tup (cutL xs lo hi)) h) Q noX := P
    rw [e] at P
    exact PV.ok P S (.tup ta ra)
  | ref n =>
    obtain ⟨a, rfl, ea⟩ := rd.ref_inv
    unfold slD at P
    dsimp only at P
    split at P
    · rename_i xs e1
      obtain ⟨vs, q, r⟩ := S.sqL ea (.inl e1)
      exact sl_list pins s σ H _ v vl vu lo hi sl Q I rx hs pl pu ⟨a, vs, rfl, q, (PV.newL P S (cut_rel lo hi r)).2⟩
    · rename_i k xs e1
      obtain ⟨vs, q, r⟩ := S.sqL ea (.inr ⟨k, e1⟩)
      exact sl_list pins s σ H _ v vl vu lo hi sl Q I rx hs pl pu ⟨a, vs, rfl, q, (PV.newL P S (cut_rel lo hi r)).2⟩
    · exact P.elim
  | _ => exact P.elim
/-! ### o[i] = v -/
def rSet (K : PySem.W.Frag) : V → V → V → Hp → (Hp → Prop) → Prop := fun o i v H Q => ∃ mu h d e f h', Sim K mu H h ∧ RelD K mu H d o ∧ RelD K mu H e i ∧ RelD K mu H f v ∧ setD d e f h = some h' ∧ ∀ mu' H', Ext mu H mu' H' → Sim K mu' H' h' → Q H'
theorem set_all (hu : X.A.units + 1 < cLine) : PSet X (rSet X.K) := by
  intro pins s σ H o i v ov iv u Q I ro ri rv ⟨mu, h, d, e, f, h', S, rd, re, rf, es, P⟩
  cases d with
  | ref n =>
    obtain ⟨a, rfl, ea⟩ := rd.ref_inv
    unfold setD at es
    dsimp only at es
    split at es
    · rename_i xs e1
      cases e with
      | int k =>
        obtain ⟨j, ej, rfl⟩ := Option.map_eq_some_iff.mp es
        obtain ⟨vs, q, r⟩ := S.lst ea e1
        obtain ⟨S1, x1⟩ := S.putL ea e1 (r.set rf j)
        exact set_list pins s σ H _ i v ov iv u Q I ro ri rv ⟨a, vs, k, j, rfl, re.int_inv, q, by rw [← r.length]; exact ej, P _ _ x1 S1⟩
      | _ => cases es
    · rename_i kvs e1
      split at es
      · rename_i k ek
        split at es
        · rename_i hl
          cases es
          obtain ⟨ws, q, r⟩ := S.at_ n a _ ea e1
          have q : H a = some (.dK ws) := q
          obtain ⟨S1, x1⟩ := S.put (ob := .dK (putK ws k v)) ea e1 rfl (fun o xs z => by rw [q] at z; cases z) (fun x => ⟨putK ws k v, upd_same, (put_rel r k rf).ext x⟩) (vo' := .dK false (putD kvs k f)) rfl
          cases ro
          refine d_setItem hu I (H' := upd H a (.dK (putK ws k v))) ?_ ri rv fun s' I' => ⟨_, I', P _ _ x1 S1⟩
          rw [key_rel re ek]
          exact DPut.k q (by rw [← r.length]; exact hl)
        · cases es
      · cases es
    · rename_i kvs e1
      split at es
      · rename_i ks
        split at es
        · rename_i k ek
          split at es
          · rename_i hl
            cases es
            obtain ⟨ws, q, r⟩ := S.at_ n a _ ea e1
            have q : H a = some (.dT ws) := q
            obtain ⟨b, vs, rfl, tb, rb⟩ := re.tup_inv
            have tb : H b = some (.tup vs) := tb
            rw [keys_rel rb ek] at tb
            obtain ⟨S1, x1⟩ := S.put (ob := .dT (putK ws k v)) ea e1 rfl (fun o xs z => by rw [q] at z; cases z) (fun x => ⟨putK ws k v, upd_same, (put_rel r k rf).ext x⟩) (vo' := .dT false (putD kvs k f)) rfl
            cases ro
            exact d_setItem hu I (H' := upd H a (.dT (putK ws k v))) (DPut.t q tb (by rw [← r.length]; exact hl)) ri rv fun s' I' => ⟨_, I', P _ _ x1 S1⟩
          · cases es
        · cases es
      · cases es
    · cases es
  | _ => cases es
end
end PI
end
section
set_option maxRecDepth 100000
/-! sorted of a tuple, at the hand level (own work; in the manner of the library's sorted of a list). -/
namespace PI
open PySem PySem.Spec PyProof.Rows L2
section
variable {prog : Program} {w : World} {A : Around} {E : Value → Shared → Prop} {s : Shared}
theorem collect_tuple {l : Addr} {vs : List Value} {Q : List Value → Shared → Prop} (hl : s.heap.IsTuple l vs.toArray)
    (h : Q vs { s with heap := (s.heap.push (seqObj "list" #[] 0)).update s.heap.objs.size (Obj.mapSeq (· ++ vs.toArray)) }) (hsz : vs.length ≤ sizeLine) :
    wpAny (model prog w) A (collect (.ref l)) Q E s := by
  obtain ⟨o, ho, hc, n, hd⟩ := id hl
  unfold collect
  refine wpAny_bind (wpAny_runValue (codeAny_builtin entry_proto_collect' ?_))
  show wpAny _ _ (do again (.builtin "list.__iadd__" ⟨[← newList [], .ref l], []⟩)) _ _ s
  refine wpAny_bind (wpAny_newList (wpAny_pure ⟨Code.quiet_builtin _ (by decide +kernel), codeAny_builtin entry_list_iadd' ?_⟩))
  show wpAny _ _ (Builtin.List.listExtendWith (.ref s.heap.objs.size) (.ref l) (.ref s.heap.objs.size)) _ _ { s with heap := s.heap.push (seqObj "list" #[] 0) }
  unfold Builtin.List.listExtendWith
  have ho' : (s.heap.push (seqObj "list" #[] 0)).get? l = some o := Heap.get?_push_of_some _ ho
  refine wpAny_bind (wpAny_typeOf (T := "tuple") ⟨o, ho', hc⟩ ?_)
  have ht : (Value.type "tuple" == Value.type "tuple") = true := by rfl
  rw [if_pos (by rw [ht]; simp)]
  refine wpAny_bind (listItems_at ho' hd ?_)
  refine wpAny_bind (listItems_at (xs := #[]) (n := 0) (Heap.get?_push_size _ rfl) rfl ?_)
  rw [if_neg (by simp)]
  refine wpAny_bind (listUpdate_at (xs := #[]) (n := 0) (Heap.get?_push_size _ rfl) rfl ?_ (Nat.zero_le _) (by show (#[] ++ vs.toArray).size ≤ sizeLine + 1; simp only [Array.size_append, List.size_toArray, List.length_nil]; omega))
  refine wpAny_pure ?_
  show wpAny (model prog w) A (do
      let o ← load s.heap.objs.size
      match o.data with
      | .seq xs _ => pure xs.toList
      | _ => unsupported "internal:collect") Q E { s with heap := (s.heap.push (seqObj "list" #[] 0)).update s.heap.objs.size (Obj.mapSeq (· ++ vs.toArray)) }
  refine wpAny_bind (wpAny_load (get?_update_seq (Heap.get?_push_size _ rfl) _) ?_)
  show wpAny _ _ (pure ((#[] : Array Value) ++ vs.toArray).toList) Q E _
  rw [show ((#[] : Array Value) ++ vs.toArray).toList = vs by simp]
  exact wpAny_pure h
open PySem.Calls PySem.W in
theorem sorted_of_sortT {l : Addr} {vs : List Value} {kw : List (Str × Value)} {Q : Value → Shared → Prop} (hl : s.heap.IsTuple l vs.toArray) (hL : vs.length ≤ sizeLine) (ha1 : argsOk "sorted" ⟨[.ref l], kw⟩) (ha2 : ∀ x, argsOk "list.sort" ⟨[.ref x], kw⟩)
    (body : ∀ E' : Value → Shared → Prop, wpAny (model prog w) A.in1.in1 (Builtin.«list.sort» ⟨[.ref (s.heap.objs.size + 1)], kw⟩) (fun f s' => f = .done (.ret .none) ∧ Q (.ref (s.heap.objs.size + 1)) s') E' { s with heap := copyHeap s.heap vs }) :
    wpAny (model prog w) A (call (.builtin "sorted") [.ref l] kw) Q E s := by
  refine call_function_entry_kw kind_sorted plain_sorted entry_sorted ha1 ?_
  unfold Builtin.«sorted»
  refine wpAny_bind (m := checkCount "sorted" 1 1 _) (wpAny_pure ?_)
  refine wpAny_bind (collect_tuple hl ?_ hL)
  refine wpAny_bind (wpAny_newList ?_ hL)
  have hsz : ((s.heap.push (seqObj "list" #[] 0)).update s.heap.objs.size (Obj.mapSeq (· ++ vs.toArray))).objs.size = s.heap.objs.size + 1 := by
    rw [Heap.size_update, size_push']
  show wpAny _ _ _ _ _ { s with heap := copyHeap s.heap vs }
  rw [hsz]
  refine wpAny_bind (wpAny_holding (wpAny_call_entry_kw slot_list_sort ⟨_, copyHeap_at s.heap vs, rfl⟩ entry_list_sort ?body (ha2 _)))
  case body =>
    show wpAny (model prog w) A.in1.in1 (Builtin.«list.sort» ⟨[.ref (s.heap.objs.size + 1)], kw⟩) _ _ _
    refine wpAny_mono (body _) (fun f s' hf => ?_) fun _ _ e => e
    obtain ⟨rfl, hq⟩ := hf
    exact ⟨_, rfl, wpAny_pure ⟨_, rfl, hq⟩⟩
open PySem.Calls PySem.W in
theorem sorted_dataT {β : Type} {vs : List Value} {bs : List β} {enc : β → PyData} {R : Value → β → Prop} {l : Addr} {Q : Value → Shared → Prop} (hl : s.heap.IsTuple l vs.toArray) (e : EachIs R vs bs) (er : EachIs (fun v b => ∃ as, Reads s.heap v (enc b) as) vs bs) (hal : AllAlike (bs.map enc)) (hk : Sortable (bs.map enc)) (hL : bs.length ≤ sizeLine)
    (hu : ∀ b, b ∈ bs → A.units + 2 + (enc b).depth < cLine) (h : ∀ out, out.length = bs.length → EachIs R out (bs.mergeSort (dataLe false enc)) → Q (.ref (s.heap.objs.size + 1)) { s with heap := sortedAll s.heap vs (List.toArray out) }) :
    wpAny (model prog w) A (call (.builtin "sorted") [.ref l]) Q E s := by
  have er' : EachIs (fun v b => ∃ as, Reads (sortingHeap (copyHeap s.heap vs) (s.heap.objs.size + 1) vs) v (enc b) as) vs bs := er.mono fun _ _ ⟨as, r⟩ => ⟨as, PyProof.Rows.Reads.keeps (fun _ _ => sorting_copy_old) r⟩
  have hL' : vs.length ≤ sizeLine := by rw [e.length]; exact hL
  have S := SortsAt.data (s := { s with heap := sortingHeap (copyHeap s.heap vs) (s.heap.objs.size + 1) vs }) (prog := prog) (w := w) (A := A.in1.in1) (each_map (R := fun v d => ∃ as, Reads (sortingHeap (copyHeap s.heap vs) (s.heap.objs.size + 1) vs) v d as) enc er') hal hk (bound_map hu)
  refine sorted_of_sortT hl hL' (args_sorted1 _) (fun _ => args_list_sort _) fun _ => list_sort_vals (s := { s with heap := copyHeap s.heap vs }) (copyHeap_at s.heap vs) S hL' ⟨rfl, ?_⟩
  exact h _ (by rw [sortVals_length false rfl]; exact e.length) (sortVals_data false e er' hal)
open PySem.Calls PySem.W in
theorem sorted_dataLT {β : Type} {vs : List Value} {bs : List β} {enc : β → PyData} {R : Value → β → Prop} {l : Addr} {Q : Value → Shared → Prop} (hl : s.heap.IsList l vs.toArray ∨ s.heap.IsTuple l vs.toArray) (e : EachIs R vs bs) (er : EachIs (fun v b => ∃ as, Reads s.heap v (enc b) as) vs bs) (hal : AllAlike (bs.map enc)) (hk : Sortable (bs.map enc)) (hL : bs.length ≤ sizeLine)
    (hu : ∀ b, b ∈ bs → A.units + 2 + (enc b).depth < cLine) (h : ∀ out, out.length = bs.length → EachIs R out (bs.mergeSort (dataLe false enc)) → Q (.ref (s.heap.objs.size + 1)) { s with heap := sortedAll s.heap vs (List.toArray out) }) :
    wpAny (model prog w) A (call (.builtin "sorted") [.ref l]) Q E s := hl.elim (fun hl => sorted_data hl e er hal hk hL hu h) (fun hl => sorted_dataT hl e er hal hk hL hu h)
end
end PI
end
section
set_option maxRecDepth 100000
set_option maxHeartbeats 1000000
/-! The core language's built-in functions and methods, by the hand layer's rules (own work). -/
namespace PI
open PySem PySem.Spec PyProof.Rows L2
section
variable {K : PySem.W.Frag} {mu : List Addr} {H : Hp} {h : VH}
theorem ints_rel : ∀ {ds : List D} {vs : List V} {ns : List Int}, RelDs K mu H ds vs → intsD ds = some ns → vs = ns.map V.int
  | [], _, ns, .nil, e => by
    have e : some ([] : List Int) = some ns := e
    cases e; rfl
  | d :: ds, _, ns, .cons r rs, e => by
    cases d with
    | int i =>
      obtain ⟨ms, e1, rfl⟩ := Option.map_eq_some_iff.mp (show (intsD ds).map (i :: ·) = some ns from e)
      rw [List.map_cons, r.int_inv, ints_rel rs e1]
    | _ => cases e
theorem bls_rel : ∀ {ds : List D} {vs : List V} {ns : List Bool}, RelDs K mu H ds vs → blsD ds = some ns → vs = ns.map V.bl
  | [], _, ns, .nil, e => by
    have e : some ([] : List Bool) = some ns := e
    cases e; rfl
  | d :: ds, _, ns, .cons r rs, e => by
    cases d with
    | bl i =>
      obtain ⟨ms, e1, rfl⟩ := Option.map_eq_some_iff.mp (show (blsD ds).map (i :: ·) = some ns from e)
      rw [List.map_cons, r.bl_inv, bls_rel rs e1]
    | _ => cases e
theorem strs_rel : ∀ {ds : List D} {vs : List V} {ns : List Str}, RelDs K mu H ds vs → strsD ds = some ns → vs = ns.map V.str
  | [], _, ns, .nil, e => by
    have e : some ([] : List Str) = some ns := e
    cases e; rfl
  | d :: ds, _, ns, .cons r rs, e => by
    cases d with
    | str i =>
      obtain ⟨ms, e1, rfl⟩ := Option.map_eq_some_iff.mp (show (strsD ds).map (i :: ·) = some ns from e)
      rw [List.map_cons, r.str_inv, strs_rel rs e1]
    | _ => cases e
theorem itemsL_rel (S : Sim K mu H h) {d : D} {x : V} {xs : List D} (rd : RelD K mu H d x) (e : itemsL h d = some xs) : ∃ a vs, x = .ref a ∧ SqL K H a vs ∧ RelDs K mu H xs vs := by
  cases d with
  | ref n =>
    obtain ⟨a, rfl, ea⟩ := rd.ref_inv
    unfold itemsL at e
    dsimp only at e
    split at e
    · rename_i xs e1
      cases e
      obtain ⟨vs, q, r⟩ := S.sqL ea (.inl e1)
      exact ⟨a, vs, rfl, q, r⟩
    · rename_i k xs e1
      cases e
      obtain ⟨vs, q, r⟩ := S.sqL ea (.inr ⟨k, e1⟩)
      exact ⟨a, vs, rfl, q, r⟩
    · cases e
  | _ => cases e
theorem items_rel (S : Sim K mu H h) {d : D} {x : V} {xs : List D} (rd : RelD K mu H d x) (e : itemsD h d = some xs) : ∃ a vs, x = .ref a ∧ (SqL K H a vs ∨ TupAt K H a vs) ∧ RelDs K mu H xs vs := by
  cases d with
  | tup ys =>
    cases e
    obtain ⟨a, vs, rfl, ta, ra⟩ := rd.tup_inv
    exact ⟨a, vs, rfl, .inr ta, ra⟩
  | ref n =>
    obtain ⟨a, vs, e1, q, r⟩ := itemsL_rel S rd (show itemsL h (.ref n) = some xs from e)
    exact ⟨a, vs, e1, .inl q, r⟩
  | _ => cases e
theorem listInts_rel (S : Sim K mu H h) {d : D} {x : V} {ns : List Int} (rd : RelD K mu H d x) (e : listInts h d = some ns) : ∃ a, x = .ref a ∧ SqL K H a (ns.map V.int) := by
  cases d with
  | ref n =>
    have e' : (itemsL h (.ref n)).bind intsD = some ns := by
      unfold listInts at e
      unfold itemsL
      dsimp only at e ⊢
      split at e <;> simp_all
    obtain ⟨xs, e1, e2⟩ := Option.bind_eq_some_iff.mp e'
    obtain ⟨a, vs, rfl, q, r⟩ := itemsL_rel S rd e1
    rw [ints_rel r e2] at q
    exact ⟨a, rfl, q⟩
  | _ => cases e
theorem foldl_max : ∀ (xs : List Int) (x : Int), (xs.foldl (fun m y => if y > m then y else m) x ∈ x :: xs) ∧ ∀ y ∈ x :: xs, y ≤ xs.foldl (fun m y => if y > m then y else m) x
  | [], x => ⟨by simp, fun y hy => by simp at hy; subst hy; exact Int.le_refl _⟩
  | y :: ys, x => by
    obtain ⟨h1, h2⟩ := foldl_max ys (if y > x then y else x)
    rw [List.foldl_cons]
    refine ⟨?_, fun z hz => ?_⟩
    · rcases List.mem_cons.mp h1 with e | e
      · rw [e]; split <;> simp
      · exact List.mem_cons_of_mem _ (List.mem_cons_of_mem _ e)
    · rcases List.mem_cons.mp hz with rfl | hz
      · exact Int.le_trans (by split <;> omega) (h2 _ (List.mem_cons_self ..))
      · rcases List.mem_cons.mp hz with rfl | hz
        · exact Int.le_trans (by split <;> omega) (h2 _ (List.mem_cons_self ..))
        · exact h2 _ (List.mem_cons_of_mem _ hz)
theorem foldl_min : ∀ (xs : List Int) (x : Int), (xs.foldl (fun m y => if y < m then y else m) x ∈ x :: xs) ∧ ∀ y ∈ x :: xs, xs.foldl (fun m y => if y < m then y else m) x ≤ y
  | [], x => ⟨by simp, fun y hy => by simp at hy; subst hy; exact Int.le_refl _⟩
  | y :: ys, x => by
    obtain ⟨h1, h2⟩ := foldl_min ys (if y < x then y else x)
    rw [List.foldl_cons]
    refine ⟨?_, fun z hz => ?_⟩
    · rcases List.mem_cons.mp h1 with e | e
      · rw [e]; split <;> simp
      · exact List.mem_cons_of_mem _ (List.mem_cons_of_mem _ e)
    · rcases List.mem_cons.mp hz with rfl | hz
      · exact Int.le_trans (h2 _ (List.mem_cons_self ..)) (by split <;> omega)
      · rcases List.mem_cons.mp hz with rfl | hz
        · exact Int.le_trans (h2 _ (List.mem_cons_self ..)) (by split <;> omega)
        · exact h2 _ (List.mem_cons_of_mem _ hz)
theorem maxL_spec {ns : List Int} {m : Int} (e : maxL ns = some m) : 0 < ns.length ∧ m ∈ ns ∧ ∀ y ∈ ns, y ≤ m := by
  cases ns with
  | nil => cases e
  | cons x xs =>
    cases e
    exact ⟨by simp, foldl_max xs x⟩
theorem minL_spec {ns : List Int} {m : Int} (e : minL ns = some m) : 0 < ns.length ∧ m ∈ ns ∧ ∀ y ∈ ns, m ≤ y := by
  cases ns with
  | nil => cases e
  | cons x xs =>
    cases e
    exact ⟨by simp, foldl_min xs x⟩
/-! sorting -/
theorem zip3 {ds : List D} {ps : List PyData} {vs : List V} {us : List Value} {s : Shared} {X : Cx} {pins : List (Addr × Obj)} {σ : L2.St} (S : Sim X.K mu H h) (I : Inv X pins σ H s) (e : Paired (fun d p => toP deep h d = some p) ds ps) (r : RelDs X.K mu H ds vs) (rv : Vals vs us) :
    PySem.W.EachIs (fun (u : Value) (b : (D × PyData) × V) => (RelV b.2 u ∧ RelD X.K mu H b.1.1 b.2) ∧ ∃ as, Reads s.heap u b.1.2 as) us ((ds.zip ps).zip vs) := by
  induction e generalizing vs us with
  | nil => cases r; cases rv; exact .nil
  | cons q _ ih =>
    cases r with
    | cons r rs =>
      cases rv with
      | cons z zs => exact .cons ⟨⟨z, r⟩, S.reads I z r q⟩ (ih rs zs)
theorem each_both {us : List Value} {bs : List ((D × PyData) × V)} (e : PySem.W.EachIs (fun (u : Value) (b : (D × PyData) × V) => RelV b.2 u ∧ RelD K mu H b.1.1 b.2) us bs) : RelDs K mu H (bs.map fun b => b.1.1) (bs.map fun b => b.2) ∧ Vals (bs.map fun b => b.2) us := by
  induction e with
  | nil => exact ⟨.nil, .nil⟩
  | cons z _ ih => exact ⟨.cons z.2 ih.1, .cons z.1 ih.2⟩
end
section
variable {X : Cx}
theorem cr_sortedD (hu : X.A.units + 64 < cLine) : CallR X (.builtin "sorted") (fun vs H Q => ∃ (mu : List Addr) (h : VH) (a : Addr) (xs ys : List D), vs = [V.ref a] ∧ Sim X.K mu H h ∧ ((∃ n : Nat, mu[n]? = some a ∧ h[n]? = some (VO.lst xs)) ∨ RelD X.K mu H (PI.D.tup xs) (V.ref a)) ∧ sortD h xs = some ys ∧
    ∀ ws, ys.length ≤ sizeLine → RelDs X.K mu H ys ws → ∀ p, H p = none → Q (.ref p) (upd H p (.lst ws))) := by
  intro pins s σ H vs us Q I r hh
  obtain ⟨mu, h, a, xs, ys, rfl, S, e1, es, q⟩ := hh
  rw [Vals.ref1 r]
  obtain ⟨vs, its, ra, rv, hl, hz⟩ : ∃ (vs : List V) (its : List Value), RelDs X.K mu H xs vs ∧ Vals vs its ∧ (s.heap.IsList a its.toArray ∨ s.heap.IsTuple a its.toArray) ∧ vs.length ≤ sizeLine := by
    rcases e1 with ⟨n, ea, e1⟩ | rt
    · obtain ⟨vs, hs, ra⟩ := S.sqL ea (.inl e1)
      obtain ⟨its, rv, hl, hz⟩ := I.list hs
      exact ⟨vs, its, ra, rv, .inl hl.isList, hz⟩
    · obtain ⟨_, vs, e2, ta, rs⟩ := rt.tup_inv
      cases e2
      obtain ⟨its, rv, p, hz⟩ := I.tuple ta.sq
      exact ⟨vs, its, rs, rv, .inr p, hz⟩
  unfold sortD at es
  split at es
  · rename_i ps ep
    split at es
    · rename_i c
      cases es
      simp only [Bool.and_eq_true, Bool.or_eq_true, List.all_eq_true, decide_eq_true_eq] at c
      obtain ⟨⟨⟨c1, c2⟩, c3⟩, c4⟩ := c
      have pr := mapM_some ep
      have l1 : xs.length = ps.length := Paired.length pr
      have l2 := ra.length
      have Z := zip3 S I pr ra rv
      have em : ((xs.zip ps).zip vs).map (fun b => b.1.2) = ps := by
        have : ((xs.zip ps).zip vs).map (fun b => b.1.2) = (((xs.zip ps).zip vs).map Prod.fst).map Prod.snd := by rw [List.map_map]; rfl
        rw [this, List.map_fst_zip (by rw [List.length_zip]; omega), List.map_snd_zip (by omega)]
      have ef : ((xs.zip ps).zip vs).map Prod.fst = xs.zip ps := List.map_fst_zip (by rw [List.length_zip]; omega)
      have memp : ∀ b ∈ (xs.zip ps).zip vs, b.1.2 ∈ ps := fun b hb => by rw [← em]; exact List.mem_map.mpr ⟨b, hb, rfl⟩
      refine sorted_dataLT (enc := fun b : (D × PyData) × V => b.1.2) (bs := (xs.zip ps).zip vs) (R := fun u b => RelV b.2 u ∧ RelD X.K mu H b.1.1 b.2) hl (Z.mono fun _ _ z => z.1) (Z.mono fun _ _ z => z.2) ?_ ?_ ?_ (fun b hb => ?_) fun out ol oe => ?_
      · rw [em]; exact fun d hd d' hd' => c1 d hd d' hd'
      · rw [em]
        rcases c2 with c2 | c2
        · refine .inl fun d hd => ?_
          have := c2 d hd
          split at this
          · exact ⟨_, _, rfl⟩
          · cases this
        · refine .inr fun d hd => ?_
          have := c2 d hd
          split at this
          · cases this
          · cases this
          · rename_i n1 n2
            exact ⟨n2, n1⟩
      · rw [List.length_zip, List.length_zip]
        omega
      · have := c3 _ (memp b hb)
        omega
      · have lez : (PySem.W.dataLe false fun b : (D × PyData) × V => b.1.2) = fun a b => !PySem.W.dataLt b.1.2 a.1.2 := rfl
        have eys : ((xs.zip ps).mergeSort (fun a b => !PySem.W.dataLt b.2 a.2)).map (·.1) = (((xs.zip ps).zip vs).mergeSort (PySem.W.dataLe false fun b : (D × PyData) × V => b.1.2)).map fun b => b.1.1 := by
          rw [lez]
          have := PySem.W.sort_maps (r := fun a b : (D × PyData) × V => !PySem.W.dataLt b.1.2 a.1.2) (s := fun a b : D × PyData => !PySem.W.dataLt b.2 a.2) Prod.fst (l := (xs.zip ps).zip vs) (fun _ _ _ _ => rfl)
          rw [ef] at this
          rw [← this, List.map_map]
          rfl
        rw [eys] at q
        -- the sorted triples
        generalize ((xs.zip ps).zip vs).mergeSort (PySem.W.dataLe false fun b : (D × PyData) × V => b.1.2) = bs' at oe q
        have both := each_both oe
        obtain ⟨ep', he'⟩ := PyProof.Rows.sortedAll_at s.heap its out.toArray
        have hlen : (bs'.map fun b => b.2).length ≤ sizeLine := by
          rw [both.2.length, ol, List.length_zip, List.length_zip]; omega
        refine ⟨.ref _, upd H (s.heap.objs.size + 1) (.lst (bs'.map fun b => b.2)), I.laid (t' := s.toks) (fun _ _ => PyProof.Rows.sortedAll_old) (Nat.le_succ _) ⟨hlen, out, ep', both.2, he'⟩, rfl, q _ ?_ both.1 _ (I.hok.fresh (Nat.le_succ _))⟩
        rw [List.length_map]
        rw [List.length_map] at hlen
        exact hlen
    · cases es
  · cases es
end
end PI
end
section
set_option maxRecDepth 100000
set_option maxHeartbeats 1000000
/-! The core language's built-in functions, by the hand layer's rules (own work). -/
namespace PI
open PySem PySem.Spec PyProof.Rows L2
def B1.val : B1 → Value
  | .len => .builtin "len" | .int => .type "int" | .abs => .builtin "abs" | .bool => .type "bool" | .str => .type "str" | .sum => .builtin "sum"
  | .max => .builtin "max" | .min => .builtin "min" | .sorted => .builtin "sorted" | .tuple => .type "tuple" | .list => .type "list" | .all => .builtin "all"
def rB1 (K : PySem.W.Frag) (b : B1) : List V → Hp → VK → Prop := fun xs H Q => ∃ mu h d x, xs = [x] ∧ Sim K mu H h ∧ RelD K mu H d x ∧ PV K mu H (b1D b d h) Q noX
def rB2 (K : PySem.W.Frag) (b : B2) : List V → Hp → VK → Prop := fun xs H Q => ∃ mu h d e x y, xs = [x, y] ∧ Sim K mu H h ∧ RelD K mu H d x ∧ RelD K mu H e y ∧ PV K mu H (b2D b d e h) Q noX
section
variable {X : Cx}
theorem cr_b1 (hc : X.calm = true) (hu : X.A.units + 64 < cLine) (b : B1) : CallR X b.val (rB1 X.K b) := by
  intro pins s σ H xs us Q I r ⟨mu, h, d, x, ex, S, rd, P⟩
  subst ex
  cases b with
  | len =>
    unfold b1D at P
    dsimp only at P
    cases d with
    | str z =>
      obtain ⟨c, P⟩ := Post.grd P
      rw [rd.str_inv] at r
      exact call_len pins s σ H _ us Q I r ⟨_, z.length, rfl, ⟨of_decide_eq_true c, rfl⟩, PV.ok P S (.int _)⟩
    | tup ys =>
      obtain ⟨a, vs, rfl, ta, ra⟩ := rd.tup_inv
      exact call_len pins s σ H _ us Q I r ⟨_, ys.length, rfl, .inr ⟨vs, ta.sq, ra.length⟩, PV.ok P S (.int _)⟩
    | ref n =>
      obtain ⟨a, rfl, ea⟩ := rd.ref_inv
      dsimp only at P
      split at P
      · rename_i ys e1
        obtain ⟨vs, q, rr⟩ := S.sqL ea (.inl e1)
        exact call_len pins s σ H _ us Q I r ⟨_, ys.length, rfl, .inl ⟨vs, q, rr.length⟩, PV.ok P S (.int _)⟩
      · rename_i k ys e1
        obtain ⟨vs, q, rr⟩ := S.sqL ea (.inr ⟨k, e1⟩)
        exact call_len pins s σ H _ us Q I r ⟨_, ys.length, rfl, .inl ⟨vs, q, rr.length⟩, PV.ok P S (.int _)⟩
      · rename_i kvs e1
        obtain ⟨ws, q, rr⟩ := S.at_ n a _ ea e1
        have q : H a = some (.dK ws) := q
        exact call_lenD pins s σ H _ us Q I r ⟨a, ws, rfl, q, by rw [← rr.length]; exact PV.ok P S (.int _)⟩
      · exact P.elim
    | _ => exact P.elim
  | int =>
    cases d with
    | int i => rw [rd.int_inv] at r; exact call_int1 pins s σ H _ us Q I r (.inl ⟨i, rfl, PV.ok P S (.int _)⟩)
    | bl k => rw [rd.bl_inv] at r; exact call_int1 pins s σ H _ us Q I r (.inr ⟨k, rfl, PV.ok P S (.int _)⟩)
    | _ => exact P.elim
  | abs =>
    cases d with
    | int i => rw [rd.int_inv] at r; exact call_abs pins s σ H _ us Q I r ⟨i, rfl, PV.ok P S (.int _)⟩
    | _ => exact P.elim
  | bool =>
    cases d with
    | int i => rw [rd.int_inv] at r; exact call_bool1 pins s σ H _ us Q I r (.inl ⟨i, rfl, PV.ok P S (.bl _)⟩)
    | bl k => rw [rd.bl_inv] at r; exact call_bool1 pins s σ H _ us Q I r (.inr ⟨k, rfl, PV.ok P S (.bl _)⟩)
    | _ => exact P.elim
  | str =>
    cases d with
    | int i =>
      obtain ⟨c, P⟩ := Post.grd P
      rw [rd.int_inv] at r
      exact call_str_int pins s σ H _ us Q I r ⟨i, rfl, of_decide_eq_true c, PV.ok P S (.str _)⟩
    | _ => exact P.elim
  | sum =>
    obtain ⟨ns, e1, P⟩ := Post.opt P
    obtain ⟨a, rfl, q⟩ := listInts_rel S rd e1
    exact cr_sum hc pins s σ H _ us Q I r ⟨a, ns, rfl, q, PV.ok P S (.int _)⟩
  | max =>
    obtain ⟨m, e1, P⟩ := Post.opt P
    obtain ⟨ns, e1, e2⟩ := Option.bind_eq_some_iff.mp e1
    obtain ⟨a, rfl, q⟩ := listInts_rel S rd e1
    obtain ⟨m1, m2, m3⟩ := maxL_spec e2
    refine cr_max hc pins s σ H _ us Q I r ⟨a, ns, rfl, q, m1, fun m' h1 h2 => ?_⟩
    have e : m' = m := Int.le_antisymm (m3 _ h1) (h2 _ m2)
    rw [e]
    exact PV.ok P S (.int _)
  | min =>
    obtain ⟨m, e1, P⟩ := Post.opt P
    obtain ⟨ns, e1, e2⟩ := Option.bind_eq_some_iff.mp e1
    obtain ⟨a, rfl, q⟩ := listInts_rel S rd e1
    obtain ⟨m1, m2, m3⟩ := minL_spec e2
    refine cr_min hc pins s σ H _ us Q I r ⟨a, ns, rfl, q, m1, fun m' h1 h2 => ?_⟩
    have e : m' = m := Int.le_antisymm (h2 _ m2) (m3 _ h1)
    rw [e]
    exact PV.ok P S (.int _)
  | sorted =>
    unfold b1D at P
    dsimp only at P
    cases d with
    | ref n =>
      obtain ⟨a, rfl, ea⟩ := rd.ref_inv
      dsimp only at P
      split at P
      · rename_i ys e1
        obtain ⟨zs, e2, P⟩ := Post.opt P
        exact cr_sortedD hu pins s σ H _ us Q I r ⟨mu, h, a, ys, zs, rfl, S, .inl ⟨n, ea, e1⟩, e2, fun ws _ rw' => (PV.newL P S rw').2⟩
      · exact P.elim
    | tup ys =>
      dsimp only at P
      obtain ⟨zs, e2, P⟩ := Post.opt P
      obtain ⟨a, vs, rfl, ta, rs⟩ := rd.tup_inv
      exact cr_sortedD hu pins s σ H _ us Q I r ⟨mu, h, a, ys, zs, rfl, S, .inr rd, e2, fun ws _ rw' => (PV.newL P S rw').2⟩
    | _ => exact P.elim
  | tuple =>
    unfold b1D at P
    dsimp only at P
    cases d with
    | tup ys =>
      obtain ⟨a, vs, rfl, ta, ra⟩ := rd.tup_inv
      exact call_tuple_of pins s σ H _ us Q I r ⟨a, vs, rfl, .inr ⟨ta.sq, PV.ok P S (.tup ta ra)⟩⟩
    | ref n =>
      obtain ⟨a, rfl, ea⟩ := rd.ref_inv
      dsimp only at P
      split at P
      · rename_i ys e1
        obtain ⟨vs, q, rr⟩ := S.sqL ea (.inl e1)
        exact call_tuple_of pins s σ H _ us Q I r ⟨a, vs, rfl, .inl ⟨q, (PV.newT P S rr).2⟩⟩
      · rename_i k ys e1
        obtain ⟨vs, q, rr⟩ := S.sqL ea (.inr ⟨k, e1⟩)
        exact call_tuple_of pins s σ H _ us Q I r ⟨a, vs, rfl, .inl ⟨q, (PV.newT P S rr).2⟩⟩
      · exact P.elim
    | _ => exact P.elim
  | list =>
    obtain ⟨ys, e1, P⟩ := Post.opt P
    obtain ⟨a, vs, rfl, q, rr⟩ := items_rel S rd e1
    exact call_list_of pins s σ H _ us Q I r ⟨a, vs, rfl, q.imp id TupAt.sq, (PV.newL P S rr).2⟩
  | all =>
    unfold b1D at P
    dsimp only at P
    cases d with
    | ref n =>
      obtain ⟨a, rfl, ea⟩ := rd.ref_inv
      dsimp only at P
      split at P
      · rename_i ys e1
        obtain ⟨bs, e2, P⟩ := Post.opt P
        obtain ⟨vs, q, rr⟩ := S.sqL ea (.inl e1)
        rw [bls_rel rr e2] at q
        exact cr_all hc pins s σ H _ us Q I r ⟨a, bs, rfl, q, PV.ok P S (.bl _)⟩
      · exact P.elim
    | _ => exact P.elim
theorem b2_ints {K : PySem.W.Frag} {mu : List Addr} {H : Hp} {h : VH} {d e : D} {Q : VK} {b : B2} (P : PV K mu H (b2D b d e h) Q noX) : ∃ i j, d = .int i ∧ e = .int j := by
  cases d <;> cases e <;> first | exact P.elim | exact ⟨_, _, rfl, rfl⟩
theorem cr_max2 (hc : X.calm = true) : CallR X (.builtin "max") (rB2 X.K .max) := by
  intro pins s σ H xs us Q I r ⟨mu, h, d, e, x, y, ex, S, rd, re, P⟩
  obtain ⟨i, j, rfl, rfl⟩ := b2_ints P
  rw [ex, rd.int_inv, re.int_inv] at r
  exact call_max2 hc pins s σ H _ us Q I r ⟨i, j, rfl, PV.ok P S (.int _)⟩
theorem cr_min2 (hc : X.calm = true) : CallR X (.builtin "min") (rB2 X.K .min) := by
  intro pins s σ H xs us Q I r ⟨mu, h, d, e, x, y, ex, S, rd, re, P⟩
  obtain ⟨i, j, rfl, rfl⟩ := b2_ints P
  rw [ex, rd.int_inv, re.int_inv] at r
  exact call_min2 hc pins s σ H _ us Q I r ⟨i, j, rfl, PV.ok P S (.int _)⟩
theorem cr_gcd2 : CallR X (.builtin "math.gcd") (rB2 X.K .gcd) := by
  intro pins s σ H xs us Q I r ⟨mu, h, d, e, x, y, ex, S, rd, re, P⟩
  obtain ⟨i, j, rfl, rfl⟩ := b2_ints P
  rw [ex, rd.int_inv, re.int_inv] at r
  exact cr_gcd pins s σ H _ us Q I r ⟨i, j, rfl, PV.ok P S (.int _)⟩

/-! ### isinstance -/
def Ty.nm : Ty → String
  | .int => "int" | .bool => "bool" | .str => "str" | .tuple => "tuple"
theorem kit_non (t : Ty) : kitB "NoneType" t.nm = some false := by cases t <;> decide +kernel
theorem kit_bool (t : Ty) : kitB "bool" t.nm = some (match t with | .int => true | .bool => true | _ => false) := by cases t <;> decide +kernel
theorem kit_int (t : Ty) : kitB "int" t.nm = some (match t with | .int => true | _ => false) := by cases t <;> decide +kernel
theorem kit_str (t : Ty) : kitB "str" t.nm = some (match t with | .str => true | _ => false) := by cases t <;> decide +kernel
theorem kit_tuple (t : Ty) : kitB "tuple" t.nm = some (match t with | .tuple => true | _ => false) := by cases t <;> decide +kernel
theorem kit_list (t : Ty) : kitB "list" t.nm = some false := by cases t <;> decide +kernel
theorem kit_dict (t : Ty) : kitB "dict" t.nm = some false := by cases t <;> decide +kernel
theorem tyx_of {K : PySem.W.Frag} {mu : List Addr} {H : Hp} {h : VH} {d : D} {x : V} (S : Sim K mu H h) (rd : RelD K mu H d x) (ok : isiOk h d = true) : ∃ T : String, TyX K H x (.type T) ∧ ∀ t : Ty, kitB T t.nm = some (isiD d t) := by
  cases d with
  | non => rw [rd.non_inv]; exact ⟨"NoneType", .base .non, fun t => (kit_non t).trans (by cases t <;> rfl)⟩
  | bl b => rw [rd.bl_inv]; exact ⟨"bool", .base (.bl b), fun t => (kit_bool t).trans (by cases t <;> rfl)⟩
  | int i => rw [rd.int_inv]; exact ⟨"int", .base (.int i), fun t => (kit_int t).trans (by cases t <;> rfl)⟩
  | str z => rw [rd.str_inv]; exact ⟨"str", .base (.str z), fun t => (kit_str t).trans (by cases t <;> rfl)⟩
  | tup ds =>
    obtain ⟨a, vs, rfl, ta, _⟩ := rd.tup_inv
    exact ⟨"tuple", .base (.tup ta), fun t => (kit_tuple t).trans (by cases t <;> rfl)⟩
  | ref n =>
    obtain ⟨a, rfl, ea⟩ := rd.ref_inv
    unfold isiOk at ok
    dsimp only at ok
    split at ok
    · rename_i xs e1
      obtain ⟨vs, q, _⟩ := S.at_ n a _ ea e1
      exact ⟨"list", .base (.lst q), fun t => (kit_list t).trans (by cases t <;> rfl)⟩
    · rename_i k xs e1
      obtain ⟨vs, q, _⟩ := S.at_ n a _ ea e1
      refine ⟨"list", ?_, fun t => (kit_list t).trans (by cases t <;> rfl)⟩
      cases k with
      | true => obtain ⟨o, its, m, e, c, _⟩ := (show KLst K a vs from q); exact .kList e c
      | false => obtain ⟨o, q⟩ := (show ∃ o, _ from q); exact .base (.frz q)
    · rename_i lk kvs e1
      obtain ⟨ws, q, _⟩ := S.at_ n a _ ea e1
      refine ⟨"dict", ?_, fun t => (kit_dict t).trans (by cases t <;> rfl)⟩
      cases lk with
      | true => obtain ⟨o, q⟩ := (show ∃ o, _ from q); exact .fDict q
      | false => exact .base (.dK q)
    · rename_i lk kvs e1
      obtain ⟨ws, q, _⟩ := S.at_ n a _ ea e1
      refine ⟨"dict", ?_, fun t => (kit_dict t).trans (by cases t <;> rfl)⟩
      cases lk with
      | true => cases ok
      | false => exact .base (.dT q)
    · cases ok
end
end PI
end
section
set_option maxRecDepth 100000
set_option maxHeartbeats 1000000
/-! A core term says a piece of the program's text: the check (own work). -/
namespace PI
open PySem PySem.Spec PyProof.Rows L2
/-- what the text's global names are: the defs (name, parameters), constants, exception classes, built-ins that are asked by name, math.gcd -/
structure Gam where
  fns : List (Str × List Str)
  consts : List (Str × Lit)
  classes : List Str
  free : List Str
  gcd : List Str
def visB (sc : Scope) (x : Str) : Bool := match sc.names.lookup x with
  | some .local => true
  | some .cell => true
  | some .free => true
  | _ => false
def locB (sc : Scope) (x : Str) : Bool := match sc.names.lookup x with
  | some .local => true
  | some .cell => true
  | _ => false
def glB (sc : Scope) (x : Str) : Bool := decide (sc.names.lookup x = some .globalImplicit)
/-- the names whose cells a block makes (a def: all) -/
def fnOf : Option Scope → Str → Bool
  | none, _ => true
  | some s, x => s.names.lookup x == some .cell
def okN (x : Str) : Bool := !(x == ("__debug__" : Str)) && (!(x == ("__classdict__" : Str)) && !(x == ("__name__" : Str)))
def litB : Lit → Const → Bool
  | .non, .none => true
  | .bl b, .bool c => b == c
  | .int i, .int j => decide (i = j)
  | .str x, .str y => decide (x = y)
  | _, _ => false
def B1.nm : B1 → Str
  | .len => "len" | .int => "int" | .abs => "abs" | .bool => "bool" | .str => "str" | .sum => "sum" | .max => "max" | .min => "min" | .sorted => "sorted" | .tuple => "tuple" | .list => "list" | .all => "all"
def Ty.pn : Ty → Str
  | .int => "int" | .bool => "bool" | .str => "str" | .tuple => "tuple"
/-- a free built-in name -/
def frB (G : Gam) (sc : Scope) (x : Str) : Bool := glB sc x && (okN x && G.free.contains x)
def ownOf (N : List Str) (is : List Nat) : List (Str × Nat) := is.map fun i => ((N[i]?).getD Str.empty, i)
def isTupE : Expr → Bool
  | .Tuple _ _ _ => true
  | _ => false
def lineB (apos cpos : Pos) : Bool := apos.endLine == cpos.line
def isNameE : Expr → Bool
  | .Name _ _ => true
  | _ => false
def plainCp : Cp → Bool
  | .isin => false
  | .notin => false
  | _ => true
section
variable (G : Gam) (N : List Str)
mutual
def chkE (bk : Option Scope) (sc : Scope) : CE → Expr → Bool
  | .var i, .Name x _ => decide (N[i]? = some x) && (visB sc x && okN x)
  | .lit l, .Constant k _ _ => litB l k
  | .glob x l, .Name y _ => decide (x = y) && (glB sc x && (okN x && decide (G.consts.lookup x = some l)))
  | .tup es, .Tuple es' _ _ => chkEs bk sc es es'
  | .lst es, .List es' _ => chkEs bk sc es es'
  | .dnK, .Dict [] [] _ => true
  | .dnT, .Dict [] [] _ => true
  | .call f es, .Call (.Name x _) es' [] _ => glB sc x && (okN x && (decide ((G.fns[f]?).map (·.1) = some x) && chkEs bk sc es es'))
  | .b1 b a, .Call (.Name x _) [a'] [] _ => decide (x = b.nm) && (frB G sc x && chkE bk sc a a')
  | .b2 b a c, .Call (.Name x _) [a', c'] [] _ => (match b with
    | .max => decide (x = ("max" : Str)) && frB G sc x
    | .min => decide (x = ("min" : Str)) && frB G sc x
    | .gcd => glB sc x && (okN x && G.gcd.contains x)) && (chkE bk sc a a' && chkE bk sc c c')
  | .isi a t, .Call (.Name x _) [a', .Name y _] [] _ => decide (x = ("isinstance" : Str)) && (frB G sc x && (decide (y = t.pn) && (frB G sc y && chkE bk sc a a')))
  | .bin op a b, .BinOp a' op' b' _ => decide (op.py = op') && (chkE bk sc a a' && chkE bk sc b b')
  | .neg a, .UnaryOp .USub a' _ => chkE bk sc a a'
  | .cmp op a b, .Compare a' [op'] [b'] _ => decide (op.py = op') && (chkE bk sc a a' && chkE bk sc b b')
  | .chain op1 op2 a b c, .Compare a' [op1', op2'] [b', c'] _ => decide (op1.py = op1') && (decide (op2.py = op2') && (chkE bk sc a a' && (chkE bk sc b b' && chkE bk sc c c')))
  | .isN a, .Compare a' [.Is] [.Constant .none _ _] _ => chkE bk sc a a'
  | .notN a, .Compare a' [.IsNot] [.Constant .none _ _] _ => chkE bk sc a a'
  | .isB k a, .Compare a' [.Is] [.Constant (.bool k') _ _] _ => decide (k = k') && chkE bk sc a a'
  | .notB k a, .Compare a' [.IsNot] [.Constant (.bool k') _ _] _ => decide (k = k') && chkE bk sc a a'
  | .and_ a b, .BoolOp .And [a', b'] _ => chkE bk sc a a' && chkE bk sc b b'
  | .and_ a b, .BoolOp .And (a' :: b' :: c' :: r') p => chkE bk sc a a' && chkE bk sc b (.BoolOp .And (b' :: c' :: r') p)
  | .or_ a b, .BoolOp .Or [a', b'] _ => chkE bk sc a a' && chkE bk sc b b'
  | .or_ a b, .BoolOp .Or (a' :: b' :: c' :: r') p => chkE bk sc a a' && chkE bk sc b (.BoolOp .Or (b' :: c' :: r') p)
  | .not_ a, .UnaryOp .Not a' _ => chkE bk sc a a'
  | .ix a i, .Subscript a' i' _ => chkE bk sc a a' && chkE bk sc i i'
  | .sl a lo hi, .Subscript a' (.Slice lo' hi' none _) _ => chkE bk sc a a' && (chkO bk sc lo lo' && chkO bk sc hi hi')
  | .lc g it c e, .ListComp e' [⟨tg, it', ifs, z⟩] scope _ => decide (z = 0) && (blkC N sc scope (ownOf N (slotsG g)) && (chkI bk sc tg it it' && (chkG (some scope) (relS scope sc) g tg && ((match c, ifs with
      | .none, [] => true
      | .some c, [c'] => chkE (some scope) (relS scope sc) c c'
      | _, _ => false) && chkE (some scope) (relS scope sc) e e'))))
  | .dc g it k v, .DictComp k' v' [⟨tg, it', [], z⟩] scope _ => decide (z = 0) && (blkC N sc scope (ownOf N (slotsG g)) && (chkI bk sc tg it it' && (chkG (some scope) (relS scope sc) g tg && (chkE (some scope) (relS scope sc) k k' && chkE (some scope) (relS scope sc) v v'))))
  | .app o e, .Call (.Attribute o' m apos) [e'] [] cpos => decide (m = ("append" : Str)) && (lineB apos cpos && (isNameE o' && (chkE bk sc o o' && chkE bk sc e e')))
  | .ext o e, .Call (.Attribute o' m apos) [e'] [] cpos => decide (m = ("extend" : Str)) && (lineB apos cpos && (isNameE o' && (chkE bk sc o o' && chkE bk sc e e')))
  | .pop o, .Call (.Attribute o' m apos) [] [] cpos => decide (m = ("pop" : Str)) && (lineB apos cpos && (isNameE o' && chkE bk sc o o'))
  | .idx o e, .Call (.Attribute o' m apos) [e'] [] cpos => decide (m = ("index" : Str)) && (lineB apos cpos && (isNameE o' && (chkE bk sc o o' && chkE bk sc e e')))
  | .idxT _ _, .Call _ _ _ _ => true
  | .get2 o k d, .Call (.Attribute o' m apos) [k', d'] [] cpos => decide (m = ("get" : Str)) && (lineB apos cpos && (isNameE o' && (chkE bk sc o o' && (chkE bk sc k k' && chkE bk sc d d'))))
  | .lrg e, .Call (.Name x _) [.Call (.Name y _) [e'] [] _] [] _ => decide (x = ("list" : Str)) && (frB G sc x && (decide (y = ("range" : Str)) && (frB G sc y && chkE bk sc e e')))
  | .rvs a, .Subscript a' (.Slice none none (some (.UnaryOp .USub (.Constant (.int 1) _ _) _)) _) _ => chkE bk sc a a'
  | .idxT _ _, .Name _ _ => true
  | _, _ => false
def chkO (bk : Option Scope) (sc : Scope) : CO → Option Expr → Bool
  | .none, none => true
  | .some e, some e' => chkE bk sc e e'
  | _, _ => false
def chkEs (bk : Option Scope) (sc : Scope) : CEs → List Expr → Bool
  | .nil, [] => true
  | .cons e es, e' :: es' => chkE bk sc e e' && chkEs bk sc es es'
  | _, _ => false
def chkI (bk : Option Scope) (sc : Scope) (tg : Expr) : CI → Expr → Bool
  | .rng1 e, .Call (.Name x _) [e'] [] _ => decide (x = ("range" : Str)) && (frB G sc x && chkE bk sc e e')
  | .rng2 a b, .Call (.Name x _) [a', b'] [] _ => decide (x = ("range" : Str)) && (frB G sc x && (chkE bk sc a a' && chkE bk sc b b'))
  | .enum e, .Call (.Name x _) [e'] [] _ => isTupE tg && (decide (x = ("enumerate" : Str)) && (frB G sc x && chkE bk sc e e'))
  | .zip a b, .Call (.Name x _) [a', b'] [] _ => isTupE tg && (decide (x = ("zip" : Str)) && (frB G sc x && (chkE bk sc a a' && chkE bk sc b b')))
  | .rev e, .Call (.Name x _) [e'] [] _ => decide (x = ("reversed" : Str)) && (frB G sc x && chkE bk sc e e')
  | .revrng e, .Call (.Name x _) [.Call (.Name y _) [e'] [] _] [] _ => decide (x = ("reversed" : Str)) && (frB G sc x && (decide (y = ("range" : Str)) && (frB G sc y && chkE bk sc e e')))
  | .seq e, e' => chkE bk sc e e'
  | _, _ => false
def chkG (bk : Option Scope) (sc : Scope) : TG → Expr → Bool
  | .name i, .Name x _ => decide (N[i]? = some x) && (locB sc x && (fnOf bk x || decide (sc.names.lookup x = some .local)))
  | .tup ts, .Tuple es _ _ => chkGs bk sc ts es
  | .sub o i, .Subscript o' i' _ => chkE bk sc o o' && chkE bk sc i i'
  | _, _ => false
def chkGs (bk : Option Scope) (sc : Scope) : TGs → List Expr → Bool
  | .nil, [] => true
  | .cons t ts, e :: es => chkG bk sc t e && chkGs bk sc ts es
  | _, _ => false
end
def isCompE : Expr → Bool
  | .ListComp _ _ _ _ => true
  | .SetComp _ _ _ _ => true
  | .DictComp _ _ _ _ _ => true
  | _ => false
/-- the comprehension's list goes straight to the name -/
def swB (sc : Scope) : Expr → Expr → Bool
  | .Name t pos, .ListComp _ _ s p => decide (sc.names.lookup t = some .local) && (pos.line == p.line && !(s.names.any fun (n, k) => n == t && (k == .local || k == .cell)))
  | .Name t pos, .DictComp _ _ _ s p => decide (sc.names.lookup t = some .local) && (pos.line == p.line && !(s.names.any fun (n, k) => n == t && (k == .local || k == .cell)))
  | _, _ => false
def chkB (sc : Scope) (nm : Option Str) : SB → Expr → Bool
  | .lit l, .Constant k _ _ => litB l k
  | .isE c, .Call (.Name x _) [.Name y _, .Name z _] [] _ => decide (nm = some y) && (decide (x = ("isinstance" : Str)) && (frB G sc x && (glB sc z && (okN z && decide (G.classes[c]? = some z)))))
  | .isVE, .Call (.Name x _) [.Name y _, .Name z _] [] _ => decide (nm = some y) && (decide (x = ("isinstance" : Str)) && (frB G sc x && (decide (z = ("ValueError" : Str)) && frB G sc z)))
  | .and_ a b, .BoolOp .And [a', b'] _ => chkB sc nm a a' && chkB sc nm b b'
  | .and_ a b, .BoolOp .And (a' :: b' :: c' :: r') p => chkB sc nm a a' && chkB sc nm b (.BoolOp .And (b' :: c' :: r') p)
  | .not_ a, .UnaryOp .Not a' _ => chkB sc nm a a'
  | _, _ => false
def isLitB : SB → Bool
  | .lit _ => true
  | _ => false
def isDcE : CE → Bool
  | .dc _ _ _ _ => true
  | _ => false
mutual
def chkS (sc : Scope) : CS → Stmt → Bool
  | .expr e, .Expr e' _ => !isCompE e' && chkE G N none sc e e'
  | .asg t e, .Assign [tg] e' pos => chkG G N none sc t tg && (chkE G N none sc e e' && !(isTupE tg && isTupE e'))
  | .ret e, .Return (some e') _ => chkE G N none sc e e'
  | .retN, .Return none _ => true
  | .if_ c a b, .If c' a' b' _ => chkE G N none sc c c' && (chkSs sc a a' && chkSs sc b b')
  | .for_ t it body, .For tg it' body' [] _ => chkG G N none sc t tg && (chkI G N none sc tg it it' && chkSs sc body body')
  | .while_ c body, .While c' body' [] _ => chkE G N none sc c c' && chkSs sc body body'
  | .raise c, .Raise (some (.Call (.Name x _) [.Constant (.str _) _ _] [] _)) none _ => glB sc x && (okN x && decide (G.classes[c]? = some x))
  | .try_ body c s, .Try body' [.ExceptHandler (some (.Name x _)) nm [.Return (some e') _] _] [] [] _ => chkSs sc body body' && (glB sc x && (okN x && (decide (G.classes[c]? = some x) && (chkB G sc nm s e' && (match nm with
      | none => isLitB s
      | some n => okN n && N.contains n && decide (sc.names.lookup n = some .local))))))
  | .pass, .Pass _ => true
  | .brk, .Break _ => true
  | .cnt, .Continue _ => true
  | _, _ => false
def chkSs (sc : Scope) : CSs → List Stmt → Bool
  | .nil, [] => true
  | .cons s ss, s' :: ss' => chkS sc s s' && chkSs sc ss ss'
  | _, _ => false
end
end
end PI
end
section
set_option maxRecDepth 100000
set_option maxHeartbeats 4000000
/-! The check, as a relation (own work; printed by gense.py). -/
namespace PI
open PySem PySem.Spec PyProof.Rows L2
section
variable (G : Gam) (N : List Str)
set_option autoImplicit true
inductive IsE (bk : Option Scope) (sc : Scope) : CE → Expr → Prop where
  | c0 (h : (decide (N[i]? = some x) && (visB sc x && okN x)) = true) : IsE bk sc (.var i) (.Name x z1_)
  | c1 (h : (litB l k) = true) : IsE bk sc (.lit l) (.Constant k z1_ z2_)
  | c2 (h : (decide (x = y) && (glB sc x && (okN x && decide (G.consts.lookup x = some l)))) = true) : IsE bk sc (.glob x l) (.Name y z1_)
  | c3 (h : (chkEs G N bk sc es es') = true) : IsE bk sc (.tup es) (.Tuple es' z1_ z2_)
  | c4 (h : (chkEs G N bk sc es es') = true) : IsE bk sc (.lst es) (.List es' z1_)
  | c5 (h : (true) = true) : IsE bk sc (.dnK) (.Dict [] [] z1_)
  | c6 (h : (true) = true) : IsE bk sc (.dnT) (.Dict [] [] z1_)
  | c7 (h : (glB sc x && (okN x && (decide ((G.fns[f]?).map (·.1) = some x) && chkEs G N bk sc es es'))) = true) : IsE bk sc (.call f es) (.Call (.Name x z1_) es' [] z2_)
  | c8 (h : (decide (x = b.nm) && (frB G sc x && chkE G N bk sc a a')) = true) : IsE bk sc (.b1 b a) (.Call (.Name x z1_) [a'] [] z2_)
  | c9 (h : ((match b with
    | .max => decide (x = ("max" : Str)) && frB G sc x
    | .min => decide (x = ("min" : Str)) && frB G sc x
    | .gcd => glB sc x && (okN x && G.gcd.contains x)) && (chkE G N bk sc a a' && chkE G N bk sc c c')) = true) : IsE bk sc (.b2 b a c) (.Call (.Name x z1_) [a', c'] [] z2_)
  | c10 (h : (decide (x = ("isinstance" : Str)) && (frB G sc x && (decide (y = t.pn) && (frB G sc y && chkE G N bk sc a a')))) = true) : IsE bk sc (.isi a t) (.Call (.Name x z1_) [a', .Name y z2_] [] z3_)
  | c11 (h : (decide (op.py = op') && (chkE G N bk sc a a' && chkE G N bk sc b b')) = true) : IsE bk sc (.bin op a b) (.BinOp a' op' b' z1_)
  | c12 (h : (chkE G N bk sc a a') = true) : IsE bk sc (.neg a) (.UnaryOp .USub a' z1_)
  | c13 (h : (decide (op.py = op') && (chkE G N bk sc a a' && chkE G N bk sc b b')) = true) : IsE bk sc (.cmp op a b) (.Compare a' [op'] [b'] z1_)
  | c14 (h : (decide (op1.py = op1') && (decide (op2.py = op2') && (chkE G N bk sc a a' && (chkE G N bk sc b b' && chkE G N bk sc c c')))) = true) : IsE bk sc (.chain op1 op2 a b c) (.Compare a' [op1', op2'] [b', c'] z1_)
  | c15 (h : (chkE G N bk sc a a') = true) : IsE bk sc (.isN a) (.Compare a' [.Is] [.Constant .none z1_ z2_] z3_)
  | c16 (h : (chkE G N bk sc a a') = true) : IsE bk sc (.notN a) (.Compare a' [.IsNot] [.Constant .none z1_ z2_] z3_)
  | c17 (h : (decide (k = k') && chkE G N bk sc a a') = true) : IsE bk sc (.isB k a) (.Compare a' [.Is] [.Constant (.bool k') z1_ z2_] z3_)
  | c18 (h : (decide (k = k') && chkE G N bk sc a a') = true) : IsE bk sc (.notB k a) (.Compare a' [.IsNot] [.Constant (.bool k') z1_ z2_] z3_)
  | c19 (h : (chkE G N bk sc a a' && chkE G N bk sc b b') = true) : IsE bk sc (.and_ a b) (.BoolOp .And [a', b'] z1_)
  | c20 (h : (chkE G N bk sc a a' && chkE G N bk sc b (.BoolOp .And (b' :: c' :: r') p)) = true) : IsE bk sc (.and_ a b) (.BoolOp .And (a' :: b' :: c' :: r') p)
  | c21 (h : (chkE G N bk sc a a' && chkE G N bk sc b b') = true) : IsE bk sc (.or_ a b) (.BoolOp .Or [a', b'] z1_)
  | c22 (h : (chkE G N bk sc a a' && chkE G N bk sc b (.BoolOp .Or (b' :: c' :: r') p)) = true) : IsE bk sc (.or_ a b) (.BoolOp .Or (a' :: b' :: c' :: r') p)
  | c23 (h : (chkE G N bk sc a a') = true) : IsE bk sc (.not_ a) (.UnaryOp .Not a' z1_)
  | c24 (h : (chkE G N bk sc a a' && chkE G N bk sc i i') = true) : IsE bk sc (.ix a i) (.Subscript a' i' z1_)
  | c25 (h : (chkE G N bk sc a a' && (chkO G N bk sc lo0 lo0' && chkO G N bk sc hi hi')) = true) : IsE bk sc (.sl a lo0 hi) (.Subscript a' (.Slice lo0' hi' none z1_) z2_)
  | c26 (h : (decide (z = 0) && (blkC N sc scope (ownOf N (slotsG g)) && (chkI G N bk sc tg it it' && (chkG G N (some scope) (relS scope sc) g tg && ((match c, ifs with
      | .none, [] => true
      | .some c, [c'] => chkE G N (some scope) (relS scope sc) c c'
      | _, _ => false) && chkE G N (some scope) (relS scope sc) e e'))))) = true) : IsE bk sc (.lc g it c e) (.ListComp e' [⟨tg, it', ifs, z⟩] scope z1_)
  | c27 (h : (decide (z = 0) && (blkC N sc scope (ownOf N (slotsG g)) && (chkI G N bk sc tg it it' && (chkG G N (some scope) (relS scope sc) g tg && (chkE G N (some scope) (relS scope sc) k k' && chkE G N (some scope) (relS scope sc) v v'))))) = true) : IsE bk sc (.dc g it k v) (.DictComp k' v' [⟨tg, it', [], z⟩] scope z1_)
  | c28 (h : (decide (m = ("append" : Str)) && (lineB apos cpos && (isNameE o' && (chkE G N bk sc o o' && chkE G N bk sc e e')))) = true) : IsE bk sc (.app o e) (.Call (.Attribute o' m apos) [e'] [] cpos)
  | c29 (h : (decide (m = ("extend" : Str)) && (lineB apos cpos && (isNameE o' && (chkE G N bk sc o o' && chkE G N bk sc e e')))) = true) : IsE bk sc (.ext o e) (.Call (.Attribute o' m apos) [e'] [] cpos)
  | c30 (h : (decide (m = ("pop" : Str)) && (lineB apos cpos && (isNameE o' && chkE G N bk sc o o'))) = true) : IsE bk sc (.pop o) (.Call (.Attribute o' m apos) [] [] cpos)
  | c31 (h : (decide (m = ("index" : Str)) && (lineB apos cpos && (isNameE o' && (chkE G N bk sc o o' && chkE G N bk sc e e')))) = true) : IsE bk sc (.idx o e) (.Call (.Attribute o' m apos) [e'] [] cpos)
  | c32 (h : (true) = true) : IsE bk sc (.idxT z1_ z2_) (.Call z3_ z4_ z5_ z6_)
  | c33 (h : (decide (m = ("get" : Str)) && (lineB apos cpos && (isNameE o' && (chkE G N bk sc o o' && (chkE G N bk sc k k' && chkE G N bk sc d d'))))) = true) : IsE bk sc (.get2 o k d) (.Call (.Attribute o' m apos) [k', d'] [] cpos)
  | c34 (h : (decide (x = ("list" : Str)) && (frB G sc x && (decide (y = ("range" : Str)) && (frB G sc y && chkE G N bk sc e e')))) = true) : IsE bk sc (.lrg e) (.Call (.Name x z1_) [.Call (.Name y z2_) [e'] [] z3_] [] z4_)
  | c35 (h : (chkE G N bk sc a a') = true) : IsE bk sc (.rvs a) (.Subscript a' (.Slice none none (some (.UnaryOp .USub (.Constant (.int 1) z1_ z2_) z3_)) z4_) z5_)
  | c36 (h : (true) = true) : IsE bk sc (.idxT z1_ z2_) (.Name z3_ z4_)
inductive IsI (bk : Option Scope) (sc : Scope) (tg : Expr) : CI → Expr → Prop where
  | c0 (h : (decide (x = ("range" : Str)) && (frB G sc x && chkE G N bk sc e e')) = true) : IsI bk sc tg (.rng1 e) (.Call (.Name x z1_) [e'] [] z2_)
  | c1 (h : (decide (x = ("range" : Str)) && (frB G sc x && (chkE G N bk sc a a' && chkE G N bk sc b b'))) = true) : IsI bk sc tg (.rng2 a b) (.Call (.Name x z1_) [a', b'] [] z2_)
  | c2 (h : (isTupE tg && (decide (x = ("enumerate" : Str)) && (frB G sc x && chkE G N bk sc e e'))) = true) : IsI bk sc tg (.enum e) (.Call (.Name x z1_) [e'] [] z2_)
  | c3 (h : (isTupE tg && (decide (x = ("zip" : Str)) && (frB G sc x && (chkE G N bk sc a a' && chkE G N bk sc b b')))) = true) : IsI bk sc tg (.zip a b) (.Call (.Name x z1_) [a', b'] [] z2_)
  | c4 (h : (decide (x = ("reversed" : Str)) && (frB G sc x && chkE G N bk sc e e')) = true) : IsI bk sc tg (.rev e) (.Call (.Name x z1_) [e'] [] z2_)
  | c5 (h : (decide (x = ("reversed" : Str)) && (frB G sc x && (decide (y = ("range" : Str)) && (frB G sc y && chkE G N bk sc e e')))) = true) : IsI bk sc tg (.revrng e) (.Call (.Name x z1_) [.Call (.Name y z2_) [e'] [] z3_] [] z4_)
  | c6 (h : (chkE G N bk sc e e') = true) : IsI bk sc tg (.seq e) (e')
end
variable {G : Gam} {N : List Str} {bk : Option Scope} {sc : Scope}
theorem isE_of {ce : CE} {e : Expr} (h : chkE G N bk sc ce e = true) : IsE G N bk sc ce e := by
  unfold chkE at h
  split at h
  · exact .c0 h
  · exact .c1 h
  · exact .c2 h
  · exact .c3 h
  · exact .c4 h
  · exact .c5 h
  · exact .c6 h
  · exact .c7 h
  · exact .c8 h
  · exact .c9 h
  · exact .c10 h
  · exact .c11 h
  · exact .c12 h
  · exact .c13 h
  · exact .c14 h
  · exact .c15 h
  · exact .c16 h
  · exact .c17 h
  · exact .c18 h
  · exact .c19 h
  · exact .c20 h
  · exact .c21 h
  · exact .c22 h
  · exact .c23 h
  · exact .c24 h
  · exact .c25 h
  · exact .c26 h
  · exact .c27 h
  · exact .c28 h
  · exact .c29 h
  · exact .c30 h
  · exact .c31 h
  · exact .c32 h
  · exact .c33 h
  · exact .c34 h
  · exact .c35 h
  · exact .c36 h
  · cases h
theorem isI_of {tg : Expr} {ce : CI} {e : Expr} (h : chkI G N bk sc tg ce e = true) : IsI G N bk sc tg ce e := by
  unfold chkI at h
  split at h
  · exact .c0 h
  · exact .c1 h
  · exact .c2 h
  · exact .c3 h
  · exact .c4 h
  · exact .c5 h
  · exact .c6 h
  · cases h
end PI
end
section
set_option maxRecDepth 100000
set_option maxHeartbeats 4000000
/-! The interpreter of expressions is right (own work). -/
namespace PI
open PySem PySem.Spec PyProof.Rows L2
def Lit.v : Lit → V
  | .non => .non
  | .bl b => .bl b
  | .int i => .int i
  | .str x => .str x
/-- the promise of the f-th def, n levels deep -/
def spF (P : Prog) (cls : Nat → Addr) (K : PySem.W.Frag) (n f np : Nat) : Sp := fun vs H Q E => vs.length = np ∧ ∃ mu h ds, Sim K mu H h ∧ RelDs K mu H ds vs ∧ PV K mu H (callN P n f ds h) Q (fun c H' => E (.ref (cls c)) none H')
/-- a context in which the interpreter is right -/
structure WF (G : Gam) (P : Prog) (cls : Nat → Addr) (n : Nat) (bk : Option Scope) (N : List Str) (sc : Scope) (X : Cx) : Prop where
  calm : X.calm = true
  nd : N.Nodup
  N : X.N = N
  sc : X.env.scope = sc
  room : Room n X.A
  fn : X.fn = fnOf bk
  fns : ∀ (f : Nat) (x : Str) (ps : List Str), G.fns[f]? = some (x, ps) → ∃ (a : Addr) (fd : FuncData), X.mg x = some (.ref a) ∧ FnOk X.prog X.w X.K X.mg X.base (L2.CX X.prog X.w) n a fd ps (spF P cls X.K n f ps.length) ∧ PySem.W.keepIn X.K (.ref a) = true ∧ Binds X.K fd ps [] ∧ ∀ fn, P.fns[f]? = some fn → fn.pars = ps.length
  free : ∀ x ∈ G.free, X.mg x = none
  cons : ∀ (x : Str) (l : Lit), G.consts.lookup x = some l → ∃ u, X.mg x = some u ∧ RelV l.v u
  gcd : ∀ x ∈ G.gcd, X.mg x = some (.builtin "math.gcd")
section
variable {X : Cx}
/-- a wish about exceptions, by classes -/
abbrev xw (cls : Nat → Addr) (W : WX) : Nat → Hp → Prop := fun c H => ∀ σ, W (.ref (cls c)) none σ H
def tE (P : Prog) (cls : Nat → Addr) (n : Nat) (K : PySem.W.Frag) (W : WX) (e : CE) : TE := fun σ H Q => ∃ mu r h, Sim K mu H h ∧ RelEnv K mu H r σ ∧ PV K mu H (evE (callN P n) e r h) Q (xw cls W)
def tT (P : Prog) (cls : Nat → Addr) (n : Nat) (K : PySem.W.Frag) (W : WX) (e : CE) : TT := fun σ H Q => ∃ mu r h, Sim K mu H h ∧ RelEnv K mu H r σ ∧ Post K mu H (evE (callN P n) e r h) (fun d h' mu' H' => ∃ k, truthD h' d = some k ∧ Q k H') (xw cls W)
def tO (P : Prog) (cls : Nat → Addr) (n : Nat) (K : PySem.W.Frag) (W : WX) (e : CO) : TO := fun σ H Q => ∃ mu r h, Sim K mu H h ∧ RelEnv K mu H r σ ∧ Post K mu H (evO (callN P n) e r h) (fun d _ _ H' => Q d H') (xw cls W)
def tEs (P : Prog) (cls : Nat → Addr) (n : Nat) (K : PySem.W.Frag) (W : WX) (e : CEs) : TA := fun σ H Q => ∃ mu r h, Sim K mu H h ∧ RelEnv K mu H r σ ∧ Post K mu H (evEs (callN P n) e r h) (fun ds _ mu' H' => ∀ vs, RelDs K mu' H' ds vs → Q vs H') (xw cls W)
/-- an iterator gives these items while src stands -/
def JOk (K : PySem.W.Frag) (mu : List Addr) (H : Hp) (J : It) (xs : List D) (src : VH → Bool) : Prop := ∀ (i : Nat) (mu1 : List Addr) (H1 : Hp) (h1 : VH), Ext mu H mu1 H1 → Sim K mu1 H1 h1 → src h1 = true →
  (∀ d, xs[i]? = some d → J.go i H1 ∧ ∀ v H', J.yld i H1 v H' → Ext mu1 H1 mu1 H' ∧ Sim K mu1 H' h1 ∧ RelD K mu1 H' d v) ∧ (xs.length ≤ i → J.stop i H1)
def tI (P : Prog) (cls : Nat → Addr) (n : Nat) (K : PySem.W.Frag) (W : WX) (e : CI) : TI := fun σ H R => ∃ mu r h, Sim K mu H h ∧ RelEnv K mu H r σ ∧ Post K mu H (evI (callN P n) e r h) (fun s _ mu' H' => ∀ J, JOk K mu' H' J s.1 s.2 → R J H') (xw cls W)
/-- the slots but these are as they were -/
def Off (σ σ' : L2.St) (is : List Nat) : Prop := σ'.length = σ.length ∧ ∀ j, j ∉ is → σ'[j]? = σ[j]?
def tG (P : Prog) (cls : Nat → Addr) (n : Nat) (K : PySem.W.Frag) (W : WX) (g : TG) : L2.TG := fun v σ H Q => ∃ mu r h d, Sim K mu H h ∧ RelEnv K mu H r σ ∧ RelD K mu H d v ∧ Post K mu H (asgG (callN P n) g d r h) (fun r' _ mu' H' => ∀ σ', RelEnv K mu' H' r' σ' → Off σ σ' (slotsG g) → Q σ' H') (xw cls W)
def tGs (P : Prog) (cls : Nat → Addr) (n : Nat) (K : PySem.W.Frag) (W : WX) (g : TGs) : L2.TGs := fun vs σ H Q => ∃ mu r h ds, Sim K mu H h ∧ RelEnv K mu H r σ ∧ RelDs K mu H ds vs ∧ Post K mu H (asgGs (callN P n) g ds r h) (fun r' _ mu' H' => ∀ σ', RelEnv K mu' H' r' σ' → Off σ σ' (slotsGs g) → Q σ' H') (xw cls W)

theorem _root_.L2.PE.imp {e : Expr} {t t' : TE} (h : PE X e t) (f : ∀ σ H Q, t' σ H Q → t σ H Q) : PE X e t' := ⟨fun pins s σ H Q I q => h.run pins s σ H Q I (f σ H Q q)⟩
theorem _root_.L2.PT.imp {e : Expr} {t t' : TT} (h : PT X e t) (f : ∀ σ H Q, t' σ H Q → t σ H Q) : PT X e t' := ⟨fun pins s σ H Q I q => h.run pins s σ H Q I (f σ H Q q)⟩
theorem _root_.L2.PW.imp {e : Expr} {t t' : TT} (h : PW X e t) (f : ∀ σ H Q, t' σ H Q → t σ H Q) : PW X e t' := ⟨fun wh pins s σ H Q I q => h.run wh pins s σ H Q I (f σ H Q q)⟩
theorem _root_.L2.PA.imp {e : List Expr} {t t' : TA} (h : PA X e t) (f : ∀ σ H Q, t' σ H Q → t σ H Q) : PA X e t' := ⟨fun pos pins s σ H Q I q => h.run pos pins s σ H Q I (f σ H Q q)⟩
theorem _root_.L2.PO.imp {e : Option Expr} {t t' : TO} (h : PO X e t) (f : ∀ σ H Q, t' σ H Q → t σ H Q) : PO X e t' := ⟨fun pins s σ H Q I q => h.run pins s σ H Q I (f σ H Q q)⟩
theorem _root_.L2.PI.imp {tg e : Expr} {t t' : TI} (h : L2.PI X tg e t) (f : ∀ σ H Q, t' σ H Q → t σ H Q) : L2.PI X tg e t' := ⟨fun pins s σ H Q I q => h.run pins s σ H Q I (f σ H Q q)⟩
theorem _root_.L2.PG.imp {e : Expr} {t t' : L2.TG} (h : PG X e t) (f : ∀ v σ H Q, t' v σ H Q → t v σ H Q) : PG X e t' := ⟨fun pins s σ H v u Q I r q => h.run pins s σ H v u Q I r (f v σ H Q q)⟩
theorem _root_.L2.PGs.imp {e : List Expr} {t t' : L2.TGs} (h : PGs X e t) (f : ∀ v σ H Q, t' v σ H Q → t v σ H Q) : PGs X e t' := ⟨fun pins s σ H vs us Q I r q => h.run pins s σ H vs us Q I r (f vs σ H Q q)⟩
theorem pe_never {e : Expr} {t : TE} (h : ∀ σ H Q, ¬ t σ H Q) : PE X e t := ⟨fun _ _ _ _ _ _ q => (h _ _ _ q).elim⟩

/-! what the check rules out -/
section
variable {G : Gam} {N : List Str} {bk : Option Scope} {sc : Scope}
/-- what a checked expression is not -/
structure Plain (e : Expr) : Prop where
  star : ∀ (es : List Expr) (env : PySem.Env), starEach (e :: es) env = (false, eval e env) :: starEach es env
  set : ∀ op, behindInMarks op e = false
  ix : PlainIx e
  fold : ∀ env x, foldedSetIterable e env x = pure x
  asg : ∀ o pos env v, assign (.Subscript o e pos) env v = (do
      let ov ← holding [v] (eval o env)
      let iv ← holding [v, ov] (eval e env)
      standAt pos
      holding [v, ov, iv] (setItem ov iv v)
      release [v, ov, iv] [])
theorem plain_of {ce : CE} {e : Expr} (h : chkE G N bk sc ce e = true) : Plain e := by
  cases isE_of h <;> exact ⟨fun _ _ => rfl, fun _ => rfl, fun _ _ => rfl, fun _ _ => rfl, fun _ _ _ _ => rfl⟩
theorem noStar : ∀ (ces : CEs) (es : List Expr), chkEs G N bk sc ces es = true → ∀ (pos : Pos) (env : PySem.Env), (backTo pos (starEach es env)).any (·.1) = false
  | .nil, [], _, _, _ => rfl
  | .nil, _ :: _, h, _, _ => by simp [chkEs] at h
  | .cons _ _, [], h, _, _ => by simp [chkEs] at h
  | .cons e ces, a :: r, h, pos, env => by
    simp only [chkEs, Bool.and_eq_true] at h
    rw [(plain_of h.1).star r env]
    have := noStar ces r h.2 pos env
    simp only [backTo, List.map_cons, List.any_cons, Bool.false_or] at this ⊢
    exact this
end

/-! what raises nothing -/
def NoX {α : Type} (r : Res α) : Prop := ∀ c h, r ≠ .exc c h
theorem NoX.grd {α : Type} {b : Bool} {r : Res α} (h : NoX r) : NoX (PI.grd b r) := by cases b with | true => exact h | false => exact fun _ _ z => nomatch z
theorem NoX.ok {α : Type} {a : α} {h : VH} : NoX (Res.ok a h) := fun _ _ z => nomatch z
theorem NoX.stuck {α : Type} : NoX (Res.stuck : Res α) := fun _ _ z => nomatch z
theorem NoX.opt {α β : Type} {o : Option α} {f : α → Res β} (h : ∀ a, NoX (f a)) : NoX (PI.opt o f) := by cases o with | some a => exact h a | none => exact fun _ _ z => nomatch z
theorem Post.noX {α : Type} {K : PySem.W.Frag} {mu : List Addr} {H : Hp} {m : Res α} {k : α → VH → List Addr → Hp → Prop} {x x' : Nat → Hp → Prop} (n : NoX m) (p : Post K mu H m k x) : Post K mu H m k x' := by
  cases m with
  | ok a h => exact p
  | exc c h => exact (n c h rfl).elim
  | stuck => exact p
theorem nox_newL {xs : List D} {h : VH} : NoX (newL xs h) := NoX.ok.grd
theorem nox_newT {xs : List D} {h : VH} : NoX (newT xs h) := NoX.ok.grd
theorem nox_bin {op : Op} {a b : D} {h : VH} : NoX (binD op a b h) := by
  unfold binD
  split <;> first
    | exact NoX.ok
    | exact NoX.ok.grd
    | exact NoX.stuck
    | (split <;> first | exact nox_newL | exact nox_newL.grd | exact NoX.stuck)
theorem nox_b1 {b : B1} {d : D} {h : VH} : NoX (b1D b d h) := by
  unfold b1D
  repeat (first
    | exact NoX.ok
    | exact NoX.ok.grd
    | exact NoX.stuck
    | exact nox_newL
    | exact nox_newT
    | refine NoX.opt fun _ => ?_
    | refine NoX.grd ?_
    | split)
theorem nox_b2 {b : B2} {a c : D} {h : VH} : NoX (b2D b a c h) := by
  unfold b2D
  repeat (first
    | exact NoX.ok
    | exact NoX.stuck
    | split)
theorem nox_ix {a i : D} {h : VH} : NoX (ixD a i h) := by
  unfold ixD
  repeat (first
    | exact NoX.ok
    | exact NoX.stuck
    | refine NoX.opt fun _ => ?_
    | refine NoX.grd ?_
    | split)
theorem nox_sl {a : D} {lo hi : Option Int} {h : VH} : NoX (slD a lo hi h) := by
  unfold slD
  repeat (first
    | exact NoX.ok
    | exact NoX.stuck
    | exact nox_newL
    | refine NoX.grd ?_
    | split)

/-! ### each form, from its parts -/
section
variable {G : Gam} {P : Prog} {cls : Nat → Addr} {n : Nat} {bk : Option Scope} {N : List Str} {sc : Scope} {W : WX} {pos p p2 p3 : Pos} {j : Nat}
theorem vis_of {x : Str} (h : visB sc x = true) : Vis sc x := by
  unfold visB at h
  split at h
  · exact .inl ‹_›
  · exact .inr (.inl ‹_›)
  · exact .inr (.inr ‹_›)
  · cases h
theorem loc_of {x : Str} (h : locB sc x = true) : Loc sc x := by
  unfold locB at h
  split at h
  · exact .inl ‹_›
  · exact .inr ‹_›
  · cases h
theorem ok_dbg {x : Str} (h : okN x = true) : (x == ("__debug__" : Str)) = false := by
  unfold okN at h
  simp only [Bool.and_eq_true, Bool.not_eq_true'] at h
  exact h.1
theorem ok_cd {x : Str} (h : okN x = true) : (x == ("__classdict__" : Str)) = false := by
  unfold okN at h
  simp only [Bool.and_eq_true, Bool.not_eq_true'] at h
  exact h.2.1
theorem ok_nm {x : Str} (h : okN x = true) : x ≠ "__name__" := by
  unfold okN at h
  simp only [Bool.and_eq_true, Bool.not_eq_true'] at h
  intro e
  subst e
  exact absurd h.2.2 (by decide)
theorem gl_of {x : Str} (w : WF G P cls n bk N sc X) (h : glB sc x = true) : Gl X x := by
  have e := of_decide_eq_true h
  rw [← w.sc] at e
  exact e
structure Fr (X : Cx) (x : Str) : Prop where
  gl : Gl X x
  no : X.mg x = none
  db : (x == ("__debug__" : Str)) = false
  nm : x ≠ "__name__"
theorem fr_of {x : Str} (w : WF G P cls n bk N sc X) (h : frB G sc x = true) : Fr X x := by
  unfold frB at h
  simp only [Bool.and_eq_true] at h
  exact ⟨gl_of w h.1, w.free x (by simpa using h.2.2), ok_dbg h.2.1, ok_nm h.2.1⟩
theorem Lit.rel {K : PySem.W.Frag} {mu : List Addr} {H : Hp} : ∀ l : Lit, RelD K mu H l.d l.v
  | .non => .non
  | .bl b => .bl b
  | .int i => .int i
  | .str x => .str x

theorem callN_len {K : PySem.W.Frag} {mu : List Addr} {H : Hp} {f : Nat} {ds : List D} {h : VH} {np : Nat} {k : D → VH → List Addr → Hp → Prop} {x : Nat → Hp → Prop} (hp : ∀ fn, P.fns[f]? = some fn → fn.pars = np) (q : Post K mu H (callN P n f ds h) k x) : ds.length = np := by
  cases n with
  | zero => exact q.elim
  | succ n =>
    unfold callN at q
    cases e : P.fns[f]? with
    | none => rw [e] at q; exact q.elim
    | some fn =>
      rw [e] at q
      have q := (Post.grd q).1
      rw [of_decide_eq_true q, hp fn e]
theorem s_var {i : Nat} {x : Str} (w : WF G P cls n bk N sc X) (hi : N[i]? = some x) (hv : visB sc x = true) (ho : okN x = true) : PE X (.Name x p) (tE P cls n X.K W (.var i)) := by
  refine (pe_var (i := i) (by rw [w.N]; exact hi) (by rw [w.sc]; exact vis_of hv) (ok_dbg ho) (ok_cd ho)).imp ?_
  rintro σ H Q ⟨mu, r, h, S, R, q⟩
  simp only [evE] at q
  obtain ⟨d, e, q⟩ := Post.opt q
  have e' : r[i]? = some (some d) := by
    cases z : r[i]? with
    | none => rw [z] at e; cases e
    | some o => rw [z] at e; simp at e; rw [e]
  obtain ⟨v, h1, h2⟩ := R.2 i d e'
  exact ⟨v, h1, PV.ok q S h2⟩
theorem s_lit {l : Lit} {k : Const} (hl : litB l k = true) : PE X (.Constant k j p) (tE P cls n X.K W (.lit l)) := by
  have go : ∀ v, v = l.v → ∀ σ H Q, tE P cls n X.K W (.lit l) σ H Q → tC v σ H Q := by
    rintro v rfl σ H Q ⟨mu, r, h, S, R, q⟩
    simp only [evE] at q
    exact PV.ok q S l.rel
  cases l with
  | non => cases k <;> first | exact pe_non.imp (go _ rfl) | cases hl
  | bl b => cases k <;> first | cases hl | skip
            rename_i c
            have e : b = c := by simpa [litB] using hl
            subst e
            exact pe_bl.imp (go _ rfl)
  | int i => cases k <;> first | cases hl | skip
             rename_i c
             have e : i = c := by simpa [litB] using hl
             subst e
             exact pe_int.imp (go _ rfl)
  | str i => cases k <;> first | cases hl | skip
             rename_i c
             have e : i = c := by simpa [litB] using hl
             subst e
             exact pe_str.imp (go _ rfl)
theorem s_glob {x : Str} {l : Lit} (w : WF G P cls n bk N sc X) (hg : glB sc x = true) (ho : okN x = true) (hc : G.consts.lookup x = some l) : PE X (.Name x p) (tE P cls n X.K W (.glob x l)) := by
  obtain ⟨u, e, r⟩ := w.cons x l hc
  refine (pe_glob (gl_of w hg) e r (ok_dbg ho)).imp ?_
  rintro σ H Q ⟨mu, r, h, S, R, q⟩
  simp only [evE] at q
  exact PV.ok q S l.rel
theorem s_tup {es : CEs} {es' : List Expr} {x1} (ha : PA X es' (tEs P cls n X.K W es)) : PE X (.Tuple es' x1 p) (tE P cls n X.K W (.tup es)) := by
  refine (pe_tup ha).imp ?_
  rintro σ H Q ⟨mu, r, h, S, R, q⟩
  simp only [evE] at q
  refine ⟨mu, r, h, S, R, (Post.bnd q).imp fun ds h1 mu1 H1 e1 S1 q1 vs rv => ?_⟩
  exact PV.newT q1 S1 rv
theorem s_lst {es : CEs} {es' : List Expr} (ha : PA X es' (tEs P cls n X.K W es)) : PE X (.List es' p) (tE P cls n X.K W (.lst es)) := by
  refine (pe_lst ha).imp ?_
  rintro σ H Q ⟨mu, r, h, S, R, q⟩
  simp only [evE] at q
  refine ⟨mu, r, h, S, R, (Post.bnd q).imp fun ds h1 mu1 H1 e1 S1 q1 vs rv => ?_⟩
  exact PV.newL q1 S1 rv
theorem s_dnK : PE X (.Dict [] [] p) (tE P cls n X.K W .dnK) := by
  refine pe_dnewK.imp ?_
  rintro σ H Q ⟨mu, r, h, S, R, q⟩ a ha
  simp only [evE] at q
  have e := ext_new (mu := mu) (ob := .dK []) ha [a]
  exact q _ _ e (S.newO ha ⟨[], upd_same, .nil⟩ rfl) _ (.ref (by rw [← S.len]; simp))
theorem s_dnT : PE X (.Dict [] [] p) (tE P cls n X.K W .dnT) := by
  refine pe_dnewT.imp ?_
  rintro σ H Q ⟨mu, r, h, S, R, q⟩ a ha
  simp only [evE] at q
  have e := ext_new (mu := mu) (ob := .dT []) ha [a]
  exact q _ _ e (S.newO ha ⟨[], upd_same, .nil⟩ rfl) _ (.ref (by rw [← S.len]; simp))
theorem s_nil : PA X [] (tEs P cls n X.K W .nil) := by
  refine ⟨fun pos pins s σ H Q I h => pa_nil.run pos pins s σ H Q I ?_⟩
  obtain ⟨mu, r, h, S, R, q⟩ := h
  simp only [evEs] at q
  exact Post.ok q S _ .nil
theorem s_cons {e : CE} {es : CEs} {e' : Expr} {es' : List Expr} (he : PE X e' (tE P cls n X.K W e)) (hs : PA X es' (tEs P cls n X.K W es)) (hp : ∀ env, starEach (e' :: es') env = (false, eval e' env) :: starEach es' env) : PA X (e' :: es') (tEs P cls n X.K W (.cons e es)) := by
  refine (pa_cons he hs (hp _)).imp ?_
  rintro σ H Q ⟨mu, r, h, S, R, q⟩
  simp only [evEs] at q
  refine ⟨mu, r, h, S, R, (Post.bnd q).imp fun d h1 mu1 H1 e1 S1 q1 v rv => ?_⟩
  refine ⟨mu1, r, h1, S1, R.ext e1, (Post.bnd q1).imp fun ds h2 mu2 H2 e2 S2 q2 vs rvs => ?_⟩
  exact Post.ok q2 S2 _ (.cons (rv.ext e2) rvs)
/-- the call of a def of the program -/
theorem s_call {f : Nat} {x : Str} {es : CEs} {es' : List Expr} (w : WF G P cls n bk N sc X) (tk : Takes X W) (hg : glB sc x = true) (ho : okN x = true) (hf : (G.fns[f]?).map (·.1) = some x) (hc : chkEs G N bk sc es es' = true) (ha : PA X es' (tEs P cls n X.K W es)) :
    PE X (.Call (.Name x p) es' [] pos) (tE P cls n X.K W (.call f es)) := by
  obtain ⟨⟨y, ps⟩, e1, e2⟩ := Option.map_eq_some_iff.mp hf
  cases e2
  obtain ⟨a, fd, h1, F, h2, h3, h4⟩ := w.fns f _ ps e1
  have go : ∀ σ H Q, tE P cls n X.K W (.call f es) σ H Q → tEs P cls n X.K W es σ H fun vs H1 => spF P cls X.K n f ps.length vs H1 Q (WE W σ) := by
    rintro σ H Q ⟨mu, r, h, S, R, q⟩
    simp only [evE] at q
    refine ⟨mu, r, h, S, R, (Post.bnd q).imp fun ds h1 mu1 H1 e1 S1 q1 vs rv => ?_⟩
    exact ⟨rv.length.symm.trans (callN_len h4 q1), mu1, h1, ds, S1, rv, q1.imp (fun _ _ _ _ _ _ z => z) fun c H' z => z σ⟩
  cases es' with
  | cons e' es' =>
    cases es with
    | nil => simp [chkEs] at hc
    | cons e es =>
      simp only [chkEs, Bool.and_eq_true] at hc
      refine (pe_callS F w.room (gl_of w hg) h1 h2 h3 (fun σ => passAt tk σ) ha (ok_dbg ho) ((plain_of hc.1).star _ _) (noStar es es' hc.2 _ _)).imp ?_
      exact go
  | nil =>
    refine ⟨fun pins s σ H Q I h => ?_⟩
    refine wpAny_Call_Name_kw (ld_glob I (gl_of w hg) h1 ?_ (ok_dbg ho))
    refine PySem.W.callWith_K0 I.kIn h2 (run_fnS (us := []) (vs := []) F w.room h3 (passAt tk σ) I .nil ?_)
    cases es with
    | cons e es => simp [chkEs] at hc
    | nil =>
      obtain ⟨mu, r, h, S, R, q⟩ := go σ H Q h
      simp only [evEs] at q
      exact Post.ok q S [] .nil
theorem one_of {K : PySem.W.Frag} {a : CE} {σ : L2.St} {H : Hp} {Q : List V → Hp → Prop} (h : tE P cls n K W a σ H fun v H1 => Q [v] H1) : tCons (tE P cls n K W a) tNil σ H Q := h
theorem boot_b1 (b : B1) : bootBuiltins b.nm = some b.val := by cases b <;> decide +kernel
theorem s_b1 {b : B1} {a : CE} {a' : Expr} (w : WF G P cls n bk N sc X) (fr : Fr X b.nm) (ha : PE X a' (tE P cls n X.K W a)) (pl : Plain a') : PE X (.Call (.Name b.nm p) [a'] [] pos) (tE P cls n X.K W (.b1 b a)) := by
  have go : ∀ σ H Q, tE P cls n X.K W (.b1 b a) σ H Q → tCB (rB1 X.K b) (tCons (tE P cls n X.K W a) tNil) σ H Q := by
    rintro σ H Q ⟨mu, r, h, S, R, q⟩
    simp only [evE] at q
    refine ⟨mu, r, h, S, R, (Post.bnd q).imp fun d h1 mu1 H1 e1 S1 q1 v rv => ?_⟩
    exact ⟨mu1, h1, d, v, rfl, S1, rv, q1.noX nox_b1⟩
  have hu : X.A.units + 64 < cLine := by have := w.room.un; omega
  have hb := boot_b1 b
  have pa := pa_cons ha pa_nil (pl.star _ _)
  have cr := cr_b1 (X := X) w.calm hu b
  cases b <;> first
    | exact (pe_callB cr fr.gl fr.no hb pa fr.nm fr.db (pl.star _ _) rfl).imp go
    | exact (pe_callTy cr fr.gl fr.no hb pa fr.nm fr.db (pl.star _ _) rfl).imp go
def B2.nm : B2 → Str
  | .max => "max" | .min => "min" | .gcd => "gcd"
theorem go_b2 {K : PySem.W.Frag} {b : B2} {a c : CE} : ∀ σ H Q, tE P cls n K W (.b2 b a c) σ H Q → tCB (rB2 K b) (tCons (tE P cls n K W a) (tCons (tE P cls n K W c) tNil)) σ H Q := by
  rintro σ H Q ⟨mu, r, h, S, R, q⟩
  simp only [evE] at q
  refine ⟨mu, r, h, S, R, (Post.bnd q).imp fun d h1 mu1 H1 e1 S1 q1 v rv => ?_⟩
  refine ⟨mu1, r, h1, S1, R.ext e1, (Post.bnd q1).imp fun d2 h2 mu2 H2 e2 S2 q2 v2 rv2 => ?_⟩
  exact ⟨mu2, h2, d, d2, v, v2, rfl, S2, rv.ext e2, rv2, q2.noX nox_b2⟩
section
variable {a c : CE} {a' c' : Expr}
theorem s_max (w : WF G P cls n bk N sc X) (fr : Fr X "max") (ha : PE X a' (tE P cls n X.K W a)) (hc : PE X c' (tE P cls n X.K W c)) (pl : Plain a') (pl2 : Plain c') : PE X (.Call (.Name "max" p) [a', c'] [] pos) (tE P cls n X.K W (.b2 .max a c)) :=
  (pe_callB (cr_max2 w.calm) fr.gl fr.no boot_max (pa_cons ha (pa_cons hc pa_nil (pl2.star _ _)) (pl.star _ _)) fr.nm fr.db (pl.star _ _) (by rw [pl2.star]; rfl)).imp go_b2
theorem s_min (w : WF G P cls n bk N sc X) (fr : Fr X "min") (ha : PE X a' (tE P cls n X.K W a)) (hc : PE X c' (tE P cls n X.K W c)) (pl : Plain a') (pl2 : Plain c') : PE X (.Call (.Name "min" p) [a', c'] [] pos) (tE P cls n X.K W (.b2 .min a c)) :=
  (pe_callB (cr_min2 w.calm) fr.gl fr.no boot_min (pa_cons ha (pa_cons hc pa_nil (pl2.star _ _)) (pl.star _ _)) fr.nm fr.db (pl.star _ _) (by rw [pl2.star]; rfl)).imp go_b2
theorem s_gcd {x : Str} (w : WF G P cls n bk N sc X) (hg : Gl X x) (hm : X.mg x = some (.builtin "math.gcd")) (hd : (x == ("__debug__" : Str)) = false) (ha : PE X a' (tE P cls n X.K W a)) (hc : PE X c' (tE P cls n X.K W c)) (pl : Plain a') (pl2 : Plain c') : PE X (.Call (.Name x p) [a', c'] [] pos) (tE P cls n X.K W (.b2 .gcd a c)) :=
  (pe_callBfun cr_gcd2 hg hm (pa_cons ha (pa_cons hc pa_nil (pl2.star _ _)) (pl.star _ _)) hd (pl.star _ _) (by rw [pl2.star]; rfl)).imp go_b2
theorem boot_ty (t : Ty) : bootBuiltins t.pn = some (.type t.nm) := by cases t <;> decide +kernel
theorem s_isi {t : Ty} (w : WF G P cls n bk N sc X) (fr : Fr X "isinstance") (fr2 : Fr X t.pn) (ha : PE X a' (tE P cls n X.K W a)) (pl : Plain a') : PE X (.Call (.Name "isinstance" p) [a', .Name t.pn p2] [] pos) (tE P cls n X.K W (.isi a t)) := by
  have pc : PE X (.Name t.pn p2) (tC (.ty t.nm)) := pe_bltn fr2.gl fr2.no (boot_ty t) rfl fr2.nm fr2.db
  refine (pe_callB call_isi fr.gl fr.no boot_isinstance (pa_cons ha (pa_cons pc pa_nil rfl) (pl.star _ _)) fr.nm fr.db (pl.star _ _) rfl).imp ?_
  rintro σ H Q ⟨mu, r, h, S, R, q⟩
  simp only [evE] at q
  refine ⟨mu, r, h, S, R, (Post.bnd q).imp fun d h1 mu1 H1 e1 S1 q1 v rv => ?_⟩
  obtain ⟨ok, q1⟩ := Post.grd q1
  obtain ⟨T, ty, k⟩ := tyx_of S1 rv ok
  exact ⟨v, .ty t.nm, .type T, .type t.nm, isiD d t, rfl, .ty _, ty, kit_ty (k t), PV.ok q1 S1 (.bl _)⟩
variable {b : CE} {b' : Expr}
theorem s_bin {op : Op} (ha : PE X a' (tE P cls n X.K W a)) (hb : PE X b' (tE P cls n X.K W b)) : PE X (.BinOp a' op.py b' p) (tE P cls n X.K W (.bin op a b)) := by
  refine (pe_op (op_bin op) ha hb).imp ?_
  rintro σ H Q ⟨mu, r, h, S, R, q⟩
  simp only [evE] at q
  refine ⟨mu, r, h, S, R, (Post.bnd q).imp fun d h1 mu1 H1 e1 S1 q1 v rv => ?_⟩
  refine ⟨mu1, r, h1, S1, R.ext e1, (Post.bnd q1).imp fun d2 h2 mu2 H2 e2 S2 q2 v2 rv2 => ?_⟩
  exact ⟨mu2, h2, d, d2, S2, rv.ext e2, rv2, q2.noX nox_bin⟩
theorem s_neg (ha : PE X a' (tE P cls n X.K W a)) : PE X (.UnaryOp .USub a' p) (tE P cls n X.K W (.neg a)) := by
  refine (pe_un un_neg ha).imp ?_
  rintro σ H Q ⟨mu, r, h, S, R, q⟩
  simp only [evE] at q
  refine ⟨mu, r, h, S, R, (Post.bnd q).imp fun d h1 mu1 H1 e1 S1 q1 v rv => ?_⟩
  cases d <;> first | exact q1.elim | skip
  rename_i i
  exact ⟨i, rv.int_inv, PV.ok q1 S1 (.int _)⟩
theorem go_cmp {K : PySem.W.Frag} {op : Cp} : ∀ σ H Q, tE P cls n K W (.cmp op a b) σ H Q → tOp (rCmp K op) (tE P cls n K W a) (tE P cls n K W b) σ H Q := by
  rintro σ H Q ⟨mu, r, h, S, R, q⟩
  simp only [evE] at q
  refine ⟨mu, r, h, S, R, (Post.bnd q).imp fun d h1 mu1 H1 e1 S1 q1 v rv => ?_⟩
  refine ⟨mu1, r, h1, S1, R.ext e1, (Post.bnd q1).imp fun d2 h2 mu2 H2 e2 S2 q2 v2 rv2 => ?_⟩
  obtain ⟨k, e, q2⟩ := Post.opt q2
  exact ⟨mu2, h2, d, d2, k, S2, rv.ext e2, rv2, e, PV.ok q2 S2 (.bl _)⟩
theorem go_chain {K : PySem.W.Frag} {op op' : Cp} : ∀ σ H Q, tE P cls n K W (.chain op op' a b c) σ H Q → tChain (rCmp K op) (rCmp K op') (tE P cls n K W a) (tE P cls n K W b) (tE P cls n K W c) σ H Q := by
  rintro σ H Q ⟨mu, r, h, S, R, q⟩
  simp only [evE] at q
  refine ⟨mu, r, h, S, R, (Post.bnd q).imp fun d h1 mu1 H1 e1 S1 q1 v rv => ?_⟩
  refine ⟨mu1, r, h1, S1, R.ext e1, (Post.bnd q1).imp fun d2 h2 mu2 H2 e2 S2 q2 v2 rv2 => ?_⟩
  obtain ⟨k, e, q2⟩ := Post.opt q2
  refine ⟨mu2, h2, d, d2, k, S2, rv.ext e2, rv2, e, k, rfl, ?_⟩
  cases k with
  | false => exact PV.ok q2 S2 (.bl _)
  | true =>
    refine ⟨mu2, r, h2, S2, (R.ext e1).ext e2, (Post.bnd q2).imp fun d3 h3 mu3 H3 e3 S3 q3 v3 rv3 => ?_⟩
    obtain ⟨k, e, q3⟩ := Post.opt q3
    exact ⟨mu3, h3, d2, d3, k, S3, rv2.ext e3, rv3, e, PV.ok q3 S3 (.bl _)⟩
/-- a test whose value is a bool -/
theorem tT_bl {K : PySem.W.Frag} {e : CE} (hb : ∀ r h d h', evE (callN P n) e r h = .ok d h' → ∃ k, d = .bl k) : ∀ σ H Q, tT P cls n K W e σ H Q → tE P cls n K W e σ H fun x H' => ∃ k, x = .bl k ∧ Q k H' := by
  rintro σ H Q ⟨mu, r, h, S, R, q⟩
  refine ⟨mu, r, h, S, R, ?_⟩
  cases z : evE (callN P n) e r h with
  | stuck => rw [z] at q; exact q.elim
  | exc c h' => rw [z] at q; exact q
  | ok d h' =>
    rw [z] at q
    obtain ⟨k, rfl⟩ := hb _ _ _ _ z
    intro mu1 H1 e1 S1 v rv
    obtain ⟨k', t, q⟩ := q mu1 H1 e1 S1
    refine ⟨k, rv.bl_inv, ?_⟩
    have : k = k' := by simpa [truthD] using t
    rw [this]; exact q
theorem tT_tru {e : CE} : ∀ σ H Q, tT P cls n X.K W e σ H Q → tE P cls n X.K W e σ H fun x H' => ∃ k, TruV X.K x H' k ∧ Q k H' := by
  rintro σ H Q ⟨mu, r, h, S, R, q⟩
  exact ⟨mu, r, h, S, R, q.imp fun d h' mu1 H1 e1 S1 ⟨k, t, q⟩ v rv => ⟨k, tru_of S1 rv t, q⟩⟩
theorem bnd_ok {α β : Type} {m : Res α} {f : α → VH → Res β} {b : β} {h : VH} (e : bnd m f = .ok b h) : ∃ a h', m = .ok a h' ∧ f a h' = .ok b h := by
  cases m with
  | ok a h' => exact ⟨a, h', rfl, e⟩
  | exc c h' => cases e
  | stuck => cases e
theorem opt_ok {α β : Type} {o : Option α} {f : α → Res β} {b : β} {h : VH} (e : opt o f = .ok b h) : ∃ a, o = some a ∧ f a = .ok b h := by
  cases o with
  | some a => exact ⟨a, rfl, e⟩
  | none => cases e
theorem bl_cmp {op : Cp} : ∀ r h d h', evE (callN P n) (.cmp op a b) r h = .ok d h' → ∃ k, d = .bl k := by
  intro r h d h' e
  simp only [evE] at e
  obtain ⟨_, _, _, e⟩ := bnd_ok e
  obtain ⟨_, _, _, e⟩ := bnd_ok e
  obtain ⟨k, _, e⟩ := opt_ok e
  cases e; exact ⟨k, rfl⟩
theorem bl_chain {op op' : Cp} : ∀ r h d h', evE (callN P n) (.chain op op' a b c) r h = .ok d h' → ∃ k, d = .bl k := by
  intro r h d h' e
  simp only [evE] at e
  obtain ⟨_, _, _, e⟩ := bnd_ok e
  obtain ⟨_, _, _, e⟩ := bnd_ok e
  obtain ⟨k, _, e⟩ := opt_ok e
  cases k with
  | false => cases e; exact ⟨_, rfl⟩
  | true =>
    obtain ⟨_, _, _, e⟩ := bnd_ok e
    obtain ⟨k, _, e⟩ := opt_ok e
    cases e; exact ⟨k, rfl⟩
theorem bl_isN : ∀ r h d h', evE (callN P n) (.isN a) r h = .ok d h' → ∃ k, d = .bl k := by
  intro r h d h' e
  simp only [evE] at e
  obtain ⟨_, _, _, e⟩ := bnd_ok e
  cases e; exact ⟨_, rfl⟩
theorem bl_notN : ∀ r h d h', evE (callN P n) (.notN a) r h = .ok d h' → ∃ k, d = .bl k := by
  intro r h d h' e
  simp only [evE] at e
  obtain ⟨_, _, _, e⟩ := bnd_ok e
  cases e; exact ⟨_, rfl⟩
theorem bl_isB {k : Bool} : ∀ r h d h', evE (callN P n) (.isB k a) r h = .ok d h' → ∃ k, d = .bl k := by
  intro r h d h' e
  simp only [evE] at e
  obtain ⟨d, _, _, e⟩ := bnd_ok e
  cases d <;> cases e
  exact ⟨_, rfl⟩
theorem bl_notB {k : Bool} : ∀ r h d h', evE (callN P n) (.notB k a) r h = .ok d h' → ∃ k, d = .bl k := by
  intro r h d h' e
  simp only [evE] at e
  obtain ⟨d, _, _, e⟩ := bnd_ok e
  cases d <;> cases e
  exact ⟨_, rfl⟩
variable (hu : X.A.units + 65 < cLine)
include hu
theorem s_cmp {op : Cp} (ha : PE X a' (tE P cls n X.K W a)) (hb : PE X b' (tE P cls n X.K W b)) (pl : Plain b') : PE X (.Compare a' [op.py] [b'] p) (tE P cls n X.K W (.cmp op a b)) := (pe_cmpR (op_cmp hu op) ha hb (pl.set _)).imp go_cmp
theorem t_cmp {op : Cp} (ha : PE X a' (tE P cls n X.K W a)) (hb : PE X b' (tE P cls n X.K W b)) (pl : Plain b') : PT X (.Compare a' [op.py] [b'] p) (tT P cls n X.K W (.cmp op a b)) := (pt_cmpR (op_cmp hu op) ha hb (pl.set _)).imp fun _ _ _ q => go_cmp _ _ _ (tT_bl bl_cmp _ _ _ q)
theorem s_chain {op op' : Cp} (ha : PE X a' (tE P cls n X.K W a)) (hb : PE X b' (tE P cls n X.K W b)) (hc : PE X c' (tE P cls n X.K W c)) (pl : Plain c') : PE X (.Compare a' [op.py, op'.py] [b', c'] p) (tE P cls n X.K W (.chain op op' a b c)) := (pe_chain (op_cmp hu op) (op_cmp hu op') ha hb hc (pl.set _)).imp go_chain
theorem t_chain {op op' : Cp} (ha : PE X a' (tE P cls n X.K W a)) (hb : PE X b' (tE P cls n X.K W b)) (hc : PE X c' (tE P cls n X.K W c)) (pl : Plain c') : PT X (.Compare a' [op.py, op'.py] [b', c'] p) (tT P cls n X.K W (.chain op op' a b c)) := (pt_chain (op_cmp hu op) (op_cmp hu op') ha hb hc (pl.set _)).imp fun _ _ _ q => go_chain _ _ _ (tT_bl bl_chain _ _ _ q)
omit hu
theorem non_rel {K : PySem.W.Frag} {mu : List Addr} {H : Hp} {d : D} {x : V} (r : RelD K mu H d x) : decide (x = .non) = isNonD d := by cases r <;> rfl
theorem go_isN {K : PySem.W.Frag} : ∀ σ H Q, tE P cls n K W (.isN a) σ H Q → tOp (fun x y H Q => y = .non ∧ Q (.bl (decide (x = .non))) H) (tE P cls n K W a) (tC .non) σ H Q := by
  rintro σ H Q ⟨mu, r, h, S, R, q⟩
  simp only [evE] at q
  refine ⟨mu, r, h, S, R, (Post.bnd q).imp fun d h1 mu1 H1 e1 S1 q1 v rv => ⟨rfl, ?_⟩⟩
  rw [non_rel rv]
  cases d <;> exact PV.ok q1 S1 (.bl _)
theorem go_notN {K : PySem.W.Frag} : ∀ σ H Q, tE P cls n K W (.notN a) σ H Q → tOp (fun x y H Q => y = .non ∧ Q (.bl (!decide (x = .non))) H) (tE P cls n K W a) (tC .non) σ H Q := by
  rintro σ H Q ⟨mu, r, h, S, R, q⟩
  simp only [evE] at q
  refine ⟨mu, r, h, S, R, (Post.bnd q).imp fun d h1 mu1 H1 e1 S1 q1 v rv => ⟨rfl, ?_⟩⟩
  rw [non_rel rv]
  cases d <;> exact PV.ok q1 S1 (.bl _)
theorem go_isB {K : PySem.W.Frag} {k : Bool} : ∀ σ H Q, tE P cls n K W (.isB k a) σ H Q → tOp rIsB (tE P cls n K W a) (tC (.bl k)) σ H Q := by
  rintro σ H Q ⟨mu, r, h, S, R, q⟩
  simp only [evE] at q
  refine ⟨mu, r, h, S, R, (Post.bnd q).imp fun d h1 mu1 H1 e1 S1 q1 v rv => ?_⟩
  cases d <;> first | exact q1.elim | skip
  exact ⟨_, k, rv.bl_inv, rfl, PV.ok q1 S1 (.bl _)⟩
theorem go_notB {K : PySem.W.Frag} {k : Bool} : ∀ σ H Q, tE P cls n K W (.notB k a) σ H Q → tOp rNotB (tE P cls n K W a) (tC (.bl k)) σ H Q := by
  rintro σ H Q ⟨mu, r, h, S, R, q⟩
  simp only [evE] at q
  refine ⟨mu, r, h, S, R, (Post.bnd q).imp fun d h1 mu1 H1 e1 S1 q1 v rv => ?_⟩
  cases d <;> first | exact q1.elim | skip
  exact ⟨_, k, rv.bl_inv, rfl, PV.ok q1 S1 (.bl _)⟩
theorem s_isN (ha : PE X a' (tE P cls n X.K W a)) : PE X (.Compare a' [.Is] [.Constant .none j p2] p) (tE P cls n X.K W (.isN a)) := (pe_cmpR op_isN ha pe_non rfl).imp go_isN
theorem t_isN (ha : PE X a' (tE P cls n X.K W a)) : PT X (.Compare a' [.Is] [.Constant .none j p2] p) (tT P cls n X.K W (.isN a)) := (pt_cmpR op_isN ha pe_non rfl).imp fun _ _ _ q => go_isN _ _ _ (tT_bl bl_isN _ _ _ q)
theorem s_notN (ha : PE X a' (tE P cls n X.K W a)) : PE X (.Compare a' [.IsNot] [.Constant .none j p2] p) (tE P cls n X.K W (.notN a)) := (pe_cmpR op_notN ha pe_non rfl).imp go_notN
theorem t_notN (ha : PE X a' (tE P cls n X.K W a)) : PT X (.Compare a' [.IsNot] [.Constant .none j p2] p) (tT P cls n X.K W (.notN a)) := (pt_cmpR op_notN ha pe_non rfl).imp fun _ _ _ q => go_notN _ _ _ (tT_bl bl_notN _ _ _ q)
theorem s_isB {k : Bool} (ha : PE X a' (tE P cls n X.K W a)) : PE X (.Compare a' [.Is] [.Constant (.bool k) j p2] p) (tE P cls n X.K W (.isB k a)) := (pe_cmpR op_isBl ha pe_bl rfl).imp go_isB
theorem t_isB {k : Bool} (ha : PE X a' (tE P cls n X.K W a)) : PT X (.Compare a' [.Is] [.Constant (.bool k) j p2] p) (tT P cls n X.K W (.isB k a)) := (pt_cmpR op_isBl ha pe_bl rfl).imp fun _ _ _ q => go_isB _ _ _ (tT_bl bl_isB _ _ _ q)
theorem s_notB {k : Bool} (ha : PE X a' (tE P cls n X.K W a)) : PE X (.Compare a' [.IsNot] [.Constant (.bool k) j p2] p) (tE P cls n X.K W (.notB k a)) := (pe_cmpR op_notBl ha pe_bl rfl).imp go_notB
theorem t_notB {k : Bool} (ha : PE X a' (tE P cls n X.K W a)) : PT X (.Compare a' [.IsNot] [.Constant (.bool k) j p2] p) (tT P cls n X.K W (.notB k a)) := (pt_cmpR op_notBl ha pe_bl rfl).imp fun _ _ _ q => go_notB _ _ _ (tT_bl bl_notB _ _ _ q)
/-! and, or, not -/
theorem go_and {K : PySem.W.Frag} : ∀ σ H Q, tE P cls n K W (.and_ a b) σ H Q → tAndV (tE P cls n K W a) (tE P cls n K W b) σ H Q := by
  rintro σ H Q ⟨mu, r, h, S, R, q⟩
  simp only [evE] at q
  refine ⟨mu, r, h, S, R, (Post.bnd q).imp fun d h1 mu1 H1 e1 S1 q1 v rv => ?_⟩
  cases d <;> first | exact q1.elim | skip
  rename_i k
  refine ⟨k, rv.bl_inv, ?_⟩
  cases k with
  | true => exact ⟨mu1, r, h1, S1, R.ext e1, q1⟩
  | false => exact PV.ok q1 S1 (.bl _)
theorem go_or {K : PySem.W.Frag} : ∀ σ H Q, tE P cls n K W (.or_ a b) σ H Q → tOrV (tE P cls n K W a) (tE P cls n K W b) σ H Q := by
  rintro σ H Q ⟨mu, r, h, S, R, q⟩
  simp only [evE] at q
  refine ⟨mu, r, h, S, R, (Post.bnd q).imp fun d h1 mu1 H1 e1 S1 q1 v rv => ?_⟩
  cases d <;> first | exact q1.elim | skip
  rename_i k
  refine ⟨k, rv.bl_inv, ?_⟩
  cases k with
  | false => exact ⟨mu1, r, h1, S1, R.ext e1, q1⟩
  | true => exact PV.ok q1 S1 (.bl _)
theorem got_and {K : PySem.W.Frag} : ∀ σ H Q, tT P cls n K W (.and_ a b) σ H Q → tAnd (tT P cls n K W a) (tT P cls n K W b) σ H Q := by
  rintro σ H Q ⟨mu, r, h, S, R, q⟩
  simp only [evE] at q
  refine ⟨mu, r, h, S, R, (Post.bnd q).imp fun d h1 mu1 H1 e1 S1 q1 => ?_⟩
  cases d <;> first | exact q1.elim | skip
  rename_i k
  refine ⟨k, rfl, ?_⟩
  cases k with
  | true => exact ⟨mu1, r, h1, S1, R.ext e1, q1⟩
  | false =>
    obtain ⟨k', t, q1⟩ := Post.ok q1 S1
    have : false = k' := by simpa [truthD] using t
    subst this
    exact q1
theorem got_or {K : PySem.W.Frag} : ∀ σ H Q, tT P cls n K W (.or_ a b) σ H Q → tOr (tT P cls n K W a) (tT P cls n K W b) σ H Q := by
  rintro σ H Q ⟨mu, r, h, S, R, q⟩
  simp only [evE] at q
  refine ⟨mu, r, h, S, R, (Post.bnd q).imp fun d h1 mu1 H1 e1 S1 q1 => ?_⟩
  cases d <;> first | exact q1.elim | skip
  rename_i k
  refine ⟨k, rfl, ?_⟩
  cases k with
  | false => exact ⟨mu1, r, h1, S1, R.ext e1, q1⟩
  | true =>
    obtain ⟨k', t, q1⟩ := Post.ok q1 S1
    have : true = k' := by simpa [truthD] using t
    subst this
    exact q1
theorem s_not (ha : PE X a' (tE P cls n X.K W a)) : PE X (.UnaryOp .Not a' p) (tE P cls n X.K W (.not_ a)) := by
  refine (pe_notT ha).imp ?_
  rintro σ H Q ⟨mu, r, h, S, R, q⟩
  simp only [evE] at q
  refine ⟨mu, r, h, S, R, (Post.bnd q).imp fun d h1 mu1 H1 e1 S1 q1 v rv => ?_⟩
  obtain ⟨k, t, q1⟩ := Post.opt q1
  exact ⟨k, tru_of S1 rv t, PV.ok q1 S1 (.bl _)⟩
theorem t_not (ha : PT X a' (tT P cls n X.K W a)) : PT X (.UnaryOp .Not a' p) (tT P cls n X.K W (.not_ a)) := by
  refine (pt_not ha).imp ?_
  rintro σ H Q ⟨mu, r, h, S, R, q⟩
  simp only [evE] at q
  refine ⟨mu, r, h, S, R, (Post.bnd q).imp fun d h1 mu1 H1 e1 S1 q1 => ?_⟩
  obtain ⟨k, t, q1⟩ := Post.opt q1
  obtain ⟨k', t', q1⟩ := Post.ok q1 S1
  have : (!k) = k' := by simpa [truthD] using t'
  subst this
  exact ⟨k, t, q1⟩
/-! subscripts, slices, methods -/
theorem s_ix {i : CE} {i' : Expr} (hu : X.A.units + 1 < cLine) (ha : PE X a' (tE P cls n X.K W a)) (hi : PE X i' (tE P cls n X.K W i)) (pl : Plain i') : PE X (.Subscript a' i' p) (tE P cls n X.K W (.ix a i)) := by
  refine (pe_ix (ix_all hu) ha hi pl.ix).imp ?_
  rintro σ H Q ⟨mu, r, h, S, R, q⟩
  simp only [evE] at q
  refine ⟨mu, r, h, S, R, (Post.bnd q).imp fun d h1 mu1 H1 e1 S1 q1 v rv => ?_⟩
  refine ⟨mu1, r, h1, S1, R.ext e1, (Post.bnd q1).imp fun d2 h2 mu2 H2 e2 S2 q2 v2 rv2 => ?_⟩
  exact ⟨mu2, h2, d, d2, S2, rv.ext e2, rv2, q2.noX nox_ix⟩
theorem s_onone : PO X none (tO P cls n X.K W .none) := by
  refine po_none.imp ?_
  rintro σ H Q ⟨mu, r, h, S, R, q⟩
  simp only [evO] at q
  exact Post.ok q S
theorem s_osome (ha : PE X a' (tE P cls n X.K W a)) : PO X (some a') (tO P cls n X.K W (.some a)) := by
  refine (po_some ha).imp ?_
  rintro σ H Q ⟨mu, r, h, S, R, q⟩
  simp only [evO] at q
  refine ⟨mu, r, h, S, R, (Post.bnd q).imp fun d h1 mu1 H1 e1 S1 q1 v rv => ?_⟩
  cases d <;> first | exact q1.elim | skip
  exact ⟨_, rv.int_inv, Post.ok q1 S1⟩
theorem s_sl {lo hi : CO} {lo' hi' : Option Expr} (ha : PE X a' (tE P cls n X.K W a)) (hl : PO X lo' (tO P cls n X.K W lo)) (hh : PO X hi' (tO P cls n X.K W hi)) : PE X (.Subscript a' (.Slice lo' hi' none p2) p) (tE P cls n X.K W (.sl a lo hi)) := by
  refine (pe_slice sl_all ha hl hh).imp ?_
  rintro σ H Q ⟨mu, r, h, S, R, q⟩
  simp only [evE] at q
  refine ⟨mu, r, h, S, R, (Post.bnd q).imp fun d h1 mu1 H1 e1 S1 q1 v rv => ?_⟩
  refine ⟨mu1, r, h1, S1, R.ext e1, (Post.bnd q1).imp fun d2 h2 mu2 H2 e2 S2 q2 => ?_⟩
  refine ⟨mu2, r, h2, S2, (R.ext e1).ext e2, (Post.bnd q2).imp fun d3 h3 mu3 H3 e3 S3 q3 => ?_⟩
  exact ⟨mu3, h3, d, S3, (rv.ext e2).ext e3, q3.noX nox_sl⟩
end
end
end
end PI
end
section
set_option maxRecDepth 100000
set_option maxHeartbeats 4000000
/-! Methods, targets, iterators, comprehensions (own work). -/
namespace PI
open PySem PySem.Spec PyProof.Rows L2
section
variable {X : Cx} {G : Gam} {P : Prog} {cls : Nat → Addr} {n : Nat} {bk : Option Scope} {N : List Str} {sc : Scope} {W : WX} {pos apos cpos p p2 p3 : Pos} {j : Nat}
variable {a b c o e k d : CE} {a' b' c' o' e' k' d' : Expr}
theorem name_of {e : Expr} (h : isNameE e = true) : ∃ x q, e = .Name x q := by
  cases e <;> first | exact ⟨_, _, rfl⟩ | cases h
theorem isLst_rel {K : PySem.W.Frag} {mu : List Addr} {H : Hp} {h : VH} {d : D} {x : V} (S : Sim K mu H h) (r : RelD K mu H d x) (e : isLst h d = true) : ∃ l xs, x = .ref l ∧ SqL K H l xs := by
  cases d with
  | ref n =>
    obtain ⟨l, rfl, el⟩ := r.ref_inv
    unfold isLst at e
    dsimp only at e
    split at e
    · rename_i xs e1
      obtain ⟨vs, q, _⟩ := S.sqL el (.inl e1)
      exact ⟨l, vs, rfl, q⟩
    · rename_i k xs e1
      obtain ⟨vs, q, _⟩ := S.sqL el (.inr ⟨k, e1⟩)
      exact ⟨l, vs, rfl, q⟩
    · cases e
  | _ => cases e
theorem isDic_rel {K : PySem.W.Frag} {mu : List Addr} {H : Hp} {h : VH} {d : D} {x : V} (S : Sim K mu H h) (r : RelD K mu H d x) (e : isDic h d = true) : ∃ l, x = .ref l ∧ IsD H l := by
  cases d with
  | ref n =>
    obtain ⟨l, rfl, el⟩ := r.ref_inv
    unfold isDic at e
    dsimp only at e
    split at e
    · rename_i lk kvs e1
      obtain ⟨ws, q, _⟩ := S.at_ n l _ el e1
      refine ⟨l, rfl, .inl ⟨ws, ?_⟩⟩
      cases lk with
      | true => exact .inr q
      | false => exact .inl q
    · rename_i lk kvs e1
      obtain ⟨ws, q, _⟩ := S.at_ n l _ el e1
      refine ⟨l, rfl, .inr ⟨ws, ?_⟩⟩
      cases lk with
      | true => exact .inr q
      | false => exact .inl q
    · cases e
  | _ => cases e
theorem Post.asL {α : Type} {K : PySem.W.Frag} {mu : List Addr} {H : Hp} {h : VH} {d : D} {x : V} {f : Nat → List D → Res α} {k : α → VH → List Addr → Hp → Prop} {E : Nat → Hp → Prop} (q : Post K mu H (PI.asL h d f) k E) (r : RelD K mu H d x) : ∃ n l xs, d = .ref n ∧ x = .ref l ∧ mu[n]? = some l ∧ h[n]? = some (.lst xs) ∧ Post K mu H (f n xs) k E := by
  cases d <;> first | exact q.elim | skip
  rename_i n
  obtain ⟨l, rfl, el⟩ := r.ref_inv
  unfold PI.asL at q
  dsimp only at q
  split at q
  · rename_i xs e
    exact ⟨n, l, xs, rfl, rfl, el, e, q⟩
  · exact q.elim
theorem tyV_lst {K : PySem.W.Frag} {H : Hp} {x : V} {l : Addr} {xs : List V} (e : x = .ref l) (q : SqL K H l xs) : tyV K "list" x H := by subst e; exact .inl ⟨rfl, xs, q⟩
theorem s_app (nm : isNameE o' = true) (ln : lineB apos cpos = true) (ho : PE X o' (tE P cls n X.K W o)) (he : PE X e' (tE P cls n X.K W e)) (pl : Plain e') : PE X (.Call (.Attribute o' "append" apos) [e'] [] cpos) (tE P cls n X.K W (.app o e)) := by
  obtain ⟨y, q0, rfl⟩ := name_of nm
  refine (pe_bm PySem.F.plainAttrs_list PySem.F.slot_list_append PySem.F.type_list_append mt_append ho (pa_cons he pa_nil (pl.star _ _)) rfl (by rw [pl.star]; rfl) ln (pl.star _ _) rfl).imp ?_
  rintro σ H Q ⟨mu, r, h, S, R, q⟩
  simp only [evE] at q
  refine ⟨mu, r, h, S, R, (Post.bnd q).imp fun d h1 mu1 H1 e1 S1 q1 v rv => ?_⟩
  obtain ⟨il, q1⟩ := Post.grd q1
  obtain ⟨l, xs, el, sq⟩ := isLst_rel S1 rv il
  refine ⟨tyV_lst el sq, mu1, r, h1, S1, R.ext e1, (Post.bnd q1).imp fun d2 h2 mu2 H2 e2 S2 q2 v2 rv2 => ?_⟩
  have rv := rv.ext e2
  obtain ⟨m, l, ys, rfl, rfl, em, ey, q2⟩ := Post.asL q2 rv
  obtain ⟨g, q2⟩ := Post.grd q2
  obtain ⟨vs, hl, rr⟩ := S2.lst em ey
  have rr2 := rr.append (.cons rv2 .nil)
  obtain ⟨S3, e3⟩ := S2.putL em ey rr2
  exact ⟨l, vs, v2, rfl, rfl, hl, by rw [← rr.length]; exact of_decide_eq_true g, q2 _ _ e3 S3 _ .non⟩
theorem s_ext (nm : isNameE o' = true) (ln : lineB apos cpos = true) (ho : PE X o' (tE P cls n X.K W o)) (he : PE X e' (tE P cls n X.K W e)) (pl : Plain e') : PE X (.Call (.Attribute o' "extend" apos) [e'] [] cpos) (tE P cls n X.K W (.ext o e)) := by
  obtain ⟨y, q0, rfl⟩ := name_of nm
  refine (pe_bm PySem.F.plainAttrs_list PySem.F.slot_list_extend PySem.F.type_list_extend mt_extend ho (pa_cons he pa_nil (pl.star _ _)) rfl (by rw [pl.star]; rfl) ln (pl.star _ _) rfl).imp ?_
  rintro σ H Q ⟨mu, r, h, S, R, q⟩
  simp only [evE] at q
  refine ⟨mu, r, h, S, R, (Post.bnd q).imp fun d h1 mu1 H1 e1 S1 q1 v rv => ?_⟩
  obtain ⟨il, q1⟩ := Post.grd q1
  obtain ⟨l, xs, el, sq⟩ := isLst_rel S1 rv il
  refine ⟨tyV_lst el sq, mu1, r, h1, S1, R.ext e1, (Post.bnd q1).imp fun d2 h2 mu2 H2 e2 S2 q2 v2 rv2 => ?_⟩
  have rv := rv.ext e2
  obtain ⟨m, l, ys, rfl, rfl, em, ey, q2⟩ := Post.asL q2 rv
  obtain ⟨m2, l2, zs, rfl, rfl, em2, ez, q2⟩ := Post.asL q2 rv2
  obtain ⟨g, q2⟩ := Post.grd q2
  obtain ⟨vs, hl, rr⟩ := S2.lst em ey
  obtain ⟨vs2, hl2, rr2⟩ := S2.lst em2 ez
  obtain ⟨S3, e3⟩ := S2.putL em ey (rr.append rr2)
  exact ⟨l, l2, vs, vs2, rfl, rfl, hl, hl2, by rw [← rr.length, ← rr2.length]; exact of_decide_eq_true g, q2 _ _ e3 S3 _ .non⟩
theorem s_pop (nm : isNameE o' = true) (ln : lineB apos cpos = true) (ho : PE X o' (tE P cls n X.K W o)) : PE X (.Call (.Attribute o' "pop" apos) [] [] cpos) (tE P cls n X.K W (.pop o)) := by
  obtain ⟨y, q0, rfl⟩ := name_of nm
  refine (pe_bm0 PySem.F.plainAttrs_list PySem.F.slot_list_pop PySem.F.type_list_pop mt_pop ho rfl ln).imp ?_
  rintro σ H Q ⟨mu, r, h, S, R, q⟩
  simp only [evE] at q
  refine ⟨mu, r, h, S, R, (Post.bnd q).imp fun d h1 mu1 H1 e1 S1 q1 v rv => ?_⟩
  obtain ⟨m, l, ys, rfl, rfl, em, ey, q1⟩ := Post.asL q1 rv
  obtain ⟨z, ez, q1⟩ := Post.opt q1
  obtain ⟨vs, hl, rr⟩ := S1.lst em ey
  obtain ⟨w, ew, rw_⟩ := rr.get ez
  obtain ⟨S3, e3⟩ := S1.putL em ey rr.dropLast
  exact ⟨tyV_lst rfl (SqL.of hl), l, vs, w, rfl, rfl, hl, by rw [← rr.length]; exact ew, q1 _ _ e3 S3 _ (rw_.ext e3)⟩
theorem idxF_rel {K : PySem.W.Frag} {mu : List Addr} {H : Hp} {ds : List D} {vs : List V} {d : D} {x : V} {j : Nat} (r : RelDs K mu H ds vs) (rd : RelD K mu H d x) (e : idxF ds d = some j) :
    flatV x = true ∧ vs.all flatV = true ∧ (∃ z, vs[j]? = some z ∧ eqV z x = true) ∧ ∀ (m : Nat) (z' : V), m < j → vs[m]? = some z' → eqV z' x = false := by
  unfold idxF at e
  split at e
  · rename_i c
    simp only [Bool.and_eq_true] at c
    obtain ⟨hj, h1, h2⟩ := List.findIdx?_eq_some_iff_getElem.mp e
    refine ⟨flat_rel rd c.1, flats_rel r c.2, ?_, fun m z' hm ez => ?_⟩
    · obtain ⟨z, ez, rz⟩ := r.get (List.getElem?_eq_getElem hj)
      refine ⟨z, ez, ?_⟩
      rw [eqF_rel rz rd (List.all_eq_true.mp c.2 _ (List.getElem_mem hj)) c.1]
      exact h1
    · have hm' : m < ds.length := by omega
      obtain ⟨z, ez2, rz⟩ := r.get (List.getElem?_eq_getElem hm')
      rw [ez] at ez2; cases ez2
      rw [eqF_rel rz rd (List.all_eq_true.mp c.2 _ (List.getElem_mem hm')) c.1]
      simpa using h2 m hm
  · cases e
theorem s_idx (nm : isNameE o' = true) (ln : lineB apos cpos = true) (ho : PE X o' (tE P cls n X.K W o)) (he : PE X e' (tE P cls n X.K W e)) (pl : Plain e') : PE X (.Call (.Attribute o' "index" apos) [e'] [] cpos) (tE P cls n X.K W (.idx o e)) := by
  obtain ⟨y, q0, rfl⟩ := name_of nm
  refine (pe_bm PySem.F.plainAttrs_list PySem.F.slot_list_index PySem.F.type_list_index mt_index ho (pa_cons he pa_nil (pl.star _ _)) rfl (by rw [pl.star]; rfl) ln (pl.star _ _) rfl).imp ?_
  rintro σ H Q ⟨mu, r, h, S, R, q⟩
  simp only [evE] at q
  refine ⟨mu, r, h, S, R, (Post.bnd q).imp fun d h1 mu1 H1 e1 S1 q1 v rv => ?_⟩
  obtain ⟨il, q1⟩ := Post.grd q1
  obtain ⟨l, xs, el, sq⟩ := isLst_rel S1 rv il
  refine ⟨tyV_lst el sq, mu1, r, h1, S1, R.ext e1, (Post.bnd q1).imp fun d2 h2 mu2 H2 e2 S2 q2 v2 rv2 => ?_⟩
  have rv := rv.ext e2
  obtain ⟨j, ej, q2⟩ := Post.opt q2
  obtain ⟨ys, ey, ei⟩ := Option.bind_eq_some_iff.mp ej
  obtain ⟨l, vs, rfl, sq2, rr⟩ := itemsL_rel S2 rv ey
  obtain ⟨f1, f2, ⟨z, ez, eq⟩, f3⟩ := idxF_rel rr rv2 ei
  exact ⟨l, vs, v2, j, z, rfl, rfl, sq2, f1, f2, ez, eq, f3, PV.ok q2 S2 (.int _)⟩
theorem s_get2 (hu : X.A.units + 1 < cLine) (nm : isNameE o' = true) (ln : lineB apos cpos = true) (ho : PE X o' (tE P cls n X.K W o)) (hk : PE X k' (tE P cls n X.K W k)) (hd : PE X d' (tE P cls n X.K W d)) (pl : Plain k') (pl2 : Plain d') :
    PE X (.Call (.Attribute o' "get" apos) [k', d'] [] cpos) (tE P cls n X.K W (.get2 o k d)) := by
  obtain ⟨y, q0, rfl⟩ := name_of nm
  refine (pe_dget2 hu ho hk hd ⟨rfl, by rw [pl.star, pl2.star]; rfl, ln, by rw [pl.star, pl2.star]; rfl⟩).imp ?_
  rintro σ H Q ⟨mu, r, h, S, R, q⟩
  simp only [evE] at q
  refine ⟨mu, r, h, S, R, (Post.bnd q).imp fun d h1 mu1 H1 e1 S1 q1 v rv => ?_⟩
  obtain ⟨il, q1⟩ := Post.grd q1
  obtain ⟨l, el, dd⟩ := isDic_rel S1 rv il
  subst el
  refine ⟨l, rfl, dd, mu1, r, h1, S1, R.ext e1, (Post.bnd q1).imp fun d2 h2 mu2 H2 e2 S2 q2 v2 rv2 => ?_⟩
  refine ⟨mu2, r, h2, S2, (R.ext e1).ext e2, (Post.bnd q2).imp fun d3 h3 mu3 H3 e3 S3 q3 v3 rv3 => ?_⟩
  obtain ⟨o, eo, q3⟩ := Post.opt q3
  obtain ⟨l', w, el, g, ro, _⟩ := look_rel S3 eo ((rv.ext e2).ext e3) (rv2.ext e3)
  cases el
  refine ⟨w, g, PV.ok q3 S3 ?_⟩
  cases o with
  | none =>
    cases w with
    | none => exact rv3
    | some w => exact ro.elim
  | some z =>
    cases w with
    | none => exact ro.elim
    | some w => exact ro

/-! ### targets -/
theorem off_refl {σ : L2.St} {is : List Nat} : Off σ σ is := ⟨rfl, fun _ _ => rfl⟩
theorem off_trans {σ σ' σ2 : L2.St} {is js : List Nat} (a : Off σ σ' is) (b : Off σ' σ2 js) : Off σ σ2 (is ++ js) := ⟨b.1.trans a.1, fun j hj => (b.2 j fun z => hj (List.mem_append.mpr (.inr z))).trans (a.2 j fun z => hj (List.mem_append.mpr (.inl z)))⟩
theorem wipe_get {σ : L2.St} {i : Nat} : ∀ {vs : List Nat}, i ∈ vs → i < σ.length → (wipe σ vs)[i]? = some none
  | v :: vs, hi, hl => by
    unfold wipe
    by_cases e : v = i
    · subst e
      exact List.getElem?_set_self (by rw [wipe_length]; exact hl)
    · rw [List.getElem?_set_ne e]
      rcases List.mem_cons.mp hi with z | z
      · exact (e z.symm).elim
      · exact wipe_get z hl
theorem wipe_other {σ : L2.St} {i : Nat} : ∀ {vs : List Nat}, i ∉ vs → (wipe σ vs)[i]? = σ[i]?
  | [], _ => rfl
  | v :: vs, hi => by
    unfold wipe
    rw [List.getElem?_set_ne fun e => hi (by rw [e]; simp), wipe_other fun z => hi (List.mem_cons_of_mem _ z)]
theorem off_wipe {σ σ2 : L2.St} {vs : List Nat} (o : Off (wipe σ vs) σ2 vs) : wipe σ2 vs = wipe σ vs := by
  have hl : σ2.length = σ.length := by rw [o.1, wipe_length]
  refine List.ext_getElem? fun i => ?_
  by_cases hi : i ∈ vs
  · by_cases l : i < σ.length
    · rw [wipe_get hi (by rw [hl]; exact l), wipe_get hi l]
    · rw [List.getElem?_eq_none (by rw [wipe_length, hl]; omega), List.getElem?_eq_none (by rw [wipe_length]; omega)]
  · rw [wipe_other hi, wipe_other hi, o.2 i hi, wipe_other hi]
theorem s_gname {i : Nat} {x : Str} (w : WF G P cls n bk N sc X) (hi : N[i]? = some x) (hl : locB sc x = true) (hf : (fnOf bk x || decide (sc.names.lookup x = some .local)) = true) : PG X (.Name x p) (tG P cls n X.K W (.name i)) := by
  have hf' : X.fn x = true ∨ X.env.scope.names.lookup x = some .local := by
    rw [w.fn, w.sc]
    rcases (Bool.or_eq_true _ _).mp hf with z | z
    · exact .inl z
    · exact .inr (of_decide_eq_true z)
  refine (pg_name (i := i) (by rw [w.N]; exact w.nd) (by rw [w.N]; exact hi) (by rw [w.sc]; exact loc_of hl) hf').imp ?_
  rintro v σ H Q ⟨mu, r, h, d, S, R, rv, q⟩
  simp only [asgG] at q
  refine Post.ok q S _ (R.set i rv) ⟨by simp, fun j hj => ?_⟩
  rw [List.getElem?_set_ne]
  intro e; subst e
  exact hj (by simp [slotsG])
theorem s_gsub {o i : CE} {o' i' : Expr} (hu : X.A.units + 1 < cLine) (ho : PE X o' (tE P cls n X.K W o)) (hi : PE X i' (tE P cls n X.K W i)) (pl : Plain i') : PG X (.Subscript o' i' p) (tG P cls n X.K W (.sub o i)) := by
  refine (pg_sub ho hi (set_all hu) (pl.asg _ _ _)).imp ?_
  rintro v σ H Q ⟨mu, r, h, d, S, R, rv, q⟩
  simp only [asgG] at q
  refine ⟨mu, r, h, S, R, (Post.bnd q).imp fun d1 h1 mu1 H1 e1 S1 q1 v1 rv1 => ?_⟩
  refine ⟨mu1, r, h1, S1, R.ext e1, (Post.bnd q1).imp fun d2 h2 mu2 H2 e2 S2 q2 v2 rv2 => ?_⟩
  obtain ⟨h3, es, q2⟩ := Post.opt q2
  exact ⟨mu2, h2, d1, d2, d, h3, S2, rv1.ext e2, rv2, (rv.ext e1).ext e2, es, fun mu3 H3 e3 S3 => q2 mu3 H3 e3 S3 σ (((R.ext e1).ext e2).ext e3) off_refl⟩
theorem s_gnil : PGs X [] (tGs P cls n X.K W .nil) := by
  refine pgs_nil.imp ?_
  rintro v σ H Q ⟨mu, r, h, ds, S, R, rv, q⟩
  simp only [asgGs] at q
  cases rv with
  | nil => exact ⟨rfl, Post.ok q S _ R off_refl⟩
  | cons _ _ => exact q.elim
theorem s_gcons {t : TG} {ts : TGs} {es : List Expr} (h1 : PG X e' (tG P cls n X.K W t)) (h2 : PGs X es (tGs P cls n X.K W ts)) (hs : (assignEach (e' :: es) X.env).map (·.2) = assign e' X.env :: (assignEach es X.env).map (·.2)) : PGs X (e' :: es) (tGs P cls n X.K W (.cons t ts)) := by
  refine (pgs_cons h1 h2 hs).imp ?_
  rintro v σ H Q ⟨mu, r, h, ds, S, R, rv, q⟩
  simp only [asgGs] at q
  cases rv with
  | nil => exact q.elim
  | cons rd rs =>
    rename_i d v ds vs
    refine ⟨v, vs, rfl, mu, r, h, d, S, R, rd, (Post.bnd q).imp fun r1 h1 mu1 H1 e1 S1 q1 σ1 R1 o1 => ?_⟩
    refine ⟨mu1, r1, h1, ds, S1, R1, rs.ext e1, q1.imp fun r2 h2 mu2 H2 e2 S2 q2 σ2 R2 o2 => ?_⟩
    exact q2 σ2 R2 (by rw [slotsGs]; exact off_trans o1 o2)

structure PlainG (e : Expr) : Prop where
  one : ∀ (es : List Expr) (env : PySem.Env), assignEach (e :: es) env = (false, assign e env) :: assignEach es env
theorem plainG_of {bk : Option Scope} {t : TG} {e : Expr} (h : chkG G N bk sc t e = true) : PlainG e := by
  unfold chkG at h
  split at h
  · exact ⟨fun _ _ => rfl⟩
  · exact ⟨fun _ _ => rfl⟩
  · exact ⟨fun _ _ => rfl⟩
  · cases h
theorem gs_len : ∀ (ts : TGs) (es : List Expr), chkGs G N bk sc ts es = true → es.length = lenGs ts
  | .nil, [], _ => rfl
  | .nil, _ :: _, c => by simp [chkGs] at c
  | .cons _ _, [], c => by simp [chkGs] at c
  | .cons t ts, e :: es, c => by
    simp only [chkGs, Bool.and_eq_true] at c
    rw [List.length_cons, gs_len ts es c.2, lenGs]
theorem gs_plain (env : PySem.Env) : ∀ (ts : TGs) (es : List Expr), chkGs G N bk sc ts es = true → (assignEach es env).length = es.length ∧ (assignEach es env).findIdx? (·.1) = none
  | .nil, [], _ => ⟨rfl, rfl⟩
  | .nil, _ :: _, c => by simp [chkGs] at c
  | .cons _ _, [], c => by simp [chkGs] at c
  | .cons t ts, e :: es, c => by
    simp only [chkGs, Bool.and_eq_true] at c
    obtain ⟨h1, h2⟩ := gs_plain env ts es c.2
    rw [(plainG_of c.1).one]
    refine ⟨by rw [List.length_cons, List.length_cons, h1], ?_⟩
    rw [List.findIdx?_cons, h2]
    rfl
theorem s_gtup {ts : TGs} {es : List Expr} {x1} (w : WF G P cls n bk N sc X) (c : chkGs G N bk sc ts es = true) (h : PGs X es (tGs P cls n X.K W ts)) : PG X (.Tuple es x1 p) (tG P cls n X.K W (.tup ts)) := by
  obtain ⟨h1, h2⟩ := gs_plain X.env ts es c
  refine (pg_tup w.calm h h1 h2).imp ?_
  rintro v σ H Q ⟨mu, r, h, d, S, R, rv, q⟩
  simp only [asgG] at q
  cases d <;> first | exact q.elim | skip
  rename_i ds
  obtain ⟨hl, q⟩ := Post.grd q
  obtain ⟨a, vs, rfl, ta, rs⟩ := rv.tup_inv
  refine ⟨a, vs, rfl, ta.sq, ?_, mu, r, h, ds, S, R, rs, ?_⟩
  · rw [← rs.length, of_decide_eq_true hl, gs_len ts es c]
  · exact q.imp fun r1 h1 mu1 H1 e1 S1 q1 σ1 R1 o1 => q1 σ1 R1 (by rw [slotsG]; exact o1)

/-! ### iterators -/
section
variable {K : PySem.W.Frag} {mu mu1 : List Addr} {H H1 : Hp} {h h1 : VH}
theorem stands_sq (S : Sim K mu H h) {m : Nat} {l : Addr} (r : RelD K mu H (.ref m) (.ref l)) {xs : List D} (st : stands (.ref m) xs h = true) : ∃ vs, SqL K H l vs ∧ RelDs K mu H xs vs := by
  obtain ⟨l', e, em⟩ := r.ref_inv
  cases e
  unfold stands at st
  dsimp only at st
  split at st
  · rename_i ys e1
    have := of_decide_eq_true st
    subst this
    exact S.sqL em (.inl e1)
  · rename_i k ys e1
    have := of_decide_eq_true st
    subst this
    exact S.sqL em (.inr ⟨k, e1⟩)
  · cases st
theorem jok_list {m : Nat} {l : Addr} {xs : List D} (r : RelD K mu H (.ref m) (.ref l)) : JOk K mu H (Itl K l) xs (stands (.ref m) xs) := by
  intro i mu1 H1 h1 e S st
  obtain ⟨vs, sq, rs⟩ := stands_sq S (r.ext e) st
  refine ⟨fun d hd => ?_, fun hl => ⟨vs, sq, by rw [← rs.length]; exact hl⟩⟩
  obtain ⟨v, hv, rv⟩ := rs.get hd
  refine ⟨⟨vs, v, sq, hv⟩, ?_⟩
  rintro x H2 ⟨rfl, hx⟩
  have := hx vs sq
  rw [hv] at this; cases this
  exact ⟨.refl, S, rv⟩
theorem jok_tup {l : Addr} {xs : List D} {src : VH → Bool} (r : RelD K mu H (.tup xs) (.ref l)) : JOk K mu H (Itt K l) xs src := by
  intro i mu1 H1 h1 e S st
  obtain ⟨_, vs, e2, ta, rs⟩ := (r.ext e).tup_inv
  cases e2
  refine ⟨fun d hd => ?_, fun hl => ⟨vs, ta.sq, by rw [← rs.length]; exact hl⟩⟩
  obtain ⟨v, hv, rv⟩ := rs.get hd
  refine ⟨⟨vs, v, ta.sq, hv⟩, ?_⟩
  rintro x H2 ⟨rfl, hx⟩
  have := hx vs ta.sq
  rw [hv] at this; cases this
  exact ⟨.refl, S, rv⟩
theorem jok_str {x : Str} {src : VH → Bool} : JOk K mu H (Its x) (x.cps.toList.map fun c => .str ⟨#[c]⟩) src := by
  intro i mu1 H1 h1 e S st
  refine ⟨fun d hd => ?_, fun hl => ?_⟩
  · rw [List.getElem?_map] at hd
    obtain ⟨c, hc, rfl⟩ := Option.map_eq_some_iff.mp hd
    have hc' : x.cps[i]? = some c := by rw [← Array.getElem?_toList]; exact hc
    refine ⟨(Array.getElem?_eq_some_iff.mp hc').1, ?_⟩
    rintro v H2 ⟨rfl, c', e1, rfl⟩
    rw [hc'] at e1; cases e1
    exact ⟨.refl, S, .str _⟩
  · rw [List.length_map, Array.length_toList] at hl
    exact hl
theorem rngD_get {lo : Int} {m i : Nat} {d : D} (e : (rngD lo m)[i]? = some d) : i < m ∧ d = .int (lo + (i : Nat)) := by
  unfold rngD at e
  rw [List.getElem?_map] at e
  obtain ⟨c, hc, rfl⟩ := Option.map_eq_some_iff.mp e
  obtain ⟨h1, h2⟩ := List.getElem?_eq_some_iff.mp hc
  rw [List.getElem_range] at h2
  rw [List.length_range] at h1
  subst h2
  exact ⟨h1, rfl⟩
theorem rngD_length {lo : Int} {m : Nat} : (rngD lo m).length = m := by unfold rngD; simp
theorem jok_rng {lo : Int} {m : Nat} {src : VH → Bool} : JOk K mu H (Itr lo m) (rngD lo m) src := by
  intro i mu1 H1 h1 e S st
  refine ⟨fun d hd => ?_, fun hl => by rw [rngD_length] at hl; exact hl⟩
  obtain ⟨h1, rfl⟩ := rngD_get hd
  refine ⟨h1, ?_⟩
  rintro v H2 ⟨rfl, rfl⟩
  exact ⟨.refl, S, .int _⟩
theorem rev_get {α : Type} {l : List α} {i : Nat} {x : α} (e : l.reverse[i]? = some x) : i < l.length ∧ l[l.length - 1 - i]? = some x := by
  have hi := (List.getElem?_eq_some_iff.mp e).1
  rw [List.length_reverse] at hi
  rw [List.getElem?_reverse hi] at e
  exact ⟨hi, e⟩
theorem jok_revrng {lo : Int} {m : Nat} {src : VH → Bool} : JOk K mu H (Itc (lo + (m : Nat) - 1) (-1) m) (rngD lo m).reverse src := by
  intro i mu1 H1 h1 e S st
  refine ⟨fun d hd => ?_, fun hl => by rw [List.length_reverse, rngD_length] at hl; exact hl⟩
  obtain ⟨hi, hd⟩ := rev_get hd
  rw [rngD_length] at hi hd
  obtain ⟨_, rfl⟩ := rngD_get hd
  refine ⟨hi, ?_⟩
  rintro v H2 ⟨rfl, rfl⟩
  refine ⟨.refl, S, ?_⟩
  have : lo + ((m - 1 - i : Nat) : Int) = lo + (m : Nat) - 1 + (i : Nat) * (-1) := by omega
  rw [this]
  exact .int _
theorem jok_revL {m : Nat} {l : Addr} {xs : List D} {k : Nat} (hk : k = xs.length) (r : RelD K mu H (.ref m) (.ref l)) : JOk K mu H (Itv K l k) xs.reverse (stands (.ref m) xs) := by
  subst hk
  intro i mu1 H1 h1 e S st
  obtain ⟨vs, sq, rs⟩ := stands_sq S (r.ext e) st
  refine ⟨fun d hd => ?_, fun hl => by rw [List.length_reverse] at hl; exact hl⟩
  obtain ⟨hi, hd⟩ := rev_get hd
  obtain ⟨v, hv, rv⟩ := rs.get hd
  refine ⟨⟨hi, vs, v, sq, hv⟩, ?_⟩
  rintro x H2 ⟨rfl, hx⟩
  have := hx vs sq
  rw [hv] at this; cases this
  exact ⟨.refl, S, rv⟩
theorem jok_revT {l : Addr} {xs : List D} {src : VH → Bool} {k : Nat} (hk : k = xs.length) (r : RelD K mu H (.tup xs) (.ref l)) : JOk K mu H (RT.ItvT K l k) xs.reverse src := by
  subst hk
  intro i mu1 H1 h1 e S st
  obtain ⟨_, vs, e2, ta, rs⟩ := (r.ext e).tup_inv
  cases e2
  refine ⟨fun d hd => ?_, fun hl => by rw [List.length_reverse] at hl; exact hl⟩
  obtain ⟨hi, hd⟩ := rev_get hd
  obtain ⟨v, hv, rv⟩ := rs.get hd
  refine ⟨⟨hi, vs, v, ta.sq, hv⟩, ?_⟩
  rintro x H2 ⟨rfl, hx⟩
  have := hx vs ta.sq
  rw [hv] at this; cases this
  exact ⟨.refl, S, rv⟩
theorem pair_new (S : Sim K mu H h) {T : Addr} {x y : V} {d e : D} (hT : H T = none) (rx : RelD K mu H d x) (ry : RelD K mu H e y) :
    Ext mu H mu (upd H T (.tup [x, y])) ∧ Sim K mu (upd H T (.tup [x, y])) h ∧ RelD K mu (upd H T (.tup [x, y])) (.tup [d, e]) (.ref T) := by
  have ex := ext_newT (mu := mu) (ob := .tup [x, y]) hT
  exact ⟨ex, S.newT hT, .tup upd_same (.cons (rx.ext ex) (.cons (ry.ext ex) .nil))⟩
theorem enumD_get {xs : List D} {i : Nat} {d : D} (e : (enumD xs)[i]? = some d) : ∃ x, xs[i]? = some x ∧ d = .tup [.int (i : Nat), x] := by
  unfold enumD at e
  rw [List.getElem?_map] at e
  obtain ⟨⟨k, x⟩, hc, rfl⟩ := Option.map_eq_some_iff.mp e
  rw [List.getElem?_zip_eq_some] at hc
  obtain ⟨h1, h2⟩ := List.getElem?_eq_some_iff.mp hc.1
  rw [List.getElem_range] at h2
  dsimp only at h2 hc ⊢
  subst h2
  exact ⟨x, hc.2, rfl⟩
theorem enumD_length {xs : List D} : (enumD xs).length = xs.length := by unfold enumD; simp
theorem jok_enum {m : Nat} {l : Addr} {xs : List D} (r : RelD K mu H (.ref m) (.ref l)) : JOk K mu H (Ite K l) (enumD xs) (stands (.ref m) xs) := by
  intro i mu1 H1 h1 e S st
  obtain ⟨vs, sq, rs⟩ := stands_sq S (r.ext e) st
  refine ⟨fun d hd => ?_, fun hl => ⟨vs, sq, by rw [← rs.length]; rw [enumD_length] at hl; exact hl⟩⟩
  obtain ⟨x, hx, rfl⟩ := enumD_get hd
  obtain ⟨v, hv, rv⟩ := rs.get hx
  refine ⟨⟨vs, v, sq, hv⟩, ?_⟩
  rintro x H2 ⟨T, y, rfl, hT, rfl, hy⟩
  have := hy vs sq
  rw [hv] at this; cases this
  exact pair_new S hT (.int _) rv
theorem jok_enumT {l : Addr} {xs : List D} (r : RelD K mu H (.tup xs) (.ref l)) : JOk K mu H (IteT K l) (enumD xs) (stands (.tup xs) xs) := by
  intro i mu1 H1 h1 e S st
  obtain ⟨_, vs, e2, ta, rs⟩ := (r.ext e).tup_inv
  cases e2
  refine ⟨fun d hd => ?_, fun hl => ⟨vs, ta.sq, by rw [← rs.length]; rw [enumD_length] at hl; exact hl⟩⟩
  obtain ⟨x, hx, rfl⟩ := enumD_get hd
  obtain ⟨v, hv, rv⟩ := rs.get hx
  refine ⟨⟨vs, v, ta.sq, hv⟩, ?_⟩
  rintro x H2 ⟨T, y, rfl, hT, rfl, hy⟩
  have := hy vs ta.sq
  rw [hv] at this; cases this
  exact pair_new S hT (.int _) rv
theorem zipD_get {xs ys : List D} {i : Nat} {d : D} (e : (zipD xs ys)[i]? = some d) : ∃ x y, xs[i]? = some x ∧ ys[i]? = some y ∧ d = .tup [x, y] := by
  unfold zipD at e
  rw [List.getElem?_map] at e
  obtain ⟨⟨k, x⟩, hc, rfl⟩ := Option.map_eq_some_iff.mp e
  rw [List.getElem?_zip_eq_some] at hc
  exact ⟨k, x, hc.1, hc.2, rfl⟩
theorem zipD_length {xs ys : List D} : (zipD xs ys).length = min xs.length ys.length := by unfold zipD; simp
theorem jok_zipL {m m2 : Nat} {l l2 : Addr} {xs ys : List D} (r : RelD K mu H (.ref m) (.ref l)) (r2 : RelD K mu H (.ref m2) (.ref l2)) : JOk K mu H (Itz K l l2) (zipD xs ys) (fun h => stands (.ref m) xs h && stands (.ref m2) ys h) := by
  intro i mu1 H1 h1 e S st
  simp only [Bool.and_eq_true] at st
  obtain ⟨vs, sq, rs⟩ := stands_sq S (r.ext e) st.1
  obtain ⟨ws, sq2, rs2⟩ := stands_sq S (r2.ext e) st.2
  refine ⟨fun d hd => ?_, fun hl => ⟨vs, ws, sq, sq2, by rw [zipD_length] at hl; rw [← rs.length, ← rs2.length]; omega⟩⟩
  obtain ⟨x, y, hx, hy, rfl⟩ := zipD_get hd
  obtain ⟨v, hv, rv⟩ := rs.get hx
  obtain ⟨w, hw, rw_⟩ := rs2.get hy
  refine ⟨⟨vs, ws, v, w, sq, sq2, hv, hw⟩, ?_⟩
  rintro z H2 ⟨T, y1, y2, rfl, hT, rfl, hy1, hy2⟩
  have := hy1 vs sq
  rw [hv] at this; cases this
  have := hy2 ws sq2
  rw [hw] at this; cases this
  exact pair_new S hT rv rw_
theorem jok_zipT {l l2 : Addr} {xs ys : List D} {src : VH → Bool} (r : RelD K mu H (.tup xs) (.ref l)) (r2 : RelD K mu H (.tup ys) (.ref l2)) : JOk K mu H (RZ.ItzT K l l2) (zipD xs ys) src := by
  intro i mu1 H1 h1 e S st
  obtain ⟨_, vs, e2, ta, rs⟩ := (r.ext e).tup_inv
  cases e2
  obtain ⟨_, ws, e2, ta2, rs2⟩ := (r2.ext e).tup_inv
  cases e2
  have sq := ta.sq
  have sq2 := ta2.sq
  refine ⟨fun d hd => ?_, fun hl => ⟨vs, ws, sq, sq2, by rw [zipD_length] at hl; rw [← rs.length, ← rs2.length]; omega⟩⟩
  obtain ⟨x, y, hx, hy, rfl⟩ := zipD_get hd
  obtain ⟨v, hv, rv⟩ := rs.get hx
  obtain ⟨w, hw, rw_⟩ := rs2.get hy
  refine ⟨⟨vs, ws, v, w, sq, sq2, hv, hw⟩, ?_⟩
  rintro z H2 ⟨T, y1, y2, rfl, hT, rfl, hy1, hy2⟩
  have := hy1 vs sq
  rw [hv] at this; cases this
  have := hy2 ws sq2
  rw [hw] at this; cases this
  exact pair_new S hT rv rw_
end
section
variable {tg : Expr}
theorem tE_exc {K : PySem.W.Frag} {mu : List Addr} {r : Env} {h h' : VH} {σ : L2.St} {H : Hp} {cc : Nat} (S : Sim K mu H h) (R : RelEnv K mu H r σ) (z : evE (callN P n) e r h = .exc cc h') {Q : VK} (q : ∀ mu' H', Ext mu H mu' H' → Sim K mu' H' h' → xw cls W cc H') : tE P cls n K W e σ H Q := by
  refine ⟨mu, r, h, S, R, ?_⟩
  rw [z]
  exact q
/-- walking a value -/
theorem s_seq (he : PE X e' (tE P cls n X.K W e)) : L2.PI X tg e' (tI P cls n X.K W (.seq e)) := by
  refine ⟨fun pins s σ H R' I ⟨mu, r, h, S, R, q⟩ => ?_⟩
  simp only [evI] at q
  cases z : evE (callN P n) e r h with
  | stuck => rw [z] at q; exact q.elim
  | exc c h' => rw [z] at q; exact (pi_list he).run pins s σ H R' I (tE_exc S R z q)
  | ok d h1 =>
    rw [z] at q
    have q : ∀ mu1 H1, Ext mu H mu1 H1 → Sim X.K mu1 H1 h1 → ∃ xs, eval_items h1 d = some xs ∧ ∀ J, JOk X.K mu1 H1 J xs (stands d xs) → R' J H1 := fun mu1 H1 e1 S1 => by
      obtain ⟨xs, ex, q⟩ := Post.opt (Post.later q e1)
      exact ⟨xs, ex, Post.ok q S1⟩
    cases d with
    | str x =>
      refine (pi_str he).run pins s σ H R' I ⟨mu, r, h, S, R, ?_⟩
      rw [z]
      intro mu1 H1 e1 S1 v rv
      obtain ⟨xs, ex, q⟩ := q mu1 H1 e1 S1
      cases ex
      exact ⟨x, rv.str_inv, q _ jok_str⟩
    | tup ds =>
      refine (pi_tup he).run pins s σ H R' I ⟨mu, r, h, S, R, ?_⟩
      rw [z]
      intro mu1 H1 e1 S1 v rv
      obtain ⟨xs, ex, q⟩ := q mu1 H1 e1 S1
      cases ex
      obtain ⟨a, vs, rfl, ta, rs⟩ := rv.tup_inv
      exact ⟨a, rfl, ⟨vs, ta.sq⟩, q _ (jok_tup rv)⟩
    | ref m =>
      refine (pi_list he).run pins s σ H R' I ⟨mu, r, h, S, R, ?_⟩
      rw [z]
      intro mu1 H1 e1 S1 v rv
      obtain ⟨xs, ex, q⟩ := q mu1 H1 e1 S1
      obtain ⟨a, vs, rfl, sq, rs⟩ := itemsL_rel S1 rv (show itemsL h1 (.ref m) = some xs from ex)
      exact ⟨a, rfl, ⟨vs, sq⟩, q _ (jok_list rv)⟩
    | _ =>
      obtain ⟨a, ha⟩ := show ∃ a, a = mu from ⟨_, rfl⟩
      refine (pi_list he).run pins s σ H R' I ⟨mu, r, h, S, R, ?_⟩
      rw [z]
      intro mu1 H1 e1 S1 v rv
      obtain ⟨xs, ex, q⟩ := q mu1 H1 e1 S1
      cases ex
theorem isr_inv {i : Int} (e : isr i = true) : -(2 ^ 62) ≤ i ∧ i < 2 ^ 62 := by
  unfold isr at e
  have e := of_decide_eq_true e
  omega
theorem s_rng1 (fr : Fr X "range") (he : PE X e' (tE P cls n X.K W e)) (pl : Plain e') : L2.PI X tg (.Call (.Name "range" p) [e'] [] pos) (tI P cls n X.K W (.rng1 e)) := by
  refine (pi_range1 fr.gl fr.no (pa_cons he pa_nil (pl.star _ _)) (pl.star _ _)).imp ?_
  rintro σ H R' ⟨mu, r, h, S, R, q⟩
  simp only [evI] at q
  refine ⟨mu, r, h, S, R, (Post.bnd q).imp fun d h1 mu1 H1 e1 S1 q1 v rv => ?_⟩
  cases d <;> first | exact q1.elim | skip
  rename_i i
  obtain ⟨g, q1⟩ := Post.grd q1
  obtain ⟨g1, g2⟩ := isr_inv g
  exact ⟨i, by rw [rv.int_inv], g1, g2, Post.ok q1 S1 _ jok_rng⟩
theorem rel_rng {K : PySem.W.Frag} {mu : List Addr} {H : Hp} : ∀ l : List Nat, RelDs K mu H (l.map fun k => D.int (0 + (k : Nat))) (l.map fun k => V.int (0 + (k : Nat)))
  | [] => .nil
  | k :: l => .cons (.int _) (rel_rng l)
theorem s_lrg (hc : X.calm = true) (fr : Fr X "list") (fr2 : Fr X "range") (he : PE X e' (tE P cls n X.K W e)) (pl : Plain e') : PE X (.Call (.Name "list" p) [.Call (.Name "range" p2) [e'] [] p3] [] pos) (tE P cls n X.K W (.lrg e)) := by
  refine (pe_listRg hc fr.gl fr.no (prg_1 fr2.gl fr2.no he (pl.star _ _))).imp ?_
  rintro σ H R' ⟨mu, r, h, S, R, q⟩
  simp only [evE] at q
  refine ⟨mu, r, h, S, R, (Post.bnd q).imp fun d h1 mu1 H1 e1 S1 q1 v rv => ?_⟩
  cases d <;> first | exact q1.elim | skip
  rename_i i
  obtain ⟨g, q1⟩ := Post.grd q1
  have g := of_decide_eq_true g
  refine ⟨i, by rw [rv.int_inv], ⟨by omega, by omega, by omega, by omega, by omega⟩, (PV.newL q1 S1 ?_).2⟩
  unfold rgV rngD
  rw [Int.sub_zero]
  exact rel_rng _
theorem s_rng2 (fr : Fr X "range") (ha : PE X a' (tE P cls n X.K W a)) (hb : PE X b' (tE P cls n X.K W b)) (pl : Plain a') (pl2 : Plain b') : L2.PI X tg (.Call (.Name "range" p) [a', b'] [] pos) (tI P cls n X.K W (.rng2 a b)) := by
  refine (pi_range2 fr.gl fr.no (pa_cons ha (pa_cons hb pa_nil (pl2.star _ _)) (pl.star _ _)) (by rw [pl.star, pl2.star]; rfl) (pl2.star _ _)).imp ?_
  rintro σ H R' ⟨mu, r, h, S, R, q⟩
  simp only [evI] at q
  refine ⟨mu, r, h, S, R, (Post.bnd q).imp fun d h1 mu1 H1 e1 S1 q1 v rv => ?_⟩
  refine ⟨mu1, r, h1, S1, R.ext e1, (Post.bnd q1).imp fun d2 h2 mu2 H2 e2 S2 q2 v2 rv2 => ?_⟩
  cases d <;> cases d2 <;> first | exact q2.elim | skip
  rename_i i j
  obtain ⟨g, q2⟩ := Post.grd q2
  simp only [Bool.and_eq_true] at g
  obtain ⟨g1, g2⟩ := isr_inv g.1
  obtain ⟨g3, g4⟩ := isr_inv g.2
  exact ⟨i, j, by rw [rv.int_inv, rv2.int_inv], ⟨g1, g2, g3, g4⟩, Post.ok q2 S2 _ jok_rng⟩
theorem s_revrng (fr : Fr X "reversed") (fr2 : Fr X "range") (he : PE X e' (tE P cls n X.K W e)) (pl : Plain e') : L2.PI X tg (.Call (.Name "reversed" p) [.Call (.Name "range" p2) [e'] [] p3] [] pos) (tI P cls n X.K W (.revrng e)) := by
  refine (pi_revR fr.gl fr.no (prg_1 fr2.gl fr2.no he (pl.star _ _)) rfl).imp ?_
  rintro σ H R' ⟨mu, r, h, S, R, q⟩
  simp only [evI] at q
  refine ⟨mu, r, h, S, R, (Post.bnd q).imp fun d h1 mu1 H1 e1 S1 q1 v rv => ?_⟩
  cases d <;> first | exact q1.elim | skip
  rename_i i
  obtain ⟨g, q1⟩ := Post.grd q1
  obtain ⟨g1, g2⟩ := isr_inv g
  refine ⟨i, by rw [rv.int_inv], by omega, by omega, g1, g2, Post.ok q1 S1 _ ?_⟩
  rw [Int.sub_zero]
  exact jok_revrng
theorem s_enum {es : List Expr} {kk} (fr : Fr X "enumerate") (he : PE X e' (tE P cls n X.K W e)) (pl : Plain e') : L2.PI X (.Tuple es kk p2) (.Call (.Name "enumerate" p) [e'] [] pos) (tI P cls n X.K W (.enum e)) := by
  refine (pi_enumA fr.gl fr.no (pa_cons he pa_nil (pl.star _ _)) (pl.star _ _)).imp ?_
  rintro σ H R' ⟨mu, r, h, S, R, q⟩
  simp only [evI] at q
  refine ⟨mu, r, h, S, R, (Post.bnd q).imp fun d h1 mu1 H1 e1 S1 q1 v rv => ?_⟩
  obtain ⟨xs, ex, q1⟩ := Post.opt q1
  have q1 := Post.ok q1 S1
  cases d <;> first | cases ex | skip
  · obtain ⟨l, vs, rfl, ta, rs⟩ := rv.tup_inv
    exact ⟨l, vs, rfl, .inr ⟨ta.sq, q1 _ (jok_enumT rv)⟩⟩
  · obtain ⟨l, vs, rfl, sq, rs⟩ := itemsL_rel S1 rv ex
    exact ⟨l, vs, rfl, .inl ⟨sq, q1 _ (jok_enum rv)⟩⟩
theorem s_zip {es : List Expr} {kk} (fr : Fr X "zip") (ha : PE X a' (tE P cls n X.K W a)) (hb : PE X b' (tE P cls n X.K W b)) (pl : Plain a') (pl2 : Plain b') : L2.PI X (.Tuple es kk p2) (.Call (.Name "zip" p) [a', b'] [] pos) (tI P cls n X.K W (.zip a b)) := by
  refine (RZ.pi_zipA fr.gl fr.no (pa_cons ha (pa_cons hb pa_nil (pl2.star _ _)) (pl.star _ _)) (pl.star _ _) (by rw [pl2.star]; rfl)).imp ?_
  rintro σ H R' ⟨mu, r, h, S, R, q⟩
  simp only [evI] at q
  refine ⟨mu, r, h, S, R, (Post.bnd q).imp fun d h1 mu1 H1 e1 S1 q1 v rv => ?_⟩
  refine ⟨mu1, r, h1, S1, R.ext e1, (Post.bnd q1).imp fun d2 h2 mu2 H2 e2 S2 q2 v2 rv2 => ?_⟩
  obtain ⟨xs, ex, q2⟩ := Post.opt q2
  obtain ⟨ys, ey, q2⟩ := Post.opt q2
  obtain ⟨g, q2⟩ := Post.grd q2
  have q2 := Post.ok q2 S2
  have rv := rv.ext e2
  cases d <;> first | cases ex | skip
  · cases d2 <;> first | cases ey | skip
    · obtain ⟨l, vs, rfl, ta, rs⟩ := rv.tup_inv
      obtain ⟨l2, vs2, rfl, ta2, rs2⟩ := rv2.tup_inv
      exact ⟨l, l2, vs, vs2, rfl, .inr ⟨ta.sq, ta2.sq, q2 _ (jok_zipT rv rv2)⟩⟩
    · cases g
  · cases d2 <;> first | cases ey | skip
    · cases g
    · obtain ⟨l, vs, rfl, sq, rs⟩ := itemsL_rel S2 rv ex
      obtain ⟨l2, vs2, rfl, sq2, rs2⟩ := itemsL_rel S2 rv2 ey
      exact ⟨l, l2, vs, vs2, rfl, .inl ⟨sq, sq2, q2 _ (jok_zipL rv rv2)⟩⟩
theorem s_rev (fr : Fr X "reversed") (he : PE X e' (tE P cls n X.K W e)) (pl : Plain e') : L2.PI X tg (.Call (.Name "reversed" p) [e'] [] pos) (tI P cls n X.K W (.rev e)) := by
  refine (RT.pi_revA fr.gl fr.no he (pl.star _ _)).imp ?_
  rintro σ H R' ⟨mu, r, h, S, R, q⟩
  simp only [evI] at q
  refine ⟨mu, r, h, S, R, (Post.bnd q).imp fun d h1 mu1 H1 e1 S1 q1 v rv => ?_⟩
  obtain ⟨xs, ex, q1⟩ := Post.opt q1
  have q1 := Post.ok q1 S1
  cases d <;> first | cases ex | skip
  · obtain ⟨l, vs, rfl, ta, rs⟩ := rv.tup_inv
    exact ⟨l, vs, rfl, .inr ⟨ta.sq, q1 _ (jok_revT rs.length.symm rv)⟩⟩
  · obtain ⟨l, vs, rfl, sq, rs⟩ := itemsL_rel S1 rv ex
    exact ⟨l, vs, rfl, .inl ⟨sq, q1 _ (jok_revL rs.length.symm rv)⟩⟩
end
end
end PI
end
section
set_option maxRecDepth 100000
set_option maxHeartbeats 4000000
/-! t[::-1] of a tuple (own work). -/
namespace PI
open PySem PySem.Spec PyProof.Rows L2 HT
section
variable {prog : Program} {w : World} {A : Around} {E : Value → Shared → Prop} {s : Shared}
theorem rev_places (n : Nat) : Builtin.Slice.slicePlaces ((n : Int) - 1) (-1) (-1) = n := by
  unfold Builtin.Slice.slicePlaces
  have h1 : ¬ ((-1 : Int) > 0) := by omega
  have e : (n : Int) - 1 - -1 - 1 = (n : Int) - 1 := by omega
  rw [if_neg h1, e, show (- -1 : Int) = 1 by decide, Int.ediv_one]
  split <;> omega
theorem fmr_congr {α β : Type} {f g : α → Option β} : ∀ {l : List α}, (∀ x ∈ l, f x = g x) → l.filterMap f = l.filterMap g
  | [], _ => rfl
  | x :: l, h => by
    have e := fmr_congr (l := l) fun y hy => h y (List.mem_cons_of_mem _ hy)
    rw [List.filterMap_cons, List.filterMap_cons, h x List.mem_cons_self, e]
theorem rev_pick (xs : Array Value) : ((List.range xs.size).filterMap fun (m : Nat) => xs[(((xs.size : Int) - 1) + (m : Int) * (-1)).toNat]?).toArray = xs.toList.reverse.toArray := by
  rw [← PySem.W.krv_all xs, ← List.filterMap_reverse, ← PySem.W.krv_range, List.filterMap_map]
  congr 1
  refine fmr_congr fun m hm => ?_
  have := List.mem_range.mp hm
  show xs[_]? = xs[xs.size - 1 - m]?
  congr 1
  omega
theorem rev_applied {sl : Addr} {n : Nat} {t : Tok} {Q : Int × Int × Nat → Shared → Prop} (hs : s.heap.IsSliceOf sl .none .none (.int (-1) t)) (h : Q ((n : Int) - 1, -1, n) s) :
    wpAny (model prog w) A (Builtin.Slice.sliceApplied (.ref sl) (pure (n : Int))) Q E s := by
  obtain ⟨os, hos, hcs, hds⟩ := id hs
  unfold Builtin.Slice.sliceApplied Builtin.Slice.sliceFields
  refine wpAny_bind (wpAny_bind (wpAny_field hos hds (x := .none) rfl (wpAny_bind (wpAny_field hos hds (x := .none) rfl (wpAny_bind (wpAny_field hos hds (x := .int (-1) t) rfl (wpAny_pure ?_)))))))
  refine wpAny_bind (slicePart_int ?_)
  show wpAny _ _ (if ((-1 : Int) == 0) = true then _ else _) _ _ s
  rw [if_neg (by decide)]
  refine wpAny_bind (slicePart_none (wpAny_bind (slicePart_none (wpAny_bind (wpAny_pure ?_)))))
  show wpAny _ _ (pure ((n : Int) - 1, (-1 : Int), Builtin.Slice.slicePlaces ((n : Int) - 1) (-1) (-1))) _ _ s
  rw [rev_places]
  exact wpAny_pure h
theorem getItem_tuple_rev {t sl : Addr} {items : Array Value} {tk : Tok} {Q : Value → Shared → Prop} (ht : IsTup s.heap t items) (hs : s.heap.IsSliceOf sl .none .none (.int (-1) tk))
    (h : Q (.ref s.heap.objs.size) { s with heap := s.heap.push { cls := .type "tuple", data := .seq items.toList.reverse.toArray } })
    (hsz : items.size ≤ sizeLine) : wpAny (model prog w) A (getItem (.ref t) (.ref sl)) Q E s := by
  have hz : sizeOk (.seq items.toList.reverse.toArray) := by
    show items.toList.reverse.toArray.size ≤ sizeLine
    rw [List.size_toArray, List.length_reverse, Array.length_toList]
    exact hsz
  obtain ⟨os, hos, hcs, hds⟩ := id hs
  have hTs : s.TypeIs (.ref sl) "slice" := ⟨os, hos, hcs⟩
  unfold getItem
  try with_reducible refine wpAny_holding ?_
  first | refine wpAny_bind (wpAny_pure ?_) | skip
  refine wpAny_bind (wpAny_sequenceKey ht.typeIs (by decide) ?_)
  refine wpAny_bind (wpAny_callSpecial?_slot (name := Str.ofString "__getitem__") ht.typeIs PyProof.Rows.slot_tuple_getitem
    (wpAny_call_entry PyProof.Rows.slot_tuple_getitem ht.typeIs entry_tuple_getitem ?_ (args_tuple_getitem _ _)))
  show wpAny _ _ (Builtin.Tuple.tupleItemsOf (.ref t) >>= _) _ _ s
  refine wpAny_bind (tupleItemsOf_ ht ?_)
  refine wpAny_bind (wpAny_typeOf hTs ?_)
  rw [if_pos (by decide)]
  refine wpAny_bind (rev_applied hs ?_)
  have hno : ¬ ((((items.size : Int) - 1) == 0 && (-1 : Int) == 1 && items.size == items.size) = true) := by
    intro q
    rw [Bool.and_eq_true, Bool.and_eq_true] at q
    exact absurd q.1.2 (by decide)
  show wpAny _ _ (if (((items.size : Int) - 1) == 0 && (-1 : Int) == 1 && items.size == items.size) = true then _ else _) _ _ s
  rw [if_neg hno, rev_pick]
  first
    | exact wpAny_bind (m := Builtin.Tuple.tupleExact _) (wpAny_newObj_type (wpAny_pure ⟨_, rfl, wpAny_pure h⟩) hz)
    | exact wpAny_bind (m := Builtin.Tuple.tupleExact _) (wpAny_newObj_type (wpAny_bind (wpAny_pure (wpAny_pure ⟨_, rfl, wpAny_pure h⟩))) hz)
    | exact wpAny_bind (wpAny_bind (m := Builtin.Tuple.tupleExact _) (wpAny_newObj_type (wpAny_pure (wpAny_pure ⟨_, rfl, wpAny_pure h⟩)) hz))
    | exact wpAny_bind (wpAny_bind (m := Builtin.Tuple.tupleExact _) (wpAny_newObj_type (wpAny_pure ⟨_, rfl, wpAny_pure h⟩) hz))
end
section
variable {X : Cx}
def tRevT (K : PySem.W.Frag) (te : TE) : TE := fun σ H Q => te σ H fun x H1 => ∃ a xs, x = .ref a ∧ SqT K H1 a xs ∧ ∀ p, H1 p = none → Q (.ref p) (upd H1 p (.tup xs.reverse))
theorem pe_revT {e : Expr} {te : TE} {k : Nat} {p1 p2 p3 pos : Pos} (he : PE X e te) : PE X (.Subscript e (.Slice none none (some (.UnaryOp .USub (.Constant (.int 1) k p1) p2)) p3) pos) (tRevT X.K te) := by
  refine ⟨fun pins s σ H Q I h => ?_⟩
  refine Subscript_ (thn (he.run pins s σ H _ I h) fun v s1 ⟨x, H1, I1, r1, q1⟩ => ?_)
  obtain ⟨a, xs, ex, hx, q⟩ := q1
  subst ex
  cases r1
  have hst : PO X (some (.UnaryOp .USub (.Constant (.int 1) k p1) p2)) (tPart (tUn (rU fun i => .int (-i)) (tC (.int 1)))) := po_some (pe_un un_neg pe_int)
  refine wpAny_Slice (thn (po_none.run pins s1 σ H1 (fun o H2 => o = none ∧ H2 = H1) I1 ⟨rfl, rfl⟩) fun vl s2 ⟨l, H2, I2, pl, el, e2⟩ => ?_)
  subst el e2
  refine thn (po_none.run pins s2 σ H2 (fun o H3 => o = none ∧ H3 = H2) I2 ⟨rfl, rfl⟩) fun vu s3 ⟨u, H3, I3, pu, eu, e3⟩ => ?_
  subst eu e3
  refine thn (hst.run pins s3 σ H3 (fun o H4 => o = some (-1) ∧ H4 = H3) I3 ⟨1, rfl, -1, rfl, rfl, rfl⟩) fun vs s4 ⟨o, H4, I4, ps, eo, e4⟩ => ?_
  subst eo e4
  cases pl
  cases pu
  cases ps
  rename_i tk _
  have I5 : Inv X pins σ H4 { s4 with heap := s4.heap.push { cls := .type "slice", data := .fields #[.none, .none, .int (-1) tk] } } := I4.kept (t' := s4.toks) fun b ob q => Heap.get?_push_of_some _ q
  obtain ⟨its, r, ht, hz⟩ := I5.tuple hx
  have hlen := r.length
  refine tail_any (ops := [.ref a, .ref s4.heap.objs.size]) ht.typeIs (PyProof.Rows.slot_tuple_getitem.lookup) ?_ (by with_unfolding_all rfl)
  refine getItem_tuple_rev ht (Heap.IsSliceOf.new _ _ _ _) ?_ (by rw [List.size_toArray]; omega)
  refine ⟨.ref _, _, I5.laid (t' := s4.toks) (o := .tup xs.reverse) (fun b ob q => Heap.get?_push_of_some _ q) (Nat.le_refl _) ?_, rfl, q _ (I5.hok.fresh (Nat.le_refl _))⟩
  exact ⟨by rw [List.length_reverse]; exact hz, _, r.reverse, IsTup.new _ _⟩
end
section
variable {G : Gam} {P : Prog} {cls : Nat → Addr} {n : Nat} {X : Cx} {W : WX} {a : CE} {a' : Expr} {k : Nat} {p1 p2 p3 p : Pos}
theorem s_rvs (ha : PE X a' (tE P cls n X.K W a)) : PE X (.Subscript a' (.Slice none none (some (.UnaryOp .USub (.Constant (.int 1) k p1) p2)) p3) p) (tE P cls n X.K W (.rvs a)) := by
  refine (pe_revT ha).imp ?_
  rintro σ H Q ⟨mu, r, h, S, R, q⟩
  simp only [evE] at q
  refine ⟨mu, r, h, S, R, (Post.bnd q).imp fun d h1 mu1 H1 e1 S1 q1 v rv => ?_⟩
  cases d <;> first | exact q1.elim | skip
  obtain ⟨l, vs, rfl, ta, ra⟩ := rv.tup_inv
  exact ⟨l, vs, rfl, ta.sq, PV.tup q1 S1 ra.reverse⟩
end
end PI
end
section
set_option maxRecDepth 100000
set_option maxHeartbeats 4000000
/-! Comprehensions; all expressions together (own work). -/
namespace PI
open PySem PySem.Spec PyProof.Rows L2
section
variable {X : Cx} {G : Gam} {P : Prog} {cls : Nat → Addr} {n : Nat} {bk : Option Scope} {N : List Str} {sc : Scope} {W : WX} {pos p : Pos}
theorem Post.bndN {α β : Type} {K : PySem.W.Frag} {mu : List Addr} {H : Hp} {m : Res α} {f : α → VH → Res β} {k : β → VH → List Addr → Hp → Prop} {x x' : Nat → Hp → Prop} (p : Post K mu H (PI.bndN m f) k x) : Post K mu H m (fun a h mu' H' => Post K mu' H' (f a h) k x) x' := by
  cases m with
  | ok a h1 => exact Post.bnd (m := .ok a h1) (f := f) p
  | exc c h1 => exact p.elim
  | stuck => exact p
/-- nothing is raised -/
abbrev W0 : WX := fun _ _ _ _ => False
theorem wf_blk (w : WF G P cls n bk N sc X) {scope : Scope} (s : Shared) (H : Hp) (C : Addr) (cl : List (Str × Addr)) (fp : List Addr) : WF G P cls n (some scope) N (relS scope sc) (X.blk s H scope (compEnvC scope cl C X.env) fp) :=
  ⟨w.calm, w.nd, w.N, by rw [← w.sc]; rfl, w.room, rfl, w.fns, w.free, w.cons, w.gcd⟩
theorem own_snd (N : List Str) (is : List Nat) : (ownOf N is).map (·.2) = is := by
  unfold ownOf
  rw [List.map_map]
  conv => rhs; rw [← List.map_id is]
  rfl
/-- the item's place among those to go -/
theorem drop_cases {α : Type} (xs : List α) (i : Nat) (hi : i ≤ xs.length) : (i = xs.length ∧ xs.drop i = []) ∨ ∃ x, i < xs.length ∧ xs[i]? = some x ∧ xs.drop i = x :: xs.drop (i + 1) := by
  rcases Nat.lt_or_eq_of_le hi with h | h
  · exact .inr ⟨xs[i], h, List.getElem?_eq_getElem h, List.drop_eq_getElem_cons h⟩
  · exact .inl ⟨h, by rw [h]; exact List.drop_length⟩
variable {g : TG} {it : CI} {e k v : CE} {tg it' e' k' v' : Expr} {scope : Scope}
/-- the test of a comprehension -/
def tIf (P : Prog) (cls : Nat → Addr) (n : Nat) (K : PySem.W.Frag) : CO → TT
  | .none => tYes
  | .some c => tT P cls n K W0 c
/-- what a turn does behind the target -/
def tnB (P : Prog) (n : Nat) (e : CE) : CO → Env → VH → Res (Option PI.D)
  | .none, r', h => bnd (evE (callN P n) e r' h) fun y h => .ok (some y) h
  | .some c, r', h => bnd (evE (callN P n) c r' h) fun d h => opt (truthD h d) fun k => cond k (bnd (evE (callN P n) e r' h) fun y h => .ok (some y) h) (.ok none h)
theorem lc_loop {c : CO} {K : PySem.W.Frag} {mu1 : List Addr} {H1 : Hp} {h1 : VH} {s : List PI.D × (VH → Bool)} {r : Env} {σ : L2.St} {J : It} {Q : VK} {DA : Addr} (turn : PI.D → VH → Res (Option PI.D)) (hturn : ∀ x h, turn x h = bnd (asgG (callN P n) g x (wipeE r (slotsG g)) h) fun r' h => tnB P n e c r' h)
    (R1 : RelEnv K mu1 H1 r σ) (S1 : Sim K mu1 H1 h1) (hJ : JOk K mu1 H1 J s.1 s.2) (hD : H1 DA = none) (q1 : Post K mu1 H1 (bnd (loopC s.2 turn h1.length s.1 (h1 ++ [.lst []])) fun _ h' => .ok (.ref h1.length) h') (fun z _ mu2 H2 => ∀ v, RelD K mu2 H2 z v → Q v H2) (xw cls W)) :
    ∃ Wv : Nat → Nat → Hp → Prop, (∃ m, Wv 0 m (upd H1 DA (.lst []))) ∧ ∀ i m H, Wv i m H →
      (J.stop i H ∧ Q (.ref DA) H) ∨ (J.go i H ∧ ∃ Nx : Hp → Prop, (∀ H', Nx H' → ∃ m', m' < m ∧ Wv (i + 1) m' H') ∧ ∀ x H', J.yld i H x H' → tG P cls n K W0 g x (wipe σ (slotsG g)) H' fun σ2 H2 => wipe σ2 (slotsG g) = wipe σ (slotsG g) ∧ tIf P cls n K c σ2 H2 fun b H3 =>
        if b = true then tE P cls n K W0 e σ2 H3 fun y H4 => ∃ acc, H4 DA = some (.lst acc) ∧ acc.length < sizeLine ∧ Nx (upd H4 DA (.lst (acc ++ [y]))) else Nx H3) := by
  obtain ⟨S2, e2, rD⟩ := S1.newL hD .nil
  have q2 := Post.later q1 e2
  have hmu : (mu1 ++ [DA])[h1.length]? = some DA := by rw [← S1.len]; simp
  refine ⟨fun i m H' => m = s.1.length - i ∧ i ≤ s.1.length ∧ ∃ mu' h', Ext mu1 H1 mu' H' ∧ Sim K mu' H' h' ∧ mu'[h1.length]? = some DA ∧ Post K mu' H' (bnd (loopC s.2 turn h1.length (s.1.drop i) h') fun _ h'' => .ok (.ref h1.length) h'') (fun z _ mu2 H2 => ∀ v, RelD K mu2 H2 z v → Q v H2) (xw cls W), ⟨s.1.length, by simp, Nat.zero_le _, _, _, e2, S2, hmu, by rw [List.drop_zero]; exact q2⟩, ?_⟩
  rintro i m H' ⟨rfl, hi, mu', h', e', S', hm', q'⟩
  rcases drop_cases s.1 i hi with ⟨hl, hd⟩ | ⟨x, hl, hx, hd⟩
  · rw [hd] at q'
    unfold loopC at q'
    obtain ⟨st, q'⟩ := Post.grd (Post.bnd q')
    refine .inl ⟨(hJ i mu' H' h' e' S' st).2 (by omega), ?_⟩
    exact Post.ok (Post.ok q' S') S' _ (.ref hm')
  · rw [hd] at q'
    unfold loopC at q'
    obtain ⟨st, q'⟩ := Post.grd (Post.bnd q')
    obtain ⟨go, yl⟩ := (hJ i mu' H' h' e' S' st).1 x hx
    refine .inr ⟨go, fun H2 => s.1.length - (i + 1) = s.1.length - (i + 1) ∧ i + 1 ≤ s.1.length ∧ ∃ mu' h', Ext mu1 H1 mu' H2 ∧ Sim K mu' H2 h' ∧ mu'[h1.length]? = some DA ∧ Post K mu' H2 (bnd (loopC s.2 turn h1.length (s.1.drop (i + 1)) h') fun _ h'' => .ok (.ref h1.length) h'') (fun z _ mu2 H2 => ∀ v, RelD K mu2 H2 z v → Q v H2) (xw cls W), fun H2 ⟨_, z2, z3⟩ => ⟨s.1.length - (i + 1), by omega, rfl, z2, z3⟩, fun v H2 hy => ?_⟩
    obtain ⟨e3, S3, rv⟩ := yl v H2 hy
    have q3 := Post.later (Post.bndN (x' := xw cls W0) q') e3
    rw [hturn] at q3
    refine ⟨mu', wipeE r (slotsG g), h', x, S3, ((R1.ext e').ext e3).wipe _, rv, (Post.bnd q3).imp fun r' h4 mu4 H4 e4 S4 q4 σ2 R4 o4 => ⟨off_wipe o4, ?_⟩⟩
    -- what is left once an item came
    have item : ∀ {mu4 : List Addr} {H4 : Hp} {h4 : VH}, Ext mu' H2 mu4 H4 → Sim K mu4 H4 h4 → RelEnv K mu4 H4 r' σ2 → Post K mu4 H4 (bnd (evE (callN P n) e r' h4) fun y h => .ok (some y) h) (fun o h mu5 H5 => Post K mu5 H5 (match o with
        | none => loopC s.2 turn h1.length (s.1.drop (i + 1)) h
        | some y => asL h (.ref h1.length) fun _ acc => grd (decide (acc.length < lim)) (loopC s.2 turn h1.length (s.1.drop (i + 1)) (h.set h1.length (.lst (acc ++ [y]))))) (fun _ h'' mu6 H6 => Post K mu6 H6 (.ok (.ref h1.length) h'') (fun z _ mu2 H2 => ∀ v, RelD K mu2 H2 z v → Q v H2) (xw cls W)) (xw cls W)) (xw cls W0) → tE P cls n K W0 e σ2 H4 fun y H5 => ∃ acc, H5 DA = some (.lst acc) ∧ acc.length < sizeLine ∧ (s.1.length - (i + 1) = s.1.length - (i + 1) ∧ i + 1 ≤ s.1.length ∧ ∃ mu' h', Ext mu1 H1 mu' (upd H5 DA (.lst (acc ++ [y]))) ∧ Sim K mu' (upd H5 DA (.lst (acc ++ [y]))) h' ∧ mu'[h1.length]? = some DA ∧ Post K mu' (upd H5 DA (.lst (acc ++ [y]))) (bnd (loopC s.2 turn h1.length (s.1.drop (i + 1)) h') fun _ h'' => .ok (.ref h1.length) h'') (fun z _ mu2 H2 => ∀ v, RelD K mu2 H2 z v → Q v H2) (xw cls W)) := by
      intro mu4 H4 h4 e4 S4 R4 q4
      refine ⟨mu4, r', h4, S4, R4, (Post.bnd q4).imp fun y h5 mu5 H5 e5 S5 q5 v5 rv5 => ?_⟩
      have q5 := Post.ok q5 S5
      dsimp only at q5
      have hm5 : mu5[h1.length]? = some DA := e5.get (e4.get (e3.get hm'))
      obtain ⟨_, _, acc, e0, _, _, ea, q5⟩ := Post.asL q5 (.ref hm5)
      cases e0
      · obtain ⟨lt, q5⟩ := Post.grd q5
        obtain ⟨vs, hv, rr⟩ := S5.lst hm5 ea
        obtain ⟨S6, e6⟩ := S5.putL hm5 ea (rr.append (.cons rv5 .nil))
        refine ⟨vs, hv, by rw [← rr.length]; exact of_decide_eq_true lt, rfl, hl, mu5, _, (((e'.trans e3).trans e4).trans e5).trans e6, S6, hm5, ?_⟩
        have q6 := Post.later q5 e6
        revert q6
        cases loopC s.2 turn h1.length (s.1.drop (i + 1)) (h5.set h1.length (.lst (acc ++ [y]))) with
        | ok u h6 => exact fun q6 mu7 H7 e7 S7 => Post.ok (q6 mu7 H7 e7 S7) S7
        | exc c h6 => exact fun q6 => q6
        | stuck => exact fun q6 => q6
    cases c with
    | none =>
      exact item e4 S4 R4 q4
    | some c =>
      refine ⟨mu4, r', h4, S4, R4, (Post.bnd q4).imp fun d h5 mu5 H5 e5 S5 q5 => ?_⟩
      obtain ⟨b, eb, q5⟩ := Post.opt q5
      refine ⟨b, eb, ?_⟩
      cases b with
      | true =>
        rw [if_pos rfl]
        exact item (e4.trans e5) S5 (R4.ext e5) q5
      | false =>
        rw [if_neg Bool.false_ne_true]
        have q6 := Post.ok q5 S5
        dsimp only at q6
        refine ⟨rfl, hl, mu5, h5, ((e'.trans e3).trans e4).trans e5, S5, e5.get (e4.get (e3.get hm')), ?_⟩
        revert q6
        cases loopC s.2 turn h1.length (s.1.drop (i + 1)) h5 with
        | ok u h6 => exact fun q6 mu7 H7 e7 S7 => Post.ok (q6 mu7 H7 e7 S7) S7
        | exc c h6 => exact fun q6 => q6
        | stuck => exact fun q6 => q6
theorem go_lc {c : CO} {K : PySem.W.Frag} : ∀ σ H Q, tE P cls n K W (.lc g it c e) σ H Q → tLc (tI P cls n K W it) (tG P cls n K W0 g) (tIf P cls n K c) (tE P cls n K W0 e) (slotsG g) σ H Q := by
  rintro σ H Q ⟨mu, r, h, S, R, q⟩
  simp only [evE] at q
  refine ⟨mu, r, h, S, R, (Post.bnd q).imp fun s h1 mu1 H1 e1 S1 q1 J hJ DA hD => ?_⟩
  exact lc_loop _ (fun _ _ => by cases c <;> rfl) (R.ext e1) S1 hJ hD q1
theorem s_lc {c : CO} {ifs : List Expr} (w : WF G P cls n bk N sc X) (ok : blkC N sc scope (ownOf N (slotsG g)) = true) (hi : L2.PI X tg it' (tI P cls n X.K W it)) (fo : ∀ x, foldedSetIterable it' X.env x = pure x)
    (hg : ∀ (s : Shared) (H : Hp) (C : Addr) (cl : List (Str × Addr)) (fp : List Addr), PG (X.blk s H scope (compEnvC scope cl C X.env) fp) tg (tG P cls n X.K W0 g))
    (ht : ∀ (s : Shared) (H : Hp) (C : Addr) (cl : List (Str × Addr)) (fp : List Addr), PTs (X.blk s H scope (compEnvC scope cl C X.env) fp) ifs (tIf P cls n X.K c))
    (he : ∀ (s : Shared) (H : Hp) (C : Addr) (cl : List (Str × Addr)) (fp : List Addr), PE (X.blk s H scope (compEnvC scope cl C X.env) fp) e' (tE P cls n X.K W0 e)) :
    PE X (.ListComp e' [⟨tg, it', ifs, 0⟩] scope pos) (tE P cls n X.K W (.lc g it c e)) := by
  refine (pe_lc w.calm (by rw [w.N]; exact w.nd) hi (blkOk_by (by rw [w.N, w.sc]; exact ok)) hg ht he fo).imp ?_
  rw [own_snd]
  exact go_lc
theorem s_setLc {c : CO} {ifs : List Expr} {i : Nat} {y : Str} {py spos : Pos} (w : WF G P cls n bk N sc X) (ok : blkC N sc scope (ownOf N (slotsG g)) = true) (hi : L2.PI X tg it' (tI P cls n X.K W it)) (fo : ∀ x, foldedSetIterable it' X.env x = pure x)
    (hg : ∀ (s : Shared) (H : Hp) (C : Addr) (cl : List (Str × Addr)) (fp : List Addr), PG (X.blk s H scope (compEnvC scope cl C X.env) fp) tg (tG P cls n X.K W0 g))
    (ht : ∀ (s : Shared) (H : Hp) (C : Addr) (cl : List (Str × Addr)) (fp : List Addr), PTs (X.blk s H scope (compEnvC scope cl C X.env) fp) ifs (tIf P cls n X.K c))
    (he : ∀ (s : Shared) (H : Hp) (C : Addr) (cl : List (Str × Addr)) (fp : List Addr), PE (X.blk s H scope (compEnvC scope cl C X.env) fp) e' (tE P cls n X.K W0 e))
    (hy : N[i]? = some y) (hyl : sc.names.lookup y = some .local) (hsw : swapsWith (.ListComp e' [⟨tg, it', ifs, 0⟩] scope pos) (some (.Name y py)) spos.line X.env = pure true) :
    PS X (.Assign [.Name y py] (.ListComp e' [⟨tg, it', ifs, 0⟩] scope pos) spos) (tAsg (tE P cls n X.K W (.lc g it c e)) (gName i)) := by
  have h := ps_setLc (i := i) w.calm (by rw [w.N]; exact w.nd) (by rw [w.N]; exact hy) (by rw [w.sc]; exact hyl) hsw hi (blkOk_by (by rw [w.N, w.sc]; exact ok)) hg ht he fo
  refine ⟨fun pins s σ H D I q => h.run pins s σ H D I ?_⟩
  rw [own_snd]
  exact go_lc _ _ _ q
theorem dc_loop {K : PySem.W.Frag} {mu1 : List Addr} {H1 : Hp} {h1 : VH} {s : List PI.D × (VH → Bool)} {r : Env} {σ : L2.St} {J : It} {Q : VK} {DA : Addr} (turn : PI.D → VH → Res (PI.D × PI.D)) (hturn : ∀ x h, turn x h = bnd (asgG (callN P n) g x (wipeE r (slotsG g)) h) fun r' h => bnd (evE (callN P n) k r' h) fun y h => bnd (evE (callN P n) v r' h) fun z h => .ok (y, z) h)
    (R1 : RelEnv K mu1 H1 r σ) (S1 : Sim K mu1 H1 h1) (hJ : JOk K mu1 H1 J s.1 s.2) (hD : H1 DA = none) (q1 : Post K mu1 H1 (bnd (loopK s.2 turn h1.length s.1 (h1 ++ [.dK false []])) fun _ h' => .ok (.ref h1.length) h') (fun z _ mu2 H2 => ∀ v, RelD K mu2 H2 z v → Q v H2) (xw cls W)) :
    ∃ Wv : Nat → Nat → Hp → Prop, (∃ m, Wv 0 m (upd H1 DA (.dK []))) ∧ ∀ i m H, Wv i m H →
      (J.stop i H ∧ Q (.ref DA) H) ∨ (J.go i H ∧ ∃ Nx : Hp → Prop, (∀ H', Nx H' → ∃ m', m' < m ∧ Wv (i + 1) m' H') ∧ ∀ x H', J.yld i H x H' → tG P cls n K W0 g x (wipe σ (slotsG g)) H' fun σ2 H2 => wipe σ2 (slotsG g) = wipe σ (slotsG g) ∧ tYes σ2 H2 fun b H3 =>
        if b = true then tE P cls n K W0 k σ2 H3 fun y H4 => tE P cls n K W0 v σ2 H4 fun z H5 => ∃ kvs k, y = kV k ∧ H5 DA = some (.dK kvs) ∧ kvs.length < sizeLine ∧ Nx (upd H5 DA (.dK (putK kvs k z))) else Nx H3) := by
  have e2 := ext_new (mu := mu1) (ob := .dK []) hD [DA]
  have S2 : Sim K (mu1 ++ [DA]) (upd H1 DA (.dK [])) (h1 ++ [.dK false []]) := S1.newO hD ⟨[], upd_same, .nil⟩ rfl
  have q2 := Post.later q1 e2
  have hmu : (mu1 ++ [DA])[h1.length]? = some DA := by rw [← S1.len]; simp
  refine ⟨fun i m H' => m = s.1.length - i ∧ i ≤ s.1.length ∧ ∃ mu' h', Ext mu1 H1 mu' H' ∧ Sim K mu' H' h' ∧ mu'[h1.length]? = some DA ∧ Post K mu' H' (bnd (loopK s.2 turn h1.length (s.1.drop i) h') fun _ h'' => .ok (.ref h1.length) h'') (fun z _ mu2 H2 => ∀ v, RelD K mu2 H2 z v → Q v H2) (xw cls W), ⟨s.1.length, by simp, Nat.zero_le _, _, _, e2, S2, hmu, by rw [List.drop_zero]; exact q2⟩, ?_⟩
  rintro i m H' ⟨rfl, hi, mu', h', e', S', hm', q'⟩
  rcases drop_cases s.1 i hi with ⟨hl, hd⟩ | ⟨x, hl, hx, hd⟩
  · rw [hd] at q'
    unfold loopK at q'
    obtain ⟨st, q'⟩ := Post.grd (Post.bnd q')
    refine .inl ⟨(hJ i mu' H' h' e' S' st).2 (by omega), ?_⟩
    exact Post.ok (Post.ok q' S') S' _ (.ref hm')
  · rw [hd] at q'
    unfold loopK at q'
    obtain ⟨st, q'⟩ := Post.grd (Post.bnd q')
    obtain ⟨go, yl⟩ := (hJ i mu' H' h' e' S' st).1 x hx
    refine .inr ⟨go, fun H2 => s.1.length - (i + 1) = s.1.length - (i + 1) ∧ i + 1 ≤ s.1.length ∧ ∃ mu' h', Ext mu1 H1 mu' H2 ∧ Sim K mu' H2 h' ∧ mu'[h1.length]? = some DA ∧ Post K mu' H2 (bnd (loopK s.2 turn h1.length (s.1.drop (i + 1)) h') fun _ h'' => .ok (.ref h1.length) h'') (fun z _ mu2 H2 => ∀ v, RelD K mu2 H2 z v → Q v H2) (xw cls W), fun H2 ⟨_, z2, z3⟩ => ⟨s.1.length - (i + 1), by omega, rfl, z2, z3⟩, fun v H2 hy => ?_⟩
    obtain ⟨e3, S3, rv⟩ := yl v H2 hy
    have q3 := Post.later (Post.bndN (x' := xw cls W0) q') e3
    rw [hturn] at q3
    refine ⟨mu', wipeE r (slotsG g), h', x, S3, ((R1.ext e').ext e3).wipe _, rv, (Post.bnd q3).imp fun r' h4 mu4 H4 e4 S4 q4 σ2 R4 o4 => ⟨off_wipe o4, ?_⟩⟩
    refine (?_ : tE P cls n K W0 k σ2 H4 _)
    refine ⟨mu4, r', h4, S4, R4, (Post.bnd q4).imp fun y h5 mu5 H5 e5 S5 q5 v5 rv5 => ?_⟩
    refine ⟨mu5, r', h5, S5, R4.ext e5, (Post.bnd q5).imp fun z h6 mu6 H6 e6 S6 q6 v6 rv6 => ?_⟩
    have q6 := Post.ok q6 S6
    dsimp only at q6
    have hm6 : mu6[h1.length]? = some DA := e6.get (e5.get (e4.get (e3.get hm')))
    split at q6
    · rename_i kvs key ea ek
      obtain ⟨lt, q6⟩ := Post.grd q6
      obtain ⟨ws, hw, rr⟩ := S6.at_ _ _ _ hm6 ea
      have hw : H6 DA = some (.dK ws) := hw
      have hn : ∀ o xs, H6 DA ≠ some (.frz o (.lst xs)) := fun o xs z => by rw [hw] at z; cases z
      obtain ⟨S7, e7⟩ := S6.put (vo' := .dK false (putD kvs key z)) hm6 ea rfl hn (fun ex => ⟨putK ws key v6, upd_same, put_rel (rr.ext ex) key (rv6.ext ex)⟩) rfl
      refine ⟨ws, key, key_rel (rv5.ext e6) ek, hw, by rw [← rr.length]; exact of_decide_eq_true lt, rfl, hl, mu6, _, ((((e'.trans e3).trans e4).trans e5).trans e6).trans e7, S7, hm6, ?_⟩
      have q7 := Post.later q6 e7
      revert q7
      cases loopK s.2 turn h1.length (s.1.drop (i + 1)) (h6.set h1.length (.dK false (putD kvs key z))) with
      | ok u h8 => exact fun q7 mu8 H8 e8 S8 => Post.ok (q7 mu8 H8 e8 S8) S8
      | exc c h8 => exact fun q7 => q7
      | stuck => exact fun q7 => q7
    · exact q6.elim
theorem go_dc {K : PySem.W.Frag} : ∀ σ H Q, tE P cls n K W (.dc g it k v) σ H Q → tDc (tI P cls n K W it) (tG P cls n K W0 g) tYes (tE P cls n K W0 k) (tE P cls n K W0 v) (slotsG g) σ H Q := by
  rintro σ H Q ⟨mu, r, h, S, R, q⟩
  simp only [evE] at q
  refine ⟨mu, r, h, S, R, (Post.bnd q).imp fun s h1 mu1 H1 e1 S1 q1 J hJ DA hD => ?_⟩
  exact dc_loop _ (fun _ _ => rfl) (R.ext e1) S1 hJ hD q1
theorem s_dc (w : WF G P cls n bk N sc X) (ok : blkC N sc scope (ownOf N (slotsG g)) = true) (hi : L2.PI X tg it' (tI P cls n X.K W it)) (fo : ∀ x, foldedSetIterable it' X.env x = pure x)
    (hg : ∀ (s : Shared) (H : Hp) (C : Addr) (cl : List (Str × Addr)) (fp : List Addr), PG (X.blk s H scope (compEnvC scope cl C X.env) fp) tg (tG P cls n X.K W0 g))
    (hk : ∀ (s : Shared) (H : Hp) (C : Addr) (cl : List (Str × Addr)) (fp : List Addr), PE (X.blk s H scope (compEnvC scope cl C X.env) fp) k' (tE P cls n X.K W0 k))
    (he : ∀ (s : Shared) (H : Hp) (C : Addr) (cl : List (Str × Addr)) (fp : List Addr), PE (X.blk s H scope (compEnvC scope cl C X.env) fp) v' (tE P cls n X.K W0 v)) :
    PE X (.DictComp k' v' [⟨tg, it', [], 0⟩] scope pos) (tE P cls n X.K W (.dc g it k v)) := by
  refine (pe_dc w.calm (by rw [w.N]; exact w.nd) hi (blkOk_by (by rw [w.N, w.sc]; exact ok)) hg (fun _ _ _ _ _ => pts_nil) hk he fo).imp ?_
  rw [own_snd]
  exact go_dc
theorem s_setDc {i : Nat} {y : Str} {py spos : Pos} (w : WF G P cls n bk N sc X) (ok : blkC N sc scope (ownOf N (slotsG g)) = true) (hi : L2.PI X tg it' (tI P cls n X.K W it)) (fo : ∀ x, foldedSetIterable it' X.env x = pure x)
    (hg : ∀ (s : Shared) (H : Hp) (C : Addr) (cl : List (Str × Addr)) (fp : List Addr), PG (X.blk s H scope (compEnvC scope cl C X.env) fp) tg (tG P cls n X.K W0 g))
    (hk : ∀ (s : Shared) (H : Hp) (C : Addr) (cl : List (Str × Addr)) (fp : List Addr), PE (X.blk s H scope (compEnvC scope cl C X.env) fp) k' (tE P cls n X.K W0 k))
    (he : ∀ (s : Shared) (H : Hp) (C : Addr) (cl : List (Str × Addr)) (fp : List Addr), PE (X.blk s H scope (compEnvC scope cl C X.env) fp) v' (tE P cls n X.K W0 v))
    (hy : N[i]? = some y) (hyl : sc.names.lookup y = some .local) (hsw : swapsWith (.DictComp k' v' [⟨tg, it', [], 0⟩] scope pos) (some (.Name y py)) spos.line X.env = pure true) :
    PS X (.Assign [.Name y py] (.DictComp k' v' [⟨tg, it', [], 0⟩] scope pos) spos) (tAsg (tE P cls n X.K W (.dc g it k v)) (gName i)) := by
  have h := ps_setDc (i := i) w.calm (by rw [w.N]; exact w.nd) (by rw [w.N]; exact hy) (by rw [w.sc]; exact hyl) hsw hi (blkOk_by (by rw [w.N, w.sc]; exact ok)) hg (fun _ _ _ _ _ => pts_nil) hk he fo
  refine ⟨fun pins s σ H D I q => h.run pins s σ H D I ?_⟩
  rw [own_snd]
  exact go_dc _ _ _ q
end
end PI
end
section
set_option maxRecDepth 100000
set_option maxHeartbeats 4000000
/-! The interpreter of expressions is right: all together (own work). -/
namespace PI
open PySem PySem.Spec PyProof.Rows L2
section
variable (G : Gam) (P : Prog) (cls : Nat → Addr) (n : Nat) (N : List Str)
structure SE (ce : CE) : Prop where
  pe : ∀ {X : Cx} {W : WX} {bk : Option Scope} {sc : Scope} {e : Expr}, chkE G N bk sc ce e = true → WF G P cls n bk N sc X → Takes X W → PE X e (tE P cls n X.K W ce)
  pt : ∀ {X : Cx} {W : WX} {bk : Option Scope} {sc : Scope} {e : Expr}, chkE G N bk sc ce e = true → WF G P cls n bk N sc X → Takes X W → PT X e (tT P cls n X.K W ce)
  pw : ∀ {X : Cx} {W : WX} {bk : Option Scope} {sc : Scope} {op : BoolOp} {es : List Expr} {pos : Pos}, chkE G N bk sc ce (.BoolOp op es pos) = true → WF G P cls n bk N sc X → Takes X W → PW X (.BoolOp op es pos) (tT P cls n X.K W ce)
def SO (co : CO) : Prop := ∀ {X : Cx} {W : WX} {bk : Option Scope} {sc : Scope} {e : Option Expr}, chkO G N bk sc co e = true → WF G P cls n bk N sc X → Takes X W → PO X e (tO P cls n X.K W co)
def SEs (ce : CEs) : Prop := ∀ {X : Cx} {W : WX} {bk : Option Scope} {sc : Scope} {e : List Expr}, chkEs G N bk sc ce e = true → WF G P cls n bk N sc X → Takes X W → PA X e (tEs P cls n X.K W ce)
def SI (ce : CI) : Prop := ∀ {X : Cx} {W : WX} {bk : Option Scope} {sc : Scope} {tg e : Expr}, chkI G N bk sc tg ce e = true → WF G P cls n bk N sc X → Takes X W → L2.PI X tg e (tI P cls n X.K W ce)
def SG (g : TG) : Prop := ∀ {X : Cx} {W : WX} {bk : Option Scope} {sc : Scope} {e : Expr}, chkG G N bk sc g e = true → WF G P cls n bk N sc X → Takes X W → PG X e (tG P cls n X.K W g)
def SGs (g : TGs) : Prop := ∀ {X : Cx} {W : WX} {bk : Option Scope} {sc : Scope} {e : List Expr}, chkGs G N bk sc g e = true → WF G P cls n bk N sc X → Takes X W → PGs X e (tGs P cls n X.K W g)
end
section
variable {G : Gam} {P : Prog} {cls : Nat → Addr} {n : Nat} {N : List Str}
theorem SE.of {ce : CE} (pe : ∀ {X : Cx} {W : WX} {bk : Option Scope} {sc : Scope} {e : Expr}, chkE G N bk sc ce e = true → WF G P cls n bk N sc X → Takes X W → PE X e (tE P cls n X.K W ce))
    (ht : ∀ {bk : Option Scope} {sc : Scope} {e : Expr}, chkE G N bk sc ce e = true → ∀ env whole, isTrue e env whole = (do let v ← whole; standAt e.pos; holding [v] (truthy v)))
    (hw : ∀ {bk : Option Scope} {sc : Scope} {op : BoolOp} {es : List Expr} {pos : Pos}, ¬ chkE G N bk sc ce (.BoolOp op es pos) = true) : SE G P cls n N ce :=
  ⟨pe, fun h w tk => (pt_truth (pe h w tk) (ht h _)).imp tT_tru, fun h => (hw h).elim⟩
theorem fold_of {bk : Option Scope} {sc : Scope} {ci : CI} {tg e : Expr} (h : chkI G N bk sc tg ci e = true) : ∀ env x, foldedSetIterable e env x = pure x := by
  have h0 := isI_of h
  clear h
  cases h0 with
  | c6 h => exact (plain_of h).fold
  | _ => exact fun _ _ => rfl
theorem WF.u64 {bk : Option Scope} {sc : Scope} {X : Cx} (w : WF G P cls n bk N sc X) : X.A.units + 64 < cLine := by have := w.room.un; omega
theorem WF.u65 {bk : Option Scope} {sc : Scope} {X : Cx} (w : WF G P cls n bk N sc X) : X.A.units + 65 < cLine := by have := w.room.un; omega
theorem WF.u1 {bk : Option Scope} {sc : Scope} {X : Cx} (w : WF G P cls n bk N sc X) : X.A.units + 1 < cLine := by have := w.room.un; omega

theorem se_var {i : Nat}   : SE G P cls n N (.var i) := by
  refine .of (fun h w tk => ?_) (fun h => ?_) (fun h => ?_)
  · have h0 := isE_of h
    clear h
    cases h0 with
    | c0 h =>
      simp only [Bool.and_eq_true, decide_eq_true_eq] at h
      obtain ⟨h1, h2, h3⟩ := h
      exact s_var w h1 h2 h3
  · cases isE_of h; exact fun _ _ => rfl
  · cases isE_of h

theorem se_lit {l : Lit}   : SE G P cls n N (.lit l) := by
  refine .of (fun h w tk => ?_) (fun h => ?_) (fun h => ?_)
  · have h0 := isE_of h
    clear h
    cases h0 with
    | c1 h =>
      exact s_lit h
  · cases isE_of h; exact fun _ _ => rfl
  · cases isE_of h

theorem se_glob {x : Str} {l : Lit}   : SE G P cls n N (.glob x l) := by
  refine .of (fun h w tk => ?_) (fun h => ?_) (fun h => ?_)
  · have h0 := isE_of h
    clear h
    cases h0 with
    | c2 h =>
      simp only [Bool.and_eq_true, decide_eq_true_eq] at h
      obtain ⟨h1, h2, h3, h4⟩ := h
      subst h1
      exact s_glob w h2 h3 h4
  · cases isE_of h; exact fun _ _ => rfl
  · cases isE_of h

theorem se_tup  {es : CEs} (es0 : SEs G P cls n N es) : SE G P cls n N (.tup es) := by
  refine .of (fun h w tk => ?_) (fun h => ?_) (fun h => ?_)
  · have h0 := isE_of h
    clear h
    cases h0 with
    | c3 h =>
      exact s_tup (es0 h w tk)
  · cases isE_of h; exact fun _ _ => rfl
  · cases isE_of h

theorem se_lst  {es : CEs} (es0 : SEs G P cls n N es) : SE G P cls n N (.lst es) := by
  refine .of (fun h w tk => ?_) (fun h => ?_) (fun h => ?_)
  · have h0 := isE_of h
    clear h
    cases h0 with
    | c4 h =>
      exact s_lst (es0 h w tk)
  · cases isE_of h; exact fun _ _ => rfl
  · cases isE_of h

theorem se_dnK    : SE G P cls n N (.dnK) := by
  refine .of (fun h w tk => ?_) (fun h => ?_) (fun h => ?_)
  · have h0 := isE_of h
    clear h
    cases h0 with
    | c5 h =>
      exact s_dnK
  · cases isE_of h; exact fun _ _ => rfl
  · cases isE_of h

theorem se_dnT    : SE G P cls n N (.dnT) := by
  refine .of (fun h w tk => ?_) (fun h => ?_) (fun h => ?_)
  · have h0 := isE_of h
    clear h
    cases h0 with
    | c6 h =>
      exact s_dnT
  · cases isE_of h; exact fun _ _ => rfl
  · cases isE_of h

theorem se_call {f : Nat} {es : CEs} (es0 : SEs G P cls n N es) : SE G P cls n N (.call f es) := by
  refine .of (fun h w tk => ?_) (fun h => ?_) (fun h => ?_)
  · have h0 := isE_of h
    clear h
    cases h0 with
    | c7 h =>
      simp only [Bool.and_eq_true, decide_eq_true_eq] at h
      obtain ⟨h1, h2, h3, h4⟩ := h
      exact s_call w tk h1 h2 h3 h4 (es0 h4 w tk)
  · cases isE_of h; exact fun _ _ => rfl
  · cases isE_of h

theorem se_b1 {b : B1} {a : CE} (a0 : SE G P cls n N a) : SE G P cls n N (.b1 b a) := by
  refine .of (fun h w tk => ?_) (fun h => ?_) (fun h => ?_)
  · have h0 := isE_of h
    clear h
    cases h0 with
    | c8 h =>
      simp only [Bool.and_eq_true, decide_eq_true_eq] at h
      obtain ⟨h1, h2, h3⟩ := h
      subst h1
      exact s_b1 w (fr_of w h2) (a0.pe h3 w tk) (plain_of h3)
  · cases isE_of h; exact fun _ _ => rfl
  · cases isE_of h

theorem se_isi {t : Ty} {a : CE} (a0 : SE G P cls n N a) : SE G P cls n N (.isi a t) := by
  refine .of (fun h w tk => ?_) (fun h => ?_) (fun h => ?_)
  · have h0 := isE_of h
    clear h
    cases h0 with
    | c10 h =>
      simp only [Bool.and_eq_true, decide_eq_true_eq] at h
      obtain ⟨h1, h2, h3, h4, h5⟩ := h
      subst h1
      subst h3
      exact s_isi w (fr_of w h2) (fr_of w h4) (a0.pe h5 w tk) (plain_of h5)
  · cases isE_of h; exact fun _ _ => rfl
  · cases isE_of h

theorem se_bin {op : Op} {a : CE} {b : CE} (a0 : SE G P cls n N a) (b0 : SE G P cls n N b) : SE G P cls n N (.bin op a b) := by
  refine .of (fun h w tk => ?_) (fun h => ?_) (fun h => ?_)
  · have h0 := isE_of h
    clear h
    cases h0 with
    | c11 h =>
      simp only [Bool.and_eq_true, decide_eq_true_eq] at h
      obtain ⟨h1, h2, h3⟩ := h
      subst h1
      exact s_bin (a0.pe h2 w tk) (b0.pe h3 w tk)
  · cases isE_of h; exact fun _ _ => rfl
  · cases isE_of h

theorem se_neg  {a : CE} (a0 : SE G P cls n N a) : SE G P cls n N (.neg a) := by
  refine .of (fun h w tk => ?_) (fun h => ?_) (fun h => ?_)
  · have h0 := isE_of h
    clear h
    cases h0 with
    | c12 h =>
      exact s_neg (a0.pe h w tk)
  · cases isE_of h; exact fun _ _ => rfl
  · cases isE_of h

theorem se_ix  {a : CE} {i : CE} (a0 : SE G P cls n N a) (b0 : SE G P cls n N i) : SE G P cls n N (.ix a i) := by
  refine .of (fun h w tk => ?_) (fun h => ?_) (fun h => ?_)
  · have h0 := isE_of h
    clear h
    cases h0 with
    | c24 h =>
      simp only [Bool.and_eq_true, decide_eq_true_eq] at h
      obtain ⟨h1, h2⟩ := h
      exact s_ix w.u1 (a0.pe h1 w tk) (b0.pe h2 w tk) (plain_of h2)
  · cases isE_of h; exact fun _ _ => rfl
  · cases isE_of h

theorem se_sl  {a : CE} {lo1 : CO} {hi1 : CO} (a0 : SE G P cls n N a) (o1 : SO G P cls n N lo1) (o2 : SO G P cls n N hi1) : SE G P cls n N (.sl a lo1 hi1) := by
  refine .of (fun h w tk => ?_) (fun h => ?_) (fun h => ?_)
  · have h0 := isE_of h
    clear h
    cases h0 with
    | c25 h =>
      simp only [Bool.and_eq_true, decide_eq_true_eq] at h
      obtain ⟨h1, h2, h3⟩ := h
      exact s_sl (a0.pe h1 w tk) (o1 h2 w tk) (o2 h3 w tk)
  · cases isE_of h; exact fun _ _ => rfl
  · cases isE_of h

theorem se_app  {o : CE} {e : CE} (a0 : SE G P cls n N o) (b0 : SE G P cls n N e) : SE G P cls n N (.app o e) := by
  refine .of (fun h w tk => ?_) (fun h => ?_) (fun h => ?_)
  · have h0 := isE_of h
    clear h
    cases h0 with
    | c28 h =>
      simp only [Bool.and_eq_true, decide_eq_true_eq] at h
      obtain ⟨h1, h2, h3, h4, h5⟩ := h
      subst h1
      exact s_app h3 h2 (a0.pe h4 w tk) (b0.pe h5 w tk) (plain_of h5)
  · cases isE_of h; exact fun _ _ => rfl
  · cases isE_of h

theorem se_ext  {o : CE} {e : CE} (a0 : SE G P cls n N o) (b0 : SE G P cls n N e) : SE G P cls n N (.ext o e) := by
  refine .of (fun h w tk => ?_) (fun h => ?_) (fun h => ?_)
  · have h0 := isE_of h
    clear h
    cases h0 with
    | c29 h =>
      simp only [Bool.and_eq_true, decide_eq_true_eq] at h
      obtain ⟨h1, h2, h3, h4, h5⟩ := h
      subst h1
      exact s_ext h3 h2 (a0.pe h4 w tk) (b0.pe h5 w tk) (plain_of h5)
  · cases isE_of h; exact fun _ _ => rfl
  · cases isE_of h

theorem se_pop  {o : CE} (a0 : SE G P cls n N o) : SE G P cls n N (.pop o) := by
  refine .of (fun h w tk => ?_) (fun h => ?_) (fun h => ?_)
  · have h0 := isE_of h
    clear h
    cases h0 with
    | c30 h =>
      simp only [Bool.and_eq_true, decide_eq_true_eq] at h
      obtain ⟨h1, h2, h3, h4⟩ := h
      subst h1
      exact s_pop h3 h2 (a0.pe h4 w tk)
  · cases isE_of h; exact fun _ _ => rfl
  · cases isE_of h

theorem se_idx  {o : CE} {e : CE} (a0 : SE G P cls n N o) (b0 : SE G P cls n N e) : SE G P cls n N (.idx o e) := by
  refine .of (fun h w tk => ?_) (fun h => ?_) (fun h => ?_)
  · have h0 := isE_of h
    clear h
    cases h0 with
    | c31 h =>
      simp only [Bool.and_eq_true, decide_eq_true_eq] at h
      obtain ⟨h1, h2, h3, h4, h5⟩ := h
      subst h1
      exact s_idx h3 h2 (a0.pe h4 w tk) (b0.pe h5 w tk) (plain_of h5)
  · cases isE_of h; exact fun _ _ => rfl
  · cases isE_of h

theorem se_get2  {o : CE} {k : CE} {d : CE} (a0 : SE G P cls n N o) (b0 : SE G P cls n N k) (d0 : SE G P cls n N d) : SE G P cls n N (.get2 o k d) := by
  refine .of (fun h w tk => ?_) (fun h => ?_) (fun h => ?_)
  · have h0 := isE_of h
    clear h
    cases h0 with
    | c33 h =>
      simp only [Bool.and_eq_true, decide_eq_true_eq] at h
      obtain ⟨h1, h2, h3, h4, h5, h6⟩ := h
      subst h1
      exact s_get2 w.u1 h3 h2 (a0.pe h4 w tk) (b0.pe h5 w tk) (d0.pe h6 w tk) (plain_of h5) (plain_of h6)
  · cases isE_of h; exact fun _ _ => rfl
  · cases isE_of h

theorem se_lrg  {e : CE} (a0 : SE G P cls n N e) : SE G P cls n N (.lrg e) := by
  refine .of (fun h w tk => ?_) (fun h => ?_) (fun h => ?_)
  · have h0 := isE_of h
    clear h
    cases h0 with
    | c34 h =>
      simp only [Bool.and_eq_true, decide_eq_true_eq] at h
      obtain ⟨h1, h2, h3, h4, h5⟩ := h
      subst h1
      subst h3
      exact s_lrg w.calm (fr_of w h2) (fr_of w h4) (a0.pe h5 w tk) (plain_of h5)
  · cases isE_of h; exact fun _ _ => rfl
  · cases isE_of h

theorem se_rvs  {a : CE} (a0 : SE G P cls n N a) : SE G P cls n N (.rvs a) := by
  refine .of (fun h w tk => ?_) (fun h => ?_) (fun h => ?_)
  · have h0 := isE_of h
    clear h
    cases h0 with
    | c35 h =>
      exact s_rvs (a0.pe h w tk)
  · cases isE_of h; exact fun _ _ => rfl
  · cases isE_of h

variable {a b c : CE}
theorem se_b2 {k : B2} (a0 : SE G P cls n N a) (c0 : SE G P cls n N c) : SE G P cls n N (.b2 k a c) := by
  refine .of (fun h w tk => ?_) (fun h => ?_) (fun h => ?_)
  · have h0 := isE_of h
    clear h
    cases h0 with
    | c9 h =>
      simp only [Bool.and_eq_true] at h
      obtain ⟨h1, h2, h3⟩ := h
      cases k with
      | max =>
        simp only [Bool.and_eq_true, decide_eq_true_eq] at h1
        obtain ⟨h1, h4⟩ := h1
        subst h1
        exact s_max w (fr_of w h4) (a0.pe h2 w tk) (c0.pe h3 w tk) (plain_of h2) (plain_of h3)
      | min =>
        simp only [Bool.and_eq_true, decide_eq_true_eq] at h1
        obtain ⟨h1, h4⟩ := h1
        subst h1
        exact s_min w (fr_of w h4) (a0.pe h2 w tk) (c0.pe h3 w tk) (plain_of h2) (plain_of h3)
      | gcd =>
        simp only [Bool.and_eq_true] at h1
        obtain ⟨h1, h4, h5⟩ := h1
        exact s_gcd w (gl_of w h1) (w.gcd _ (by simpa using h5)) (ok_dbg h4) (a0.pe h2 w tk) (c0.pe h3 w tk) (plain_of h2) (plain_of h3)
  · cases isE_of h; exact fun _ _ => rfl
  · cases isE_of h
theorem se_cmp {op : Cp} (a0 : SE G P cls n N a) (b0 : SE G P cls n N b) : SE G P cls n N (.cmp op a b) := by
  refine ⟨fun h w tk => ?_, fun h w tk => ?_, fun h => ?_⟩
  · have h0 := isE_of h
    clear h
    cases h0 with
    | c13 h =>
      simp only [Bool.and_eq_true, decide_eq_true_eq] at h
      obtain ⟨h1, h2, h3⟩ := h
      subst h1
      exact s_cmp w.u65 (a0.pe h2 w tk) (b0.pe h3 w tk) (plain_of h3)
  · have h0 := isE_of h
    clear h
    cases h0 with
    | c13 h =>
      simp only [Bool.and_eq_true, decide_eq_true_eq] at h
      obtain ⟨h1, h2, h3⟩ := h
      subst h1
      exact t_cmp w.u65 (a0.pe h2 w tk) (b0.pe h3 w tk) (plain_of h3)
  · cases isE_of h
theorem se_chain {op op' : Cp} (a0 : SE G P cls n N a) (b0 : SE G P cls n N b) (c0 : SE G P cls n N c) : SE G P cls n N (.chain op op' a b c) := by
  refine ⟨fun h w tk => ?_, fun h w tk => ?_, fun h => ?_⟩
  · have h0 := isE_of h
    clear h
    cases h0 with
    | c14 h =>
      simp only [Bool.and_eq_true, decide_eq_true_eq] at h
      obtain ⟨h1, h2, h3, h4, h5⟩ := h
      subst h1
      subst h2
      exact s_chain w.u65 (a0.pe h3 w tk) (b0.pe h4 w tk) (c0.pe h5 w tk) (plain_of h5)
  · have h0 := isE_of h
    clear h
    cases h0 with
    | c14 h =>
      simp only [Bool.and_eq_true, decide_eq_true_eq] at h
      obtain ⟨h1, h2, h3, h4, h5⟩ := h
      subst h1
      subst h2
      exact t_chain w.u65 (a0.pe h3 w tk) (b0.pe h4 w tk) (c0.pe h5 w tk) (plain_of h5)
  · cases isE_of h

theorem se_isN (a0 : SE G P cls n N a) : SE G P cls n N (.isN a) := by
  refine ⟨fun h w tk => ?_, fun h w tk => ?_, fun h => ?_⟩
  · have h0 := isE_of h
    clear h
    cases h0 with
    | c15 h =>
      exact s_isN (a0.pe h w tk)
  · have h0 := isE_of h
    clear h
    cases h0 with
    | c15 h =>
      exact t_isN (a0.pe h w tk)
  · cases isE_of h

theorem se_notN (a0 : SE G P cls n N a) : SE G P cls n N (.notN a) := by
  refine ⟨fun h w tk => ?_, fun h w tk => ?_, fun h => ?_⟩
  · have h0 := isE_of h
    clear h
    cases h0 with
    | c16 h =>
      exact s_notN (a0.pe h w tk)
  · have h0 := isE_of h
    clear h
    cases h0 with
    | c16 h =>
      exact t_notN (a0.pe h w tk)
  · cases isE_of h

theorem se_isB {k : Bool} (a0 : SE G P cls n N a) : SE G P cls n N (.isB k a) := by
  refine ⟨fun h w tk => ?_, fun h w tk => ?_, fun h => ?_⟩
  · have h0 := isE_of h
    clear h
    cases h0 with
    | c17 h =>
      simp only [Bool.and_eq_true, decide_eq_true_eq] at h
      obtain ⟨h1, h⟩ := h
      subst h1
      exact s_isB (a0.pe h w tk)
  · have h0 := isE_of h
    clear h
    cases h0 with
    | c17 h =>
      simp only [Bool.and_eq_true, decide_eq_true_eq] at h
      obtain ⟨h1, h⟩ := h
      subst h1
      exact t_isB (a0.pe h w tk)
  · cases isE_of h

theorem se_notB {k : Bool} (a0 : SE G P cls n N a) : SE G P cls n N (.notB k a) := by
  refine ⟨fun h w tk => ?_, fun h w tk => ?_, fun h => ?_⟩
  · have h0 := isE_of h
    clear h
    cases h0 with
    | c18 h =>
      simp only [Bool.and_eq_true, decide_eq_true_eq] at h
      obtain ⟨h1, h⟩ := h
      subst h1
      exact s_notB (a0.pe h w tk)
  · have h0 := isE_of h
    clear h
    cases h0 with
    | c18 h =>
      simp only [Bool.and_eq_true, decide_eq_true_eq] at h
      obtain ⟨h1, h⟩ := h
      subst h1
      exact t_notB (a0.pe h w tk)
  · cases isE_of h

theorem pw_and_ (a0 : SE G P cls n N a) (b0 : SE G P cls n N b) {X : Cx} {W : WX} {bk : Option Scope} {sc : Scope} {e : Expr} (h : chkE G N bk sc (.and_ a b) e = true) (w : WF G P cls n bk N sc X) (tk : Takes X W) : PW X e (tT P cls n X.K W (.and_ a b)) := by
  have h0 := isE_of h
  clear h
  cases h0 with
  | c19 h =>
    simp only [Bool.and_eq_true] at h
    exact (pw_and (a0.pt h.1 w tk) (pw_and1 (b0.pt h.2 w tk))).imp got_and
  | c20 h =>
    simp only [Bool.and_eq_true] at h
    exact (pw_and (a0.pt h.1 w tk) (b0.pw h.2 w tk)).imp got_and
theorem se_and_ (a0 : SE G P cls n N a) (b0 : SE G P cls n N b) : SE G P cls n N (.and_ a b) := by
  refine ⟨fun h w tk => ?_, fun h w tk => (pw_and_ a0 b0 h w tk).pt, fun h w tk => pw_and_ a0 b0 h w tk⟩
  have h0 := isE_of h
  clear h
  cases h0 with
  | c19 h =>
    simp only [Bool.and_eq_true] at h
    exact (pe_and (a0.pe h.1 w tk) (pe_one (b0.pe h.2 w tk))).imp go_and
  | c20 h =>
    simp only [Bool.and_eq_true] at h
    exact (pe_and (a0.pe h.1 w tk) (b0.pe h.2 w tk)).imp go_and

theorem pw_or_ (a0 : SE G P cls n N a) (b0 : SE G P cls n N b) {X : Cx} {W : WX} {bk : Option Scope} {sc : Scope} {e : Expr} (h : chkE G N bk sc (.or_ a b) e = true) (w : WF G P cls n bk N sc X) (tk : Takes X W) : PW X e (tT P cls n X.K W (.or_ a b)) := by
  have h0 := isE_of h
  clear h
  cases h0 with
  | c21 h =>
    simp only [Bool.and_eq_true] at h
    exact (pw_or (a0.pt h.1 w tk) (pw_or1 (b0.pt h.2 w tk))).imp got_or
  | c22 h =>
    simp only [Bool.and_eq_true] at h
    exact (pw_or (a0.pt h.1 w tk) (b0.pw h.2 w tk)).imp got_or
theorem se_or_ (a0 : SE G P cls n N a) (b0 : SE G P cls n N b) : SE G P cls n N (.or_ a b) := by
  refine ⟨fun h w tk => ?_, fun h w tk => (pw_or_ a0 b0 h w tk).pt, fun h w tk => pw_or_ a0 b0 h w tk⟩
  have h0 := isE_of h
  clear h
  cases h0 with
  | c21 h =>
    simp only [Bool.and_eq_true] at h
    exact (pe_or (a0.pe h.1 w tk) (pe_one (b0.pe h.2 w tk))).imp go_or
  | c22 h =>
    simp only [Bool.and_eq_true] at h
    exact (pe_or (a0.pe h.1 w tk) (b0.pe h.2 w tk)).imp go_or

theorem se_not (a0 : SE G P cls n N a) : SE G P cls n N (.not_ a) := by
  refine ⟨fun h w tk => ?_, fun h w tk => ?_, fun h => ?_⟩
  · have h0 := isE_of h
    clear h
    cases h0 with
    | c23 h => exact s_not (a0.pe h w tk)
  · have h0 := isE_of h
    clear h
    cases h0 with
    | c23 h => exact t_not (a0.pt h w tk)
  · cases isE_of h
theorem tE_stuck {K : PySem.W.Frag} {W : WX} (hs : ∀ r h, evE (callN P n) a r h = .stuck) : ∀ σ H Q, ¬ tE P cls n K W a σ H Q := by
  rintro σ H Q ⟨mu, r, h, S, R, q⟩
  rw [hs] at q
  exact q
theorem se_idxT {o e : CE} : SE G P cls n N (.idxT o e) := by
  refine .of (fun h w tk => pe_never (tE_stuck fun r h => by simp only [evE])) (fun h => ?_) (fun h => ?_)
  · cases isE_of h <;> exact fun _ _ => rfl
  · cases isE_of h
theorem se_lc {g : TG} {it : CI} {co : CO} {e : CE} (g0 : SG G P cls n N g) (i0 : SI G P cls n N it) (c0 : ∀ c, co = .some c → SE G P cls n N c) (e0 : SE G P cls n N e) : SE G P cls n N (.lc g it co e) := by
  refine .of (fun h w tk => ?_) (fun h => ?_) (fun h => ?_)
  · have h0 := isE_of h
    clear h
    cases h0 with
    | c26 h =>
      simp only [Bool.and_eq_true, decide_eq_true_eq] at h
      obtain ⟨h1, h2, h3, h4, h5, h6⟩ := h
      subst h1
      refine s_lc w h2 (i0 h3 w tk) (fold_of h3 _) (fun s H C cl fp => g0 h4 (wf_blk w s H C cl fp) takes0) (fun s H C cl fp => ?_) (fun s H C cl fp => e0.pe h6 (wf_blk w s H C cl fp) takes0)
      split at h5
      · exact pts_nil
      · exact pts_one ((c0 _ rfl).pt h5 (wf_blk w s H C cl fp) takes0)
      · cases h5
  · cases isE_of h; exact fun _ _ => rfl
  · cases isE_of h
theorem se_dc {g : TG} {it : CI} {k v : CE} (g0 : SG G P cls n N g) (i0 : SI G P cls n N it) (k0 : SE G P cls n N k) (e0 : SE G P cls n N v) : SE G P cls n N (.dc g it k v) := by
  refine .of (fun h w tk => ?_) (fun h => ?_) (fun h => ?_)
  · have h0 := isE_of h
    clear h
    cases h0 with
    | c27 h =>
      simp only [Bool.and_eq_true, decide_eq_true_eq] at h
      obtain ⟨h1, h2, h3, h4, h5, h6⟩ := h
      subst h1
      exact s_dc w h2 (i0 h3 w tk) (fold_of h3 _) (fun s H C cl fp => g0 h4 (wf_blk w s H C cl fp) takes0) (fun s H C cl fp => k0.pe h5 (wf_blk w s H C cl fp) takes0) (fun s H C cl fp => e0.pe h6 (wf_blk w s H C cl fp) takes0)
  · cases isE_of h; exact fun _ _ => rfl
  · cases isE_of h
theorem tup_of {e : Expr} (h : isTupE e = true) : ∃ es k p, e = .Tuple es k p := by cases e <;> first | exact ⟨_, _, _, rfl⟩ | cases h
theorem si_rng1 {e : CE} (a0 : SE G P cls n N e) : SI G P cls n N (.rng1 e) := by
  intro X W bk sc tg e' h w tk
  have h0 := isI_of h
  clear h
  cases h0 with
  | c0 h =>
    simp only [Bool.and_eq_true, decide_eq_true_eq] at h
    obtain ⟨h1, h2, h3⟩ := h
    subst h1
    exact s_rng1 (fr_of w h2) (a0.pe h3 w tk) (plain_of h3)
theorem si_rng2 {a b : CE} (a0 : SE G P cls n N a) (b0 : SE G P cls n N b) : SI G P cls n N (.rng2 a b) := by
  intro X W bk sc tg e' h w tk
  have h0 := isI_of h
  clear h
  cases h0 with
  | c1 h =>
    simp only [Bool.and_eq_true, decide_eq_true_eq] at h
    obtain ⟨h1, h2, h3, h4⟩ := h
    subst h1
    exact s_rng2 (fr_of w h2) (a0.pe h3 w tk) (b0.pe h4 w tk) (plain_of h3) (plain_of h4)
theorem si_enum {e : CE} (a0 : SE G P cls n N e) : SI G P cls n N (.enum e) := by
  intro X W bk sc tg e' h w tk
  have h0 := isI_of h
  clear h
  cases h0 with
  | c2 h =>
    simp only [Bool.and_eq_true, decide_eq_true_eq] at h
    obtain ⟨h1, h2, h3, h4⟩ := h
    subst h2
    obtain ⟨es, k, p, rfl⟩ := tup_of h1
    exact s_enum (fr_of w h3) (a0.pe h4 w tk) (plain_of h4)
theorem si_zip {a b : CE} (a0 : SE G P cls n N a) (b0 : SE G P cls n N b) : SI G P cls n N (.zip a b) := by
  intro X W bk sc tg e' h w tk
  have h0 := isI_of h
  clear h
  cases h0 with
  | c3 h =>
    simp only [Bool.and_eq_true, decide_eq_true_eq] at h
    obtain ⟨h1, h2, h3, h4, h5⟩ := h
    subst h2
    obtain ⟨es, k, p, rfl⟩ := tup_of h1
    exact s_zip (fr_of w h3) (a0.pe h4 w tk) (b0.pe h5 w tk) (plain_of h4) (plain_of h5)
theorem si_rev {e : CE} (a0 : SE G P cls n N e) : SI G P cls n N (.rev e) := by
  intro X W bk sc tg e' h w tk
  have h0 := isI_of h
  clear h
  cases h0 with
  | c4 h =>
    simp only [Bool.and_eq_true, decide_eq_true_eq] at h
    obtain ⟨h1, h2, h3⟩ := h
    subst h1
    exact s_rev (fr_of w h2) (a0.pe h3 w tk) (plain_of h3)
theorem si_revrng {e : CE} (a0 : SE G P cls n N e) : SI G P cls n N (.revrng e) := by
  intro X W bk sc tg e' h w tk
  have h0 := isI_of h
  clear h
  cases h0 with
  | c5 h =>
    simp only [Bool.and_eq_true, decide_eq_true_eq] at h
    obtain ⟨h1, h2, h3, h4, h5⟩ := h
    subst h1
    subst h3
    exact s_revrng (fr_of w h2) (fr_of w h4) (a0.pe h5 w tk) (plain_of h5)
theorem si_seq {e : CE} (a0 : SE G P cls n N e) : SI G P cls n N (.seq e) := by
  intro X W bk sc tg e' h w tk
  have h0 := isI_of h
  clear h
  cases h0 with
  | c6 h => exact s_seq (a0.pe h w tk)
theorem si_keys {e : CE} : SI G P cls n N (.keys e) := by
  intro X W bk sc tg e' h w tk
  cases isI_of h
theorem sg_name {i : Nat} : SG G P cls n N (.name i) := by
  intro X W bk sc e h w tk
  unfold chkG at h
  split at h <;> first | (rename_i z; cases z; done) | skip
  · rename_i z
    cases z
    simp only [Bool.and_eq_true, decide_eq_true_eq] at h
    exact s_gname w h.1 h.2.1 h.2.2
  · cases h
theorem sg_tup {ts : TGs} (t0 : SGs G P cls n N ts) : SG G P cls n N (.tup ts) := by
  intro X W bk sc e h w tk
  unfold chkG at h
  split at h <;> first | (rename_i z; cases z; done) | skip
  · rename_i z
    cases z
    exact s_gtup w h (t0 h w tk)
  · cases h
theorem sg_sub {o i : CE} (o0 : SE G P cls n N o) (i0 : SE G P cls n N i) : SG G P cls n N (.sub o i) := by
  intro X W bk sc e h w tk
  unfold chkG at h
  split at h <;> first | (rename_i z; cases z; done) | skip
  · rename_i z
    cases z
    simp only [Bool.and_eq_true] at h
    exact s_gsub w.u1 (o0.pe h.1 w tk) (i0.pe h.2 w tk) (plain_of h.2)
  · cases h
theorem so_none : SO G P cls n N .none := by
  intro X W bk sc e h w tk
  cases e with
  | none => exact s_onone
  | some e => simp [chkO] at h
theorem so_some {e : CE} (e0 : SE G P cls n N e) : SO G P cls n N (.some e) := by
  intro X W bk sc e h w tk
  cases e with
  | none => simp [chkO] at h
  | some e => exact s_osome (e0.pe (by simpa [chkO] using h) w tk)
theorem ses_nil : SEs G P cls n N .nil := by
  intro X W bk sc e h w tk
  cases e with
  | nil => exact s_nil
  | cons e es => simp [chkEs] at h
theorem ses_cons {e : CE} {es : CEs} (e0 : SE G P cls n N e) (es0 : SEs G P cls n N es) : SEs G P cls n N (.cons e es) := by
  intro X W bk sc e h w tk
  cases e with
  | nil => simp [chkEs] at h
  | cons e es =>
    simp only [chkEs, Bool.and_eq_true] at h
    exact s_cons (e0.pe h.1 w tk) (es0 h.2 w tk) fun env => (plain_of h.1).star _ _
theorem sgs_nil : SGs G P cls n N .nil := by
  intro X W bk sc e h w tk
  cases e with
  | nil => exact s_gnil
  | cons e es => simp [chkGs] at h
theorem sgs_cons {t : TG} {ts : TGs} (t0 : SG G P cls n N t) (ts0 : SGs G P cls n N ts) : SGs G P cls n N (.cons t ts) := by
  intro X W bk sc e h w tk
  cases e with
  | nil => simp [chkGs] at h
  | cons e es =>
    simp only [chkGs, Bool.and_eq_true] at h
    exact s_gcons (t0 h.1 w tk) (ts0 h.2 w tk) (by rw [(plainG_of h.1).one]; rfl)
variable (G P cls n N)
mutual
theorem sE : ∀ ce : CE, SE G P cls n N ce

  | .var i => se_var 
  | .lit l => se_lit 
  | .glob x l => se_glob 
  | .tup es => se_tup (sEs es)
  | .lst es => se_lst (sEs es)
  | .dnK => se_dnK 
  | .dnT => se_dnT 
  | .call f es => se_call (sEs es)
  | .b1 b a => se_b1 (sE a)
  | .isi a t => se_isi (sE a)
  | .bin op a b => se_bin (sE a) (sE b)
  | .neg a => se_neg (sE a)
  | .ix a i => se_ix (sE a) (sE i)
  | .sl a lo1 hi1 => se_sl (sE a) (sO lo1) (sO hi1)
  | .app o e => se_app (sE o) (sE e)
  | .ext o e => se_ext (sE o) (sE e)
  | .pop o => se_pop (sE o)
  | .idx o e => se_idx (sE o) (sE e)
  | .get2 o k d => se_get2 (sE o) (sE k) (sE d)
  | .lrg e => se_lrg (sE e)
  | .rvs a => se_rvs (sE a)
  | .b2 k a c => se_b2 (sE a) (sE c)
  | .cmp op a b => se_cmp (sE a) (sE b)
  | .chain op op2 a b c => se_chain (sE a) (sE b) (sE c)
  | .isN a => se_isN (sE a)
  | .notN a => se_notN (sE a)
  | .isB k a => se_isB (sE a)
  | .notB k a => se_notB (sE a)
  | .and_ a b => se_and_ (sE a) (sE b)
  | .or_ a b => se_or_ (sE a) (sE b)
  | .not_ a => se_not (sE a)
  | .idxT o e => se_idxT
  | .lc g it .none e => se_lc (sG g) (sI it) (fun _ z => nomatch z) (sE e)
  | .lc g it (.some c) e => se_lc (sG g) (sI it) (fun _ z => by cases z; exact sE c) (sE e)
  | .dc g it k v => se_dc (sG g) (sI it) (sE k) (sE v)
theorem sO : ∀ co : CO, SO G P cls n N co
  | .none => so_none
  | .some e => so_some (sE e)
theorem sEs : ∀ es : CEs, SEs G P cls n N es
  | .nil => ses_nil
  | .cons e es => ses_cons (sE e) (sEs es)
theorem sI : ∀ ci : CI, SI G P cls n N ci
  | .seq e => si_seq (sE e)
  | .rng1 e => si_rng1 (sE e)
  | .rng2 a b => si_rng2 (sE a) (sE b)
  | .enum e => si_enum (sE e)
  | .zip a b => si_zip (sE a) (sE b)
  | .rev e => si_rev (sE e)
  | .revrng e => si_revrng (sE e)
  | .keys e => si_keys
theorem sG : ∀ g : TG, SG G P cls n N g
  | .name i => sg_name
  | .tup ts => sg_tup (sGs ts)
  | .sub o i => sg_sub (sE o) (sE i)
theorem sGs : ∀ g : TGs, SGs G P cls n N g
  | .nil => sgs_nil
  | .cons t ts => sgs_cons (sG t) (sGs ts)
end
end
end PI
end
section
set_option maxRecDepth 100000
set_option maxHeartbeats 4000000
/-! Statements: the interpreter is right (own work). -/
namespace PI
open PySem PySem.Spec PyProof.Rows L2
/-- what is known of the exception classes -/
structure WC (G : Gam) (P : Prog) (cls : Nat → Addr) (X : Cx) : Prop where
  mkc : ∀ (c : Nat) (x : Str), G.classes[c]? = some x → X.mg x = some (.ref (cls c)) ∧ PySem.W.keepIn X.K (.ref (cls c)) = true ∧ Raises X (.ref (cls c)) ∧ ∃ B newId initId bmB, ExcBaseFacts B newId initId bmB ∧ PySem.W.excIn X.K (cls c) bmB newId = true
  exm : ∀ (k c : Nat) (b : Bool), P.sub k c = some b → PySem.W.exmOne X.K (.ref (cls k)) (.ref (cls c)) = some b
  kit : ∀ (k c : Nat) (b : Bool), P.sub k c = some b → PySem.W.kitOne X.K (.ref (cls k)) (.ref (cls c)) = some b
  exc : ∀ (k c : Nat) (b : Bool), P.sub k c = some b → ExcC X.K (cls k)
  ve : ∀ (k c : Nat) (b : Bool), P.sub k c = some b → PySem.W.kitOne X.K (.ref (cls k)) (.type "ValueError") = some true
/-- a def's context -/
structure WS (G : Gam) (P : Prog) (cls : Nat → Addr) (n : Nat) (N : List Str) (sc : Scope) (X : Cx) : Prop where
  wf : WF G P cls n none N sc X
  wc : WC G P cls X
  stk : X.stack = X.env :: X.outer
  frm : X.env.frame = some X.env.locals
  kind : sc.kind = .function
section
variable {X : Cx} {G : Gam} {P : Prog} {cls : Nat → Addr} {n : Nat} {N : List Str} {sc : Scope} {W : WX} {pos p p2 p3 : Pos} {j : Nat}
def endK (K : PySem.W.Frag) (D : Ends) : Fl → VH → List Addr → Hp → Prop
  | .nx r, _, mu, H => ∀ σ, RelEnv K mu H r σ → D.nx σ H
  | .rt d, _, mu, H => ∀ v, RelD K mu H d v → D.rt v H
  | .bk r, _, mu, H => ∀ σ, RelEnv K mu H r σ → D.bk σ H
  | .ct r, _, mu, H => ∀ σ, RelEnv K mu H r σ → D.ct σ H
def tS (P : Prog) (cls : Nat → Addr) (n : Nat) (K : PySem.W.Frag) (W : WX) (s : CS) : TS := fun D σ H => ∃ mu r h, Sim K mu H h ∧ RelEnv K mu H r σ ∧ Post K mu H (evS (callN P n) P.sub s r h) (endK K D) (xw cls W)
def tSs (P : Prog) (cls : Nat → Addr) (n : Nat) (K : PySem.W.Frag) (W : WX) (s : CSs) : TS := fun D σ H => ∃ mu r h, Sim K mu H h ∧ RelEnv K mu H r σ ∧ Post K mu H (evSs (callN P n) P.sub s r h) (endK K D) (xw cls W)
theorem _root_.L2.PS.imp {st : Stmt} {t t' : TS} (h : PS X st t) (f : ∀ D σ H, t' D σ H → t D σ H) : PS X st t' := ⟨fun pins s σ H D I q => h.run pins s σ H D I (f D σ H q)⟩
theorem _root_.L2.PSs.imp {st : List Stmt} {t t' : TS} (h : PSs X st t) (f : ∀ D σ H, t' D σ H → t D σ H) : PSs X st t' := ⟨fun pins s σ H D I q => h.run pins s σ H D I (f D σ H q)⟩

theorem ifT {A B : Prop} (h : A) : if true = true then A else B := h
theorem p_nil : PSs X [] (tSs P cls n X.K W .nil) := by
  refine pss_nil.imp ?_
  rintro D σ H ⟨mu, r, h, S, R, q⟩
  simp only [evSs] at q
  exact Post.ok q S σ R
theorem p_cons {s : CS} {ss : CSs} {s' : Stmt} {ss' : List Stmt} (h1 : PS X s' (tS P cls n X.K W s)) (h2 : PSs X ss' (tSs P cls n X.K W ss)) : PSs X (s' :: ss') (tSs P cls n X.K W (.cons s ss)) := by
  refine (pss_cons h1 h2).imp ?_
  rintro D σ H ⟨mu, r, h, S, R, q⟩
  simp only [evSs] at q
  refine ⟨mu, r, h, S, R, (Post.bnd q).imp fun f h1 mu1 H1 e1 S1 q1 => ?_⟩
  cases f with
  | nx r1 => exact fun σ1 R1 => ⟨mu1, r1, h1, S1, R1, q1⟩
  | rt d => have z := Post.ok q1 S1; exact z
  | bk r1 => have z := Post.ok q1 S1; exact z
  | ct r1 => have z := Post.ok q1 S1; exact z
theorem p_pass : PS X (.Pass p) (tS P cls n X.K W .pass) := by
  refine ps_pass.imp ?_
  rintro D σ H ⟨mu, r, h, S, R, q⟩
  simp only [evS] at q
  exact Post.ok q S σ R
theorem p_brk : PS X (.Break p) (tS P cls n X.K W .brk) := by
  refine ps_break.imp ?_
  rintro D σ H ⟨mu, r, h, S, R, q⟩
  simp only [evS] at q
  exact Post.ok q S σ R
theorem p_cnt : PS X (.Continue p) (tS P cls n X.K W .cnt) := by
  refine ps_continue.imp ?_
  rintro D σ H ⟨mu, r, h, S, R, q⟩
  simp only [evS] at q
  exact Post.ok q S σ R
theorem p_retN : PS X (.Return none p) (tS P cls n X.K W .retN) := by
  refine ps_retN.imp ?_
  rintro D σ H ⟨mu, r, h, S, R, q⟩
  simp only [evS] at q
  exact Post.ok q S _ .non
theorem p_ret {e : CE} {e' : Expr} (he : PE X e' (tE P cls n X.K W e)) : PS X (.Return (some e') p) (tS P cls n X.K W (.ret e)) := by
  refine (ps_ret he).imp ?_
  rintro D σ H ⟨mu, r, h, S, R, q⟩
  simp only [evS] at q
  refine ⟨mu, r, h, S, R, (Post.bnd q).imp fun d h1 mu1 H1 e1 S1 q1 v rv => ?_⟩
  exact Post.ok q1 S1 _ rv
theorem p_expr {e : CE} {e' : Expr} (he : PE X e' (tE P cls n X.K W e)) (hs : swapsWith e' none pos.line X.env = pure false) : PS X (.Expr e' pos) (tS P cls n X.K W (.expr e)) := by
  refine (ps_expr he hs).imp ?_
  rintro D σ H ⟨mu, r, h, S, R, q⟩
  simp only [evS] at q
  refine ⟨mu, r, h, S, R, (Post.bnd q).imp fun d h1 mu1 H1 e1 S1 q1 v rv => ?_⟩
  exact Post.ok q1 S1 _ (R.ext e1)
theorem go_asg {K : PySem.W.Frag} {t : TG} {e : CE} : ∀ D σ H, tS P cls n K W (.asg t e) D σ H → tAsg (tE P cls n K W e) (tG P cls n K W t) D σ H := by
  rintro D σ H ⟨mu, r, h, S, R, q⟩
  simp only [evS] at q
  refine ⟨mu, r, h, S, R, (Post.bnd q).imp fun d h1 mu1 H1 e1 S1 q1 v rv => ?_⟩
  refine ⟨mu1, r, h1, d, S1, R.ext e1, rv, (Post.bnd q1).imp fun r2 h2 mu2 H2 e2 S2 q2 σ2 R2 o2 => ?_⟩
  exact Post.ok q2 S2 σ2 R2
theorem go_asgN {K : PySem.W.Frag} {i : Nat} {e : CE} : ∀ D σ H, tS P cls n K W (.asg (.name i) e) D σ H → tAsg (tE P cls n K W e) (gName i) D σ H := by
  rintro D σ H ⟨mu, r, h, S, R, q⟩
  simp only [evS] at q
  refine ⟨mu, r, h, S, R, (Post.bnd q).imp fun d h1 mu1 H1 e1 S1 q1 v rv => ?_⟩
  simp only [asgG] at q1
  exact Post.ok (Post.ok (Post.bnd q1) S1) S1 _ ((R.ext e1).set i rv)
theorem p_asg {t : TG} {e : CE} {tg e' : Expr} (he : PE X e' (tE P cls n X.K W e)) (hg : PG X tg (tG P cls n X.K W t)) (hs : swapsWithSole [tg] e' pos.line X.env = pure false) (hw : swappedStores [tg] e' X.env = pure none) (h1 : (assignEach [tg] X.env).map (·.2) = [assign tg X.env]) :
    PS X (.Assign [tg] e' pos) (tS P cls n X.K W (.asg t e)) := (ps_asg he hg hs hw h1).imp go_asg
theorem p_if {c : CE} {a b : CSs} {c' : Expr} {a' b' : List Stmt} (hc : PT X c' (tT P cls n X.K W c)) (ha : PSs X a' (tSs P cls n X.K W a)) (hb : PSs X b' (tSs P cls n X.K W b)) : PS X (.If c' a' b' p) (tS P cls n X.K W (.if_ c a b)) := by
  refine (ps_if hc ha hb).imp ?_
  rintro D σ H ⟨mu, r, h, S, R, q⟩
  simp only [evS] at q
  refine ⟨mu, r, h, S, R, (Post.bnd q).imp fun d h1 mu1 H1 e1 S1 q1 => ?_⟩
  obtain ⟨k, t, q1⟩ := Post.opt q1
  refine ⟨k, t, ?_⟩
  cases k with
  | true => exact ⟨mu1, r, h1, S1, R.ext e1, q1⟩
  | false => exact ⟨mu1, r, h1, S1, R.ext e1, q1⟩
theorem p_while {c : CE} {b : CSs} {c' : Expr} {b' : List Stmt} (hp : PassesOwn (model X.prog X.w) X.A X.env X.xe) (hc : PT X c' (tT P cls n X.K W c)) (hb : PSs X b' (tSs P cls n X.K W b)) : PS X (.While c' b' [] p) (tS P cls n X.K W (.while_ c b)) := by
  refine (ps_while hp hc hb).imp ?_
  rintro D σ H ⟨mu, r, h, S, R, q⟩
  simp only [evS] at q
  refine ⟨fun m σ H => ∃ mu r h, Sim X.K mu H h ∧ RelEnv X.K mu H r σ ∧ Post X.K mu H (whileL (fun r h => bnd (evE (callN P n) c r h) fun d h => opt (truthD h d) fun k => .ok k h) (fun r h => evSs (callN P n) P.sub b r h) m r h) (endK X.K D) (xw cls W), ⟨turns, mu, r, h, S, R, q⟩, ?_⟩
  rintro m σ H ⟨mu, r, h, S, R, q⟩
  cases m with
  | zero => exact q.elim
  | succ m =>
    unfold whileL at q
    refine ⟨mu, r, h, S, R, (Post.bnd (Post.bnd q)).imp fun d h1 mu1 H1 e1 S1 q1 => ?_⟩
    obtain ⟨k, t, q1⟩ := Post.opt q1
    refine ⟨k, t, ?_⟩
    have q1 := Post.ok q1 S1
    cases k with
    | false => exact Post.ok q1 S1 σ (R.ext e1)
    | true =>
      refine ifT (B := D.nx σ H1) ?_
      refine ⟨fun σ H => ∃ mu r h, Sim X.K mu H h ∧ RelEnv X.K mu H r σ ∧ Post X.K mu H (whileL (fun r h => bnd (evE (callN P n) c r h) fun d h => opt (truthD h d) fun k => .ok k h) (fun r h => evSs (callN P n) P.sub b r h) m r h) (endK X.K D) (xw cls W), fun σ' H' z => ⟨m, Nat.lt_succ_self m, z⟩, mu1, r, h1, S1, R.ext e1, (Post.bnd q1).imp fun f h2 mu2 H2 e2 S2 q2 => ?_⟩
      cases f with
      | nx r2 => exact fun σ2 R2 => ⟨mu2, r2, h2, S2, R2, q2⟩
      | ct r2 => exact fun σ2 R2 => ⟨mu2, r2, h2, S2, R2, q2⟩
      | bk r2 => exact fun σ2 R2 => Post.ok q2 S2 σ2 R2
      | rt d => have z := Post.ok q2 S2; exact z
theorem p_for {t : TG} {it : CI} {b : CSs} {tg it' : Expr} {b' : List Stmt} (hp : PassesOwn (model X.prog X.w) X.A X.env X.xe) (hcalm : X.calm = true) (hi : L2.PI X tg it' (tI P cls n X.K W it)) (hg : PG X tg (tG P cls n X.K W t)) (hb : PSs X b' (tSs P cls n X.K W b)) (fo : ∀ x, foldedSetIterable it' X.env x = pure x) :
    PS X (.For tg it' b' [] p) (tS P cls n X.K W (.for_ t it b)) := by
  refine (ps_for hp hcalm hi hg hb fo).imp ?_
  rintro D σ H ⟨mu, r, h, S, R, q⟩
  simp only [evS] at q
  refine ⟨mu, r, h, S, R, (Post.bnd q).imp fun s h1 mu1 H1 e1 S1 q1 J hJ => ?_⟩
  revert q1
  generalize hturn : (fun (x : PI.D) (r : Env) (h : VH) => bnd (asgG (callN P n) t x r h) fun r h => evSs (callN P n) P.sub b r h) = turn
  intro q1
  refine ⟨fun i m σ H' => m = s.1.length - i ∧ i ≤ s.1.length ∧ ∃ mu' r' h', Ext mu1 H1 mu' H' ∧ Sim X.K mu' H' h' ∧ RelEnv X.K mu' H' r' σ ∧ Post X.K mu' H' (loopL s.2 turn (s.1.drop i) r' h') (endK X.K D) (xw cls W), ⟨s.1.length, by simp, Nat.zero_le _, mu1, r, h1, .refl, S1, R.ext e1, by rw [List.drop_zero]; exact q1⟩, ?_⟩
  rintro i m σ H' ⟨rfl, hi, mu', r', h', e', S', R', q'⟩
  rcases drop_cases s.1 i hi with ⟨hl, hd⟩ | ⟨x, hl, hx, hd⟩
  · rw [hd] at q'
    unfold loopL at q'
    obtain ⟨st, q'⟩ := Post.grd q'
    exact .inl ⟨(hJ i mu' H' h' e' S' st).2 (by omega), Post.ok q' S' σ R'⟩
  · rw [hd] at q'
    unfold loopL at q'
    obtain ⟨st, q'⟩ := Post.grd q'
    obtain ⟨go, yl⟩ := (hJ i mu' H' h' e' S' st).1 x hx
    refine .inr ⟨go, fun σ2 H2 => s.1.length - (i + 1) = s.1.length - (i + 1) ∧ i + 1 ≤ s.1.length ∧ ∃ mu' r' h', Ext mu1 H1 mu' H2 ∧ Sim X.K mu' H2 h' ∧ RelEnv X.K mu' H2 r' σ2 ∧ Post X.K mu' H2 (loopL s.2 turn (s.1.drop (i + 1)) r' h') (endK X.K D) (xw cls W), fun σ2 H2 ⟨_, z2, z3⟩ => ⟨s.1.length - (i + 1), by omega, rfl, z2, z3⟩, fun v H2 hy => ?_⟩
    obtain ⟨e3, S3, rv⟩ := yl v H2 hy
    have q3 := Post.later (Post.bnd q') e3
    rw [← hturn] at q3
    refine ⟨mu', r', h', x, S3, R'.ext e3, rv, (Post.bnd q3).imp fun r4 h4 mu4 H4 e4 S4 q4 σ4 R4 o4 => ?_⟩
    rw [hturn] at q4
    refine ⟨mu4, r4, h4, S4, R4, q4.imp fun f h5 mu5 H5 e5 S5 q5 => ?_⟩
    cases f with
    | nx r5 => exact fun σ5 R5 => ⟨rfl, hl, mu5, r5, h5, ((e'.trans e3).trans e4).trans e5, S5, R5, q5⟩
    | ct r5 => exact fun σ5 R5 => ⟨rfl, hl, mu5, r5, h5, ((e'.trans e3).trans e4).trans e5, S5, R5, q5⟩
    | bk r5 => exact fun σ5 R5 => Post.ok q5 S5 σ5 R5
    | rt d => have z := Post.ok q5 S5; exact z
theorem p_raise {c : Nat} {x m : Str} (wc : WC G P cls X) (wf : WF G P cls n none N sc X) (tk : Takes X W) (hg : glB sc x = true) (ho : okN x = true) (hc : G.classes[c]? = some x) : PS X (.Raise (some (.Call (.Name x p) [.Constant (.str m) j p2] [] p3)) none pos) (tS P cls n X.K W (.raise c)) := by
  obtain ⟨h1, h2, h3, B, newId, initId, bmB, F, q⟩ := wc.mkc c x hc
  refine (ps_raise wf.calm tk (pmk_own F q h1 h2 h3 (gl_of wf hg) (ok_dbg ho))).imp ?_
  rintro D σ H ⟨mu, r, h, S, R, q⟩
  simp only [evS] at q
  exact q mu H .refl S σ

/-! ### try -/
/-- the suite's answer -/
def tB (P : Prog) (i : Nat) (a : Addr) (k : Nat) (s : SB) : TE := fun σ H Q => σ[i]? = some (some (.ref a)) ∧ ∃ b, s.ev P.sub k = some b ∧ Q (.bl b) H
section
variable {i k : Nat} {a : Addr} {oe : Obj} {pn : List (Addr × Obj)} {y : Str}
theorem b_isi {s : SB} {c : V} {cv : Value} {z : Str} (wc : WC G P cls X) (wf : WF G P cls n none N sc X) (hz : Zc (.ref (cls k)) none oe) (hf : ∃ vs, oe.data = .fields vs) (fr : Fr X "isinstance") (hi : N[i]? = some y) (hv : Vis sc y) (hd : (y == ("__debug__" : Str)) = false) (hcd : (y == ("__classdict__" : Str)) = false)
    (pz : PE (X.suite a ((a, oe) :: pn)) (.Name z p3) (tC c)) (hc : ∀ u, RelV c u → u = cv) (hk : ∀ b, s.ev P.sub k = some b → ExcC X.K (cls k) ∧ PySem.W.kitOne X.K (.ref (cls k)) cv = some b) :
    PE (X.suite a ((a, oe) :: pn)) (.Call (.Name "isinstance" p) [.Name y p2, .Name z p3] [] pos) (tB P i a k s) := by
  refine ⟨fun pins s0 σ H Q I ⟨e1, b, e2, q⟩ => ?_⟩
  obtain ⟨C, kk⟩ := hk b e2
  have py : PE (X.suite a ((a, oe) :: pn)) (.Name y p2) (tVar i) := pe_var (by show X.N[i]? = _; rw [wf.N]; exact hi) (by show Vis X.env.scope y; rw [wf.sc]; exact hv) hd hcd
  exact (pe_callB (call_isE C hz hf) (x := "isinstance") fr.gl fr.no boot_isinstance (pa_cons py (pa_cons pz pa_nil rfl) rfl) fr.nm fr.db rfl rfl).run pins s0 σ H Q I ⟨.ref a, e1, c, cv, b, rfl, hc, kk, q⟩
theorem b_all (wc : WC G P cls X) (wf : WF G P cls n none N sc X) (hz : Zc (.ref (cls k)) none oe) (hf : ∃ vs, oe.data = .fields vs) (hi : N[i]? = some y) (hv : sc.names.lookup y = some .local) (hy : okN y = true) : ∀ (s : SB) (e : Expr), chkB G sc (some y) s e = true → PE (X.suite a ((a, oe) :: pn)) e (tB P i a k s)
  | .lit l, e, h => by
    unfold chkB at h
    split at h <;> first | (rename_i z; cases z; done) | skip
    · rename_i z
      cases z
      cases l with
      | bl b =>
        rename_i kc _ _
        cases kc <;> first | cases h | skip
        rename_i b'
        have e : b = b' := by simpa [litB] using h
        subst e
        exact pe_bl.imp fun σ H Q ⟨_, b', e, q⟩ => by
          have e : b = b' := by simpa [SB.ev] using e
          subst e
          exact q
      | _ => exact pe_never fun σ H Q ⟨_, b', e, q⟩ => by simp [SB.ev] at e
    · cases h
  | .isE c, e, h => by
    unfold chkB at h
    split at h <;> first | (rename_i z; cases z; done) | skip
    · rename_i z
      cases z
      simp only [Bool.and_eq_true, decide_eq_true_eq] at h
      obtain ⟨h1, h2, h3, h4, h5, h6⟩ := h
      cases h1
      subst h2
      obtain ⟨g1, g2, g3, _⟩ := wc.mkc c _ h6
      refine b_isi wc wf hz hf (fr_of wf h3) hi (.inl hv) (ok_dbg hy) (ok_cd hy) (pe_glob (v := .ref (cls c)) (u := .ref (cls c)) (gl_of (X := X) wf h4) g1 rfl (ok_dbg h5)) (fun u r => r) fun b e => ?_
      exact ⟨wc.exc k c b e, wc.kit k c b e⟩
    · cases h
  | .isVE, e, h => by
    unfold chkB at h
    split at h <;> first | (rename_i z; cases z; done) | skip
    · rename_i z
      simp only [Bool.and_eq_true, decide_eq_true_eq] at h
      obtain ⟨h1, h2, h3, h4, h5⟩ := h
      cases h1
      subst h2
      subst h4
      have fr := fr_of wf h5
      refine b_isi wc wf hz hf (fr_of wf h3) hi (.inl hv) (ok_dbg hy) (ok_cd hy) (pe_bltn (v := .ty "ValueError") (u := .type "ValueError") fr.gl fr.no (by decide +kernel) rfl fr.nm fr.db) (fun u r => r) fun b e => ?_
      obtain ⟨b', e1, e2⟩ := Option.map_eq_some_iff.mp (show (P.sub k k).map (fun _ => true) = some b from e)
      subst e2
      exact ⟨wc.exc k k b' e1, wc.ve k k b' e1⟩
    · cases h
  | .and_ u v, e, h => by
    unfold chkB at h
    have go : ∀ σ H Q, tB P i a k (.and_ u v) σ H Q → tAndV (tB P i a k u) (tB P i a k v) σ H Q := by
      rintro σ H Q ⟨e1, b, e2, q⟩
      simp only [SB.ev] at e2
      cases eu : u.ev P.sub k with
      | none => rw [eu] at e2; cases e2
      | some w =>
        rw [eu] at e2
        refine ⟨e1, w, eu, w, rfl, ?_⟩
        cases w with
        | true => exact ⟨e1, b, e2, q⟩
        | false => cases e2; exact q
    split at h <;> first | (rename_i z; cases z; done) | skip
    · rename_i z
      cases z
      simp only [Bool.and_eq_true] at h
      exact (pe_and (b_all wc wf hz hf hi hv hy u _ h.1) (pe_one (b_all wc wf hz hf hi hv hy v _ h.2))).imp go
    · rename_i z
      cases z
      simp only [Bool.and_eq_true] at h
      exact (pe_and (b_all wc wf hz hf hi hv hy u _ h.1) (b_all wc wf hz hf hi hv hy v _ h.2)).imp go
    · cases h
  | .not_ u, e, h => by
    unfold chkB at h
    split at h <;> first | (rename_i z; cases z; done) | skip
    · rename_i z
      cases z
      refine (pe_notT (b_all wc wf hz hf hi hv hy u _ h)).imp ?_
      rintro σ H Q ⟨e1, b, e2, q⟩
      obtain ⟨b', e3, e4⟩ := Option.map_eq_some_iff.mp (show (u.ev P.sub k).map (!·) = some b from e2)
      subst e4
      exact ⟨e1, b', e3, b', rfl, q⟩
    · cases h
end
theorem l_pe {l : Lit} {kc : Const} (h : litB l kc = true) : PE X (.Constant kc j p) (tC l.v) := by
  cases l with
  | non => cases kc <;> first | exact pe_non | cases h
  | bl b => cases kc <;> first | cases h | skip
            rename_i c
            have e : b = c := by simpa [litB] using h
            subst e
            exact pe_bl
  | int i => cases kc <;> first | cases h | skip
             rename_i c
             have e : i = c := by simpa [litB] using h
             subst e
             exact pe_int
  | str i => cases kc <;> first | cases h | skip
             rename_i c
             have e : i = c := by simpa [litB] using h
             subst e
             exact pe_str
theorem Lit.inj {l l' : Lit} (h : l.d = l'.d) : l = l' := by
  cases l <;> cases l' <;> first | (cases h; rfl) | cases h
theorem SB.d_lit {sub : Subs} {k : Nat} {s : SB} {d : PI.D} (h : s.d sub k = some d) : ∃ l : Lit, d = l.d := by
  cases s with
  | lit l => cases h; exact ⟨l, rfl⟩
  | _ =>
    obtain ⟨b, _, e⟩ := Option.map_eq_some_iff.mp h
    exact ⟨.bl b, e.symm⟩
theorem SB.d_ev {sub : Subs} {k : Nat} {s : SB} {l : Lit} (hs : isLitB s = false) (h : s.d sub k = some l.d) : ∃ b, s.ev sub k = some b ∧ l = .bl b := by
  cases s with
  | lit l => cases hs
  | _ =>
    obtain ⟨b, e1, e2⟩ := Option.map_eq_some_iff.mp h
    exact ⟨b, e1, (Lit.inj (l := .bl b) e2).symm⟩
theorem lit_of {s : SB} (h : isLitB s = true) : ∃ l, s = .lit l := by
  cases s <;> first | exact ⟨_, rfl⟩ | cases h
theorem lit_chk {nm : Option Str} {l : Lit} {e : Expr} (h : chkB G sc nm (.lit l) e = true) : ∃ kc j p, e = .Constant kc j p ∧ litB l kc = true := by
  unfold chkB at h
  split at h <;> first | (rename_i z; cases z; done) | skip
  · rename_i z
    cases z
    exact ⟨_, _, _, rfl, h⟩
  · cases h
section
variable {c i : Nat} {b : CSs} {s : SB} {x y : Str} {b' : List Stmt} {e' : Expr}
/-- what the suite is asked -/
def tsA (P : Prog) (cls : Nat → Addr) (i : Nat) (s : SB) (a : Addr) (cl : Value) (dd : Option Addr) : TS := fun D σ H => (i < σ.length → σ[i]? = some (some (.ref a))) ∧ ∃ (k : Nat) (l : Lit), cl = .ref (cls k) ∧ dd = none ∧ s.d P.sub k = some l.d ∧ D.rt l.v H
def tsO (P : Prog) (cls : Nat → Addr) (s : SB) (a : Addr) (cl : Value) (dd : Option Addr) : TS := fun D σ H => ∃ (k : Nat) (l : Lit), cl = .ref (cls k) ∧ dd = none ∧ s.d P.sub k = some l.d ∧ D.rt l.v H
theorem go_try {K : PySem.W.Frag} (Wi : Ends → WX) (hW : ∀ D k bb H σ, P.sub k c = some bb → (bb = true → ∀ d, s.d P.sub k = some d → ∀ l : Lit, d = l.d → D.rt l.v H → Wi D (.ref (cls k)) none σ H) ∧ (bb = false → W (.ref (cls k)) none σ H → Wi D (.ref (cls k)) none σ H)) :
    ∀ D σ H, tS P cls n K W (.try_ b c s) D σ H → tSs P cls n K (Wi D) b D σ H := by
  rintro D σ H ⟨mu, r, h, S, R, q⟩
  simp only [evS] at q
  refine ⟨mu, r, h, S, R, ?_⟩
  cases z : evSs (callN P n) P.sub b r h with
  | ok f h1 => rw [z] at q; exact q
  | stuck => rw [z] at q; exact q.elim
  | exc k h1 =>
    rw [z] at q
    intro mu1 H1 e1 S1 σ1
    obtain ⟨bb, eb, q⟩ := Post.opt (Post.later q e1)
    obtain ⟨w1, w2⟩ := hW D k bb H1 σ1 eb
    cases bb with
    | true =>
      obtain ⟨d, ed, q⟩ := Post.opt q
      obtain ⟨l, rfl⟩ := SB.d_lit ed
      exact w1 rfl _ ed l rfl (Post.ok q S1 _ l.rel)
    | false => exact w2 rfl (q mu1 H1 .refl S1 σ1)
theorem names_of (wc : WC G P cls X) (wf : WF G P cls n none N sc X) (hg : glB sc x = true) (ho : okN x = true) (hc : G.classes[c]? = some x) : Names X x (.ref (cls c)) := ⟨gl_of wf hg, ok_dbg ho, .inl (wc.mkc c x hc).1⟩
theorem p_try_only (ws : WS G P cls n N sc X) (tk : Takes X W) (hg : glB sc x = true) (ho : okN x = true) (hc : G.classes[c]? = some x) (hl : isLitB s = true) (hs : chkB G sc none s e' = true)
    (hb : ∀ (W : WX) (pn : List (Addr × Obj)) (xe : Value → Shared → Prop), Takes (X.tr pn xe) W → PassesOwn (model X.prog X.w) X.A X.env xe → PSs (X.tr pn xe) b' (tSs P cls n X.K W b)) :
    PS X (.Try b' [.ExceptHandler (some (.Name x p)) none [.Return (some e') p2] p3] [] [] pos) (tS P cls n X.K W (.try_ b c s)) := by
  obtain ⟨l, rfl⟩ := lit_of hl
  obtain ⟨kc, j, p4, rfl, hk⟩ := lit_chk hs
  refine (ps_try_only (ts := tsO P cls (.lit l)) ws.stk ws.frm (names_of ws.wc ws.wf hg ho hc) tk hb fun a oe cl d pn hz hf => ?_).imp ?_
  · refine ⟨fun pins s σ H D I ⟨k, l', e1, e2, e3, q⟩ => ?_⟩
    have : l = l' := Lit.inj (Option.some.inj e3)
    subst this
    exact (pss_one (ps_ret (l_pe hk))).run pins s σ H D I q
  · refine go_try _ fun D k bb H σ eb => ⟨fun hb d ed l' el q => ⟨bb, ws.wc.exm k c bb eb, fun _ a ha => ⟨k, l', rfl, rfl, by rw [ed, el], q⟩, fun z => by rw [hb] at z; cases z⟩, fun hb q => ⟨bb, ws.wc.exm k c bb eb, fun z => (by rw [hb] at z; cases z), fun _ => q⟩⟩
theorem p_try_as (ws : WS G P cls n N sc X) (tk : Takes X W) (hg : glB sc x = true) (ho : okN x = true) (hc : G.classes[c]? = some x) (hi : N[i]? = some y) (hy : sc.names.lookup y = some .local) (oy : okN y = true) (hs : chkB G sc (some y) s e' = true)
    (hb : ∀ (W : WX) (pn : List (Addr × Obj)) (xe : Value → Shared → Prop), Takes (X.tr pn xe) W → PassesOwn (model X.prog X.w) X.A X.env xe → PSs (X.tr pn xe) b' (tSs P cls n X.K W b)) :
    PS X (.Try b' [.ExceptHandler (some (.Name x p)) (some y) [.Return (some e') p2] p3] [] [] pos) (tS P cls n X.K W (.try_ b c s)) := by
  refine (ps_try_as (i := i) (ts := tsA P cls i s) ws.stk ws.frm (by rw [ws.wf.N]; exact ws.wf.nd) (by rw [ws.wf.N]; exact hi) (by show X.env.scope.names.lookup y = _; rw [ws.wf.sc]; exact hy) (names_of ws.wc ws.wf hg ho hc) tk hb fun a oe cl d pn hz hf => ?_).imp ?_
  · refine ⟨fun pins s0 σ H D I ⟨e0, k, l, e1, e2, e3, q⟩ => ?_⟩
    subst e1
    subst e2
    have hl : i < σ.length := by
      have := I.len
      rw [this]
      show i < X.N.length
      rw [ws.wf.N]
      exact (List.getElem?_eq_some_iff.mp hi).1
    cases hsl : isLitB s with
    | true =>
      obtain ⟨l', rfl⟩ := lit_of hsl
      obtain ⟨kc, j, p4, rfl, hk⟩ := lit_chk hs
      have : l' = l := Lit.inj (Option.some.inj e3)
      subst this
      exact (pss_one (ps_ret (l_pe hk))).run pins s0 σ H D I q
    | false =>
      obtain ⟨bb, eb, rfl⟩ := SB.d_ev hsl e3
      exact (pss_one (ps_ret (b_all (k := k) ws.wc ws.wf hz hf hi hy oy s e' hs))).run pins s0 σ H D I ⟨e0 hl, bb, eb, q⟩
  · refine go_try _ fun D k bb H σ eb => ⟨fun hb d ed l' el q => ⟨bb, ws.wc.exm k c bb eb, fun _ a ha => ⟨fun hl => ?_, k, l', rfl, rfl, by rw [ed, el], q⟩, fun z => by rw [hb] at z; cases z⟩, fun hb q => ⟨bb, ws.wc.exm k c bb eb, fun z => (by rw [hb] at z; cases z), fun _ => q⟩⟩
    rw [List.length_set] at hl
    exact List.getElem?_set_self hl
end
/-! ### all statements -/
theorem wf_tr {bk : Option Scope} (w : WF G P cls n bk N sc X) (pn : List (Addr × Obj)) (xe : Value → Shared → Prop) : WF G P cls n bk N sc (X.tr pn xe) := ⟨w.calm, w.nd, w.N, w.sc, w.room, w.fn, w.fns, w.free, w.cons, w.gcd⟩
theorem ws_tr (w : WS G P cls n N sc X) (pn : List (Addr × Obj)) (xe : Value → Shared → Prop) : WS G P cls n N sc (X.tr pn xe) := ⟨wf_tr w.wf pn xe, ⟨w.wc.mkc, w.wc.exm, w.wc.kit, w.wc.exc, w.wc.ve⟩, w.stk, w.frm, w.kind⟩
theorem sw_none {e : Expr} {env : PySem.Env} {l : Nat} (h : isCompE e = false) : swapsWith e none l env = pure false := by
  cases e <;> first | rfl | cases h
theorem sw_false {e tg : Expr} {t : TG} {ce : CE} {l : Nat} (w : WF G P cls n none N sc X) (hk : sc.kind = .function) (hg : chkG G N none sc t tg = true) (he : chkE G N none sc ce e = true) (h : swB sc tg e = false) : swapsWith e (some tg) l X.env = pure false := by
  have key : ∀ (y : Str) (q : Pos) (scope : Scope) (vp : Pos), (X.env.blockKind == .function && X.env.kindOf y == some .local && q.line == vp.line && !(scope.names.any fun (n, k) => n == y && (k == .local || k == .cell))) = (decide (sc.names.lookup y = some .local) && (q.line == vp.line && !(scope.names.any fun (n, k) => n == y && (k == .local || k == .cell)))) := by
    intro y q scope vp
    have e1 : (X.env.blockKind == .function) = true := by
      unfold PySem.Env.blockKind
      rw [w.sc, hk]
      rfl
    have e2 : (X.env.kindOf y == some .local) = decide (sc.names.lookup y = some .local) := by
      show (X.env.scope.names.lookup y == some .local) = _
      rw [w.sc]
      cases sc.names.lookup y with
      | none => rfl
      | some k => cases k <;> rfl
    rw [e1, e2, Bool.true_and, Bool.and_assoc]
  unfold chkG at hg
  split at hg
  · rename_i i y q
    cases isE_of he <;> first
      | rfl
      | (have h' := h; unfold swB at h'; dsimp only at h'; unfold swapsWith; dsimp only [Expr.pos]; rw [key, h'])
  · cases isE_of he <;> rfl
  · cases isE_of he <;> rfl
  · cases hg
theorem ss_none {e tg : Expr} {env : PySem.Env} {t : TG} {ce : CE} {bk : Option Scope} (hg : chkG G N bk sc t tg = true) (he : chkE G N bk sc ce e = true) (h : (isTupE tg && isTupE e) = false) : swappedStores [tg] e env = pure none := by
  unfold chkG at hg
  split at hg
  · cases isE_of he <;> rfl
  · cases isE_of he <;> first | rfl | cases h
  · cases isE_of he <;> rfl
  · cases hg
end
section
variable (G : Gam) (P : Prog) (cls : Nat → Addr) (n : Nat) (N : List Str)
def SS (s : CS) : Prop := ∀ {X : Cx} {W : WX} {sc : Scope} {e : Stmt}, chkS G N sc s e = true → WS G P cls n N sc X → Takes X W → PassesOwn (model X.prog X.w) X.A X.env X.xe → PS X e (tS P cls n X.K W s)
def SSs (s : CSs) : Prop := ∀ {X : Cx} {W : WX} {sc : Scope} {e : List Stmt}, chkSs G N sc s e = true → WS G P cls n N sc X → Takes X W → PassesOwn (model X.prog X.w) X.A X.env X.xe → PSs X e (tSs P cls n X.K W s)
end
section
variable {G : Gam} {P : Prog} {cls : Nat → Addr} {n : Nat} {N : List Str}
theorem ss_expr {e : CE} : SS G P cls n N (.expr e) := by
  intro X W sc st h w tk hp
  unfold chkS at h
  split at h <;> first | (rename_i z; cases z; done) | skip
  · rename_i z
    cases z
    simp only [Bool.and_eq_true, Bool.not_eq_true'] at h
    exact p_expr ((sE G P cls n N e).pe h.2 w.wf tk) (sw_none h.1)
  · cases h
theorem ss_ret {e : CE} : SS G P cls n N (.ret e) := by
  intro X W sc st h w tk hp
  unfold chkS at h
  split at h <;> first | (rename_i z; cases z; done) | skip
  · rename_i z
    cases z
    exact p_ret ((sE G P cls n N e).pe h w.wf tk)
  · cases h
theorem ss_retN : SS G P cls n N .retN := by
  intro X W sc st h w tk hp
  unfold chkS at h
  split at h <;> first | (rename_i z; cases z; done) | skip
  · exact p_retN
  · cases h
theorem ss_pass : SS G P cls n N .pass := by
  intro X W sc st h w tk hp
  unfold chkS at h
  split at h <;> first | (rename_i z; cases z; done) | skip
  · exact p_pass
  · cases h
theorem ss_brk : SS G P cls n N .brk := by
  intro X W sc st h w tk hp
  unfold chkS at h
  split at h <;> first | (rename_i z; cases z; done) | skip
  · exact p_brk
  · cases h
theorem ss_cnt : SS G P cls n N .cnt := by
  intro X W sc st h w tk hp
  unfold chkS at h
  split at h <;> first | (rename_i z; cases z; done) | skip
  · exact p_cnt
  · cases h
theorem ss_asg {t : TG} {e : CE} : SS G P cls n N (.asg t e) := by
  intro X W sc st h w tk hp
  unfold chkS at h
  split at h <;> first | (rename_i z; cases z; done) | skip
  · rename_i z
    cases z
    rename_i tg e' pos
    simp only [Bool.and_eq_true, Bool.not_eq_true'] at h
    obtain ⟨h1, h2, h3⟩ := h
    have pe := (sE G P cls n N e).pe h2 w.wf tk
    have pg := (sG G P cls n N t) h1 w.wf tk
    cases hsw : swB sc tg e' with
    | false => exact p_asg pe pg (sw_false w.wf w.kind h1 h2 hsw) (ss_none h1 h2 h3) (by rw [(plainG_of h1).one]; rfl)
    | true =>
      unfold swB at hsw
      split at hsw
      · rename_i y py elt gs scope p2
        have h0 := isE_of h2
        cases h0 with
        | c26 hh =>
          clear h2
          simp only [Bool.and_eq_true, decide_eq_true_eq] at hh
          obtain ⟨k1, k2, k3, k4, k5, k6⟩ := hh
          subst k1
          unfold chkG at h1
          split at h1
          · rename_i i y' q' e1
            cases e1
            simp only [Bool.and_eq_true, decide_eq_true_eq, Bool.not_eq_true'] at h1 hsw
            refine PS.imp (s_setLc (i := i) w.wf k2 ((sI G P cls n N _) k3 w.wf tk) (fold_of k3 _) (fun s H C cl fp => (sG G P cls n N _) k4 (wf_blk w.wf s H C cl fp) takes0) (fun s H C cl fp => ?_) (fun s H C cl fp => (sE G P cls n N _).pe k6 (wf_blk w.wf s H C cl fp) takes0) h1.1 hsw.1 (sw_true (by rw [w.wf.sc]; exact w.kind) (by rw [w.wf.sc]; exact hsw.1) hsw.2.1 hsw.2.2)) go_asgN
            split at k5
            · exact pts_nil
            · exact pts_one ((sE G P cls n N _).pt k5 (wf_blk w.wf s H C cl fp) takes0)
            · cases k5
          · rename_i e1; cases e1
          · rename_i e1; cases e1
          · cases h1
      · have h0 := isE_of h2
        cases h0 with
        | c27 hh =>
          clear h2
          simp only [Bool.and_eq_true, decide_eq_true_eq] at hh
          obtain ⟨k1, k2, k3, k4, k5, k6⟩ := hh
          subst k1
          unfold chkG at h1
          split at h1
          · rename_i i y' q' e1
            cases e1
            simp only [Bool.and_eq_true, decide_eq_true_eq, Bool.not_eq_true'] at h1 hsw
            exact PS.imp (s_setDc (i := i) w.wf k2 ((sI G P cls n N _) k3 w.wf tk) (fold_of k3 _) (fun s H C cl fp => (sG G P cls n N _) k4 (wf_blk w.wf s H C cl fp) takes0) (fun s H C cl fp => (sE G P cls n N _).pe k5 (wf_blk w.wf s H C cl fp) takes0) (fun s H C cl fp => (sE G P cls n N _).pe k6 (wf_blk w.wf s H C cl fp) takes0) h1.1 hsw.1 (sw_trueD (by rw [w.wf.sc]; exact w.kind) (by rw [w.wf.sc]; exact hsw.1) hsw.2.1 hsw.2.2)) go_asgN
          · rename_i e1; cases e1
          · rename_i e1; cases e1
          · cases h1
      · cases hsw
  · cases h
theorem ss_raise {c : Nat} : SS G P cls n N (.raise c) := by
  intro X W sc st h w tk hp
  unfold chkS at h
  split at h <;> first | (rename_i z; cases z; done) | skip
  · rename_i z
    cases z
    simp only [Bool.and_eq_true, decide_eq_true_eq] at h
    exact p_raise w.wc w.wf tk h.1 h.2.1 h.2.2
  · cases h
theorem ss_if {c : CE} {a b : CSs} (a0 : SSs G P cls n N a) (b0 : SSs G P cls n N b) : SS G P cls n N (.if_ c a b) := by
  intro X W sc st h w tk hp
  unfold chkS at h
  split at h <;> first | (rename_i z; cases z; done) | skip
  · rename_i z
    cases z
    simp only [Bool.and_eq_true] at h
    exact p_if ((sE G P cls n N c).pt h.1 w.wf tk) (a0 h.2.1 w tk hp) (b0 h.2.2 w tk hp)
  · cases h
theorem ss_for {t : TG} {it : CI} {b : CSs} (b0 : SSs G P cls n N b) : SS G P cls n N (.for_ t it b) := by
  intro X W sc st h w tk hp
  unfold chkS at h
  split at h <;> first | (rename_i z; cases z; done) | skip
  · rename_i z
    cases z
    simp only [Bool.and_eq_true] at h
    exact p_for hp w.wf.calm ((sI G P cls n N it) h.2.1 w.wf tk) ((sG G P cls n N t) h.1 w.wf tk) (b0 h.2.2 w tk hp) (fold_of h.2.1 _)
  · cases h
theorem ss_while {c : CE} {b : CSs} (b0 : SSs G P cls n N b) : SS G P cls n N (.while_ c b) := by
  intro X W sc st h w tk hp
  unfold chkS at h
  split at h <;> first | (rename_i z; cases z; done) | skip
  · rename_i z
    cases z
    simp only [Bool.and_eq_true] at h
    exact p_while hp ((sE G P cls n N c).pt h.1 w.wf tk) (b0 h.2 w tk hp)
  · cases h
theorem ss_try {b : CSs} {c : Nat} {s : SB} (b0 : SSs G P cls n N b) : SS G P cls n N (.try_ b c s) := by
  intro X W sc st h w tk hp
  unfold chkS at h
  split at h <;> first | (rename_i z; cases z; done) | skip
  · rename_i z
    cases z
    simp only [Bool.and_eq_true, decide_eq_true_eq] at h
    obtain ⟨h1, h2, h3, h4, h5, h6⟩ := h
    have hb : ∀ (W : WX) (pn : List (Addr × Obj)) (xe : Value → Shared → Prop), Takes (X.tr pn xe) W → PassesOwn (model X.prog X.w) X.A X.env xe → PSs (X.tr pn xe) _ (tSs P cls n X.K W b) := fun W pn xe tk' hp' => b0 h1 (ws_tr w pn xe) tk' hp'
    split at h6
    · exact p_try_only w tk h2 h3 h4 h6 h5 hb
    · simp only [Bool.and_eq_true, decide_eq_true_eq] at h6
      obtain ⟨i, hi⟩ := List.getElem?_of_mem (List.contains_iff_mem.mp h6.1.2)
      exact p_try_as w tk h2 h3 h4 hi h6.2 h6.1.1 h5 hb
  · cases h
theorem sss_nil : SSs G P cls n N .nil := by
  intro X W sc st h w tk hp
  cases st with
  | nil => exact p_nil
  | cons s ss => simp [chkSs] at h
theorem sss_cons {s : CS} {ss : CSs} (h1 : SS G P cls n N s) (h2 : SSs G P cls n N ss) : SSs G P cls n N (.cons s ss) := by
  intro X W sc st h w tk hp
  cases st with
  | nil => simp [chkSs] at h
  | cons s' ss' =>
    simp only [chkSs, Bool.and_eq_true] at h
    exact p_cons (h1 h.1 w tk hp) (h2 h.2 w tk hp)
variable (G P cls n N)
mutual
theorem sS : ∀ s : CS, SS G P cls n N s
  | .expr _ => ss_expr
  | .asg _ _ => ss_asg
  | .ret _ => ss_ret
  | .retN => ss_retN
  | .if_ _ a b => ss_if (sSs a) (sSs b)
  | .for_ _ _ b => ss_for (sSs b)
  | .while_ _ b => ss_while (sSs b)
  | .raise _ => ss_raise
  | .try_ b _ _ => ss_try (sSs b)
  | .pass => ss_pass
  | .brk => ss_brk
  | .cnt => ss_cnt
theorem sSs : ∀ s : CSs, SSs G P cls n N s
  | .nil => sss_nil
  | .cons s ss => sss_cons (sS s) (sSs ss)
end
end
end PI
end
section
set_option maxRecDepth 100000
set_option maxHeartbeats 4000000
/-! The defs: each keeps the interpreter's promise; a law's end (own work). -/
namespace PI
open PySem PySem.Spec PyProof.Rows L2
/-- what is known behind the module's top -/
structure Top (G : Gam) (P : Prog) (cls : Nat → Addr) (K : PySem.W.Frag) (mg : Str → Option Value) : Prop where
  free : ∀ x ∈ G.free, mg x = none
  cons : ∀ (x : Str) (l : Lit), G.consts.lookup x = some l → ∃ u, mg x = some u ∧ RelV l.v u
  gcd : ∀ x ∈ G.gcd, mg x = some (.builtin "math.gcd")
  mkc : ∀ (c : Nat) (x : Str), G.classes[c]? = some x → mg x = some (.ref (cls c)) ∧ PySem.W.keepIn K (.ref (cls c)) = true ∧ (PySem.W.subIn K (.ref (cls c)) (.type "BaseException") = some true ∧ PySem.W.typeIn K (.ref (cls c)) = some (.type "type")) ∧ ∃ B newId initId bmB, ExcBaseFacts B newId initId bmB ∧ PySem.W.excIn K (cls c) bmB newId = true
  exm : ∀ (k c : Nat) (b : Bool), P.sub k c = some b → PySem.W.exmOne K (.ref (cls k)) (.ref (cls c)) = some b
  kit : ∀ (k c : Nat) (b : Bool), P.sub k c = some b → PySem.W.kitOne K (.ref (cls k)) (.ref (cls c)) = some b
  exc : ∀ (k c : Nat) (b : Bool), P.sub k c = some b → ExcC K (cls k)
  ve : ∀ (k c : Nat) (b : Bool), P.sub k c = some b → PySem.W.kitOne K (.ref (cls k)) (.type "ValueError") = some true
  fns : ∀ (f : Nat) (x : Str) (ps : List Str), G.fns[f]? = some (x, ps) → ∃ (a : Addr) (fd : FuncData) (N : List Str) (fn : Fn) (nm qual : Str) (params : Arguments) (body : List Stmt) (scope : Scope),
    mg x = some (.ref a) ∧ FunD K nm qual params body scope [] [] a fd ∧ Binds K fd ps [] ∧ P.fns[f]? = some fn ∧ fn.pars = ps.length ∧ fn.names = N.length ∧ FnScope N ps scope ∧ chkSs G N scope fn.body body = true
section
variable {G : Gam} {P : Prog} {cls : Nat → Addr} {K : PySem.W.Frag} {mg : Str → Option Value} {base : Heap} {Pr : Program} {w : World}
theorem start_rel {mu : List Addr} {H : Hp} {ds : List PI.D} {vs : List V} {N : List Str} (r : RelDs K mu H ds vs) : RelEnv K mu H (startE N.length ds) (L2.start N vs) := by
  have hl := r.length
  refine ⟨by unfold startE L2.start; simp [hl], fun i d e => ?_⟩
  unfold startE at e
  by_cases hi : i < ds.length
  · rw [List.getElem?_append_left (by simpa using hi), List.getElem?_map] at e
    obtain ⟨d', e1, e2⟩ := Option.map_eq_some_iff.mp e
    cases e2
    obtain ⟨v, ev, rv⟩ := r.get e1
    refine ⟨v, ?_, rv⟩
    unfold L2.start
    rw [List.getElem?_append_left (by simpa [← hl] using hi), List.getElem?_map, ev]
    rfl
  · rw [List.getElem?_append_right (by simpa using hi)] at e
    have := List.mem_of_getElem? e
    rw [List.mem_replicate] at this
    cases this.2
theorem fn_step (T : Top G P cls K mg) {n : Nat} (ih : ∀ (f : Nat) (x : Str) (ps : List Str), G.fns[f]? = some (x, ps) → ∃ (a : Addr) (fd : FuncData), mg x = some (.ref a) ∧ FnOk Pr w K mg base (L2.CX Pr w) n a fd ps (spF P cls K n f ps.length) ∧ PySem.W.keepIn K (.ref a) = true ∧ Binds K fd ps [] ∧ ∀ fn, P.fns[f]? = some fn → fn.pars = ps.length)
    {f : Nat} {ps : List Str} {a : Addr} {fd : FuncData} {N : List Str} {fn : Fn} {nm qual : Str} {params : Arguments} {body : List Stmt} {scope : Scope} (h2 : FunD K nm qual params body scope [] [] a fd) (h4 : P.fns[f]? = some fn) (h6 : fn.names = N.length) (h7 : FnScope N ps scope) (h8 : chkSs G N scope fn.body body = true) :
    FnOk Pr w K mg base (L2.CX Pr w) (n + 1) a fd ps (spF P cls K (n + 1) f ps.length) := by
  refine FunD.ok h2 h7 (fun vs H Q E h => h.1) fun cdv A outer s H vs Q E hr h => ?_
  obtain ⟨hl, mu, h, ds, S, R, p⟩ := h
  have wf : WF G P cls n none N scope (cxOf (L2.CX Pr w) Pr w K mg base N qual scope a cdv A outer s H E) := ⟨rfl, h7.nd, rfl, rfl, hr, rfl, ih, T.free, T.cons, T.gcd⟩
  have ws : WS G P cls n N scope (cxOf (L2.CX Pr w) Pr w K mg base N qual scope a cdv A outer s H E) := ⟨wf, ⟨fun c x e => by
    obtain ⟨k1, k2, k3, k4⟩ := T.mkc c x e
    exact ⟨k1, k2, raises_own k3.1 k3.2, k4⟩, T.exm, T.kit, T.exc, T.ve⟩, rfl, rfl, h7.kind⟩
  refine ⟨tSs P cls n K (fun cl d _ H' => E cl d H') fn.body, sSs G P cls n N fn.body h8 ws (takes_of rfl rfl rfl rfl) (passes_of rfl), mu, startE fn.names ds, h, S, by rw [h6]; exact start_rel R, ?_⟩
  unfold callN at p
  rw [h4] at p
  obtain ⟨_, p⟩ := Post.grd p
  refine (Post.bnd p).imp (fun fl h1 mu1 H1 e1 S1 q => ?_) fun c H' z σ => z
  cases fl with
  | nx r => exact fun σ _ => Post.ok q S1 _ .non
  | rt d => exact fun v rv => Post.ok q S1 v rv
  | bk r => exact q.elim
  | ct r => exact q.elim
theorem all_ok (T : Top G P cls K mg) : ∀ (n f : Nat) (x : Str) (ps : List Str), G.fns[f]? = some (x, ps) → ∃ (a : Addr) (fd : FuncData), mg x = some (.ref a) ∧ FnOk Pr w K mg base (L2.CX Pr w) n a fd ps (spF P cls K n f ps.length) ∧ PySem.W.keepIn K (.ref a) = true ∧ Binds K fd ps [] ∧ ∀ fn, P.fns[f]? = some fn → fn.pars = ps.length
  | 0, f, x, ps, e => by
    obtain ⟨a, fd, N, fn, nm, qual, params, body, scope, h1, h2, h3, h4, h5, h6, h7, h8⟩ := T.fns f x ps e
    refine ⟨a, fd, h1, ⟨fun vs H Q E h => h.1, fun A outer s H args us vs Q E hr he hb hv h => ?_⟩, h2.kp, h3, fun fn' e' => by rw [h4] at e'; cases e'; exact h5⟩
    obtain ⟨_, mu, h, ds, S, R, p⟩ := h
    exact p.elim
  | n + 1, f, x, ps, e => by
    obtain ⟨a, fd, N, fn, nm, qual, params, body, scope, h1, h2, h3, h4, h5, h6, h7, h8⟩ := T.fns f x ps e
    exact ⟨a, fd, h1, fn_step T (all_ok T n) h2 h4 h6 h7 h8, h2.kp, h3, fun fn' e' => by rw [h4] at e'; cases e'; exact h5⟩
/-- the law's own promise from the plain run -/
theorem law_sp {n f m : Nat} (hp : ∀ ns : List Int, ns.length ≤ m → ∀ k : Bool, ∃ h, callN P n f [.ref 0] [.ro k (ns.map .int)] = .ok (.bl true) h) (H : Hp) (a : Addr) (ns : List Int) (hl : ns.length ≤ m) (hO : Only H) (hS : SqL K H a (ns.map V.int)) :
    spF P cls K n f 1 [.ref a] H (fun v _ => v = .bl true) fun _ _ _ => False := by
  have go : ∀ k : Bool, Holds K [a] H a (.ro k (ns.map .int)) → spF P cls K n f 1 [.ref a] H (fun v _ => v = .bl true) fun _ _ _ => False := fun k hh => by
    obtain ⟨h', e⟩ := hp ns hl k
    refine ⟨rfl, [a], [.ro k (ns.map .int)], [.ref 0], ⟨rfl, fun i b o e1 e2 => ?_, fun i j b o u ne e1 e2 e3 e4 k1 k2 => ?_⟩, .cons (.ref rfl) .nil, ?_⟩
    · cases i with
      | zero =>
        cases e1
        cases e2
        exact hh
      | succ i => simp at e1
    · cases i with
      | zero =>
        cases j with
        | zero => exact ne rfl
        | succ j => simp at e2
      | succ i => simp at e1
    · rw [e]
      exact fun mu1 H1 _ _ v rv => rv.bl_inv
  have ri : RelDs K [a] H (ns.map .int) (ns.map V.int) := .ints ns
  rcases hS with hS | hS
  · rcases hS with hS | hS
    · rcases hO a with z | ⟨o, xs, z⟩
      · rw [hS] at z; cases z
      · rw [hS] at z; cases z
    · exact go false ⟨_, hS, ri⟩
  · exact go true ⟨_, hS, ri⟩
end
end PI
end
section
set_option maxRecDepth 100000
set_option maxHeartbeats 4000000
/-! The head's facts for the interpreter (own work). -/
namespace PI
open PySem PySem.Spec PyProof.Rows L2
theorem look_zip {ps : List Str} {us : List Value} (hl : us.length = ps.length) : ∀ n ∈ ps, ((ps.zip us).lookup n).isNone = false := by
  induction ps generalizing us with
  | nil => intro n h; cases h
  | cons p ps ih =>
    cases us with
    | nil => cases hl
    | cons u us =>
      intro n hn
      rw [List.zip_cons_cons, List.lookup_cons]
      cases e : (n == p) with
      | true => rfl
      | false =>
        refine ih (by simpa using hl) n ?_
        rcases List.mem_cons.mp hn with z | z
        · subst z; simp at e
        · exact z
theorem fm_congr {α β : Type} {f g : α → Option β} : ∀ {l : List α}, (∀ x ∈ l, f x = g x) → l.filterMap f = l.filterMap g
  | [], _ => rfl
  | x :: l, h => by rw [List.filterMap_cons, List.filterMap_cons, h x (by simp), fm_congr (l := l) fun y hy => h y (by simp [hy])]
theorem map_zip {ps : List Str} {us : List Value} (hl : us.length = ps.length) (nd : ps.Nodup) : (ps.filterMap fun n => ((ps.zip us).lookup n).map (n, ·)) = ps.zip us := by
  induction ps generalizing us with
  | nil => rfl
  | cons p ps ih =>
    cases us with
    | nil => cases hl
    | cons u us =>
      rw [List.zip_cons_cons, List.filterMap_cons]
      have e : List.lookup p ((p, u) :: ps.zip us) = some u := by simp [List.lookup_cons]
      rw [e]
      dsimp only [Option.map_some]
      congr 1
      refine Eq.trans (fm_congr fun n hn => ?_) (ih (by simpa using hl) (List.nodup_cons.mp nd).2)
      have ne : (n == p) = false := by
        rw [beq_eq_false_iff_ne]
        intro z; subst z
        exact (List.nodup_cons.mp nd).1 hn
      rw [List.lookup_cons, ne]
theorem bind_plain {x qual : Str} {body : List Stmt} {scope : Scope} {kV doc pm cdv ct : Value} {an : Option Addr} {us : List Value} {ps : List Str} {args : List Arg} {kd : List (Option Expr)} {df : List Expr} (hl : us.length = ps.length) (nd : ps.Nodup) (ha : args.map (·.arg) = ps) :
    bindArgs (PySem.W.fnOf x qual ⟨[], args, none, [], kd, none, df⟩ body scope .none kV doc pm an cdv ct) ⟨us, []⟩ = pure (ps.zip us) := by
  subst ha
  unfold bindArgs PySem.W.fnOf
  have e0 : seqItems? (.none : Value) = pure none := rfl
  have e1 : ¬ (us.length > (args.map (·.arg)).length) := by omega
  have e2 : ((args.map (·.arg)).filter fun n => (((args.map (·.arg)).zip us).lookup n).isNone) = [] := by
    rw [List.filter_eq_nil_iff]
    intro n hn
    rw [look_zip hl n hn]; simp
  have e3 := map_zip hl nd
  rw [List.filterMap_map] at e3
  have e4 : ¬ args.length < us.length := by simpa using e1
  have e5 : List.take args.length (args.map (·.arg)) = args.map (·.arg) := List.take_of_length_le (by simp)
  simp [e0, e1, e2, e3, e4, e5]

/-- one def: its name, its place in the module, its names, its parameters, its core -/
structure DefI where
  x : Str
  i : Nat
  N : List Str
  ps : List Str
  c : CSs
def topS (p : Program) (i : Nat) : Stmt := p.main.body.getD i (.Pass ⟨0, 0, 0, 0⟩)
def DefI.d (p : Program) (q : DefI) : He.DefD := ⟨(q.x, none), q.x, q.x, defArgs (topS p q.i), defBody (topS p q.i), defScope (topS p q.i), [], []⟩
def DefI.fn (q : DefI) : Fn := ⟨q.N.length, q.ps.length, q.c⟩
/-- what a law's text has -/
structure LawI where
  dl : List DefI
  consts : List (Str × Lit)
  classes : List Str
  free : List Str
  gcd : List Str
  sub : List (List Bool)
def LawI.gam (L : LawI) : Gam := ⟨L.dl.map fun q => (q.x, q.ps), L.consts, L.classes, L.free, L.gcd⟩
def LawI.subF (L : LawI) : Subs := fun a b => (L.sub[a]?).bind fun r => r[b]?
def LawI.prog (L : LawI) : Prog := ⟨L.dl.map DefI.fn, L.subF⟩
/-- params written plainly -/
def parB (ps : List Str) (a : Arguments) : Bool := a.posonlyargs.isEmpty && (decide (a.args.map (·.arg) = ps) && (a.vararg.isNone && (a.kwonlyargs.isEmpty && (a.kwarg.isNone && decide ps.Nodup))))
def scopeB (N ps : List Str) (sc : Scope) : Bool := (match sc.kind with | .function => true | _ => false) && (!sc.isCoroutine && (!sc.isGenerator && (decide N.Nodup && (decide (N.take ps.length = ps) && ((ps.all fun x => locB sc x) && (sc.names.all fun y => match y.2 with | .free => false | _ => true))))))
def LawI.chkD (L : LawI) (p : Program) (q : DefI) : Bool := chkSs L.gam q.N (defScope (topS p q.i)) q.c (defBody (topS p q.i)) && (scopeB q.N q.ps (defScope (topS p q.i)) && parB q.ps (defArgs (topS p q.i)))
def LawI.chk (L : LawI) (p : Program) : Bool := L.dl.all (L.chkD p) && (decide (L.sub.length ≤ L.classes.length) && L.sub.all fun r => decide (r.length ≤ L.classes.length))
theorem scope_of {N ps : List Str} {sc : Scope} (h : scopeB N ps sc = true) : FnScope N ps sc := by
  unfold scopeB at h
  simp only [Bool.and_eq_true, Bool.not_eq_true', decide_eq_true_eq, List.all_eq_true] at h
  obtain ⟨h1, h2, h3, h4, h5, h6, h7⟩ := h
  refine ⟨?_, h2, h3, h4, h5, fun x hx => ?_, fun y hy z => ?_⟩
  · split at h1
    · assumption
    · cases h1
  · exact loc_of (h6 x hx)
  · have := h7 y hy
    rw [z] at this
    cases this
theorem binds_of {K : PySem.W.Frag} {x qual : Str} {params : Arguments} {body : List Stmt} {scope : Scope} {f : Addr} {fd : FuncData} {ps : List Str} (F : FunD K x qual params body scope [] [] f fd) (h : parB ps params = true) :
    Binds K fd ps [] ∧ ∀ (s : Shared) (us : List Value), us.length = ps.length → BindsTo s fd ⟨us, []⟩ (ps.zip us) := by
  unfold parB at h
  simp only [Bool.and_eq_true, decide_eq_true_eq] at h
  obtain ⟨h1, h2, h3, h4, h5, h6⟩ := h
  obtain ⟨p1, p2, p3, p4, p5, p6, p7⟩ := params
  dsimp only at h1 h2 h3 h4 h5
  obtain rfl := List.isEmpty_iff.mp h1
  obtain rfl := Option.isNone_iff_eq_none.mp h3
  obtain rfl := List.isEmpty_iff.mp h4
  obtain rfl := Option.isNone_iff_eq_none.mp h5
  exact ⟨FunD.bindsN F fun _ _ _ _ _ _ us hl => bind_plain hl h6 h2, FunD.bindsA F fun _ _ _ _ _ _ us hl => bind_plain hl h6 h2⟩

/-! ### facts of the written part -/
def constB (K : PySem.W.Frag) (q : Str × Lit) : Bool := match PySem.W.nsIn K mainGlobals q.1 with
  | some (some u) => He.relB q.2.v u
  | _ => false
def bltB (K : PySem.W.Frag) (x : Str) (b : String) : Bool := match PySem.W.nsIn K mainGlobals x with
  | some (some (.builtin c)) => decide (c = b)
  | _ => false
def excB (K : PySem.W.Frag) (D : Addr) : Bool :=
  He.eqO (PySem.W.findIn K (.ref D) "__getattribute__") (some (some (.builtin "BaseException.__getattribute__"))) &&
  (He.eqO (PySem.W.findIn K (.ref D) "__getattr__") (some none) &&
  (decide (PySem.W.subIn K (.ref D) (.type "BaseException") = some true) &&
  (PySem.W.hasDictIn K D &&
  (He.eqO (PySem.W.findIn K (.ref D) "__class__") (some (some (.builtin "object.__class__"))) &&
  (He.eqO (PySem.W.specialIn K (.builtin "object.__class__") "__get__") (some (some (.builtin "getset_descriptor.__get__"))) &&
  (decide (PySem.W.takesIn K (.builtin "object.__class__") = some true) &&
  decide (PySem.W.mroIn K D (.type "object") = some true)))))))
theorem excB_ok {K : PySem.W.Frag} {D : Addr} (h : excB K D = true) : ExcC K D := by
  unfold excB at h
  simp only [Bool.and_eq_true, decide_eq_true_eq] at h
  obtain ⟨h1, h2, h3, h4, h5, h6, h7, h8⟩ := h
  exact ⟨He.eqO_ok h1, He.eqO_ok h2, h3, h4, He.eqO_ok h5, He.eqO_ok h6, h7, h8⟩
def LawI.cls (L : LawI) (K : PySem.W.Frag) (c : Nat) : Addr := He.ga K (L.classes.getD c Str.empty)
def LawI.subB (L : LawI) (K : PySem.W.Frag) (k c : Nat) : Bool := match L.subF k c with
  | none => true
  | some b => decide (PySem.W.exmOne K (.ref (L.cls K k)) (.ref (L.cls K c)) = some b) && decide (PySem.W.kitOne K (.ref (L.cls K k)) (.ref (L.cls K c)) = some b)
def LawI.clsB (L : LawI) (K : PySem.W.Frag) (k : Nat) : Bool := excB K (L.cls K k) && (decide (PySem.W.kitOne K (.ref (L.cls K k)) (.type "ValueError") = some true) && (List.range L.classes.length).all (L.subB K k))
def LawI.ok (L : LawI) (K : PySem.W.Frag) : Bool :=
  (L.dl.all fun q => (He.Fa.glo q.x).ok K) && ((L.free.all fun x => (He.Fa.free x).ok K) && ((L.consts.all (constB K)) && ((L.gcd.all fun x => bltB K x "math.gcd") &&
  ((L.classes.all fun x => (He.Fa.glo x).ok K && (He.Fa.exc x).ok K) && (List.range L.sub.length).all (L.clsB K)))))
def LawI.obs (L : LawI) (p : Program) (K : PySem.W.Frag) : He.AlD := (L.ok K && L.dl.all fun q => (q.d p).ok K, L.dl.map fun q => He.fnW K (q.d p).at_)
def LawI.val (L : LawI) (p : Program) : He.AlD := (true, L.dl.map fun q => (q.d p).val)
def LawI.obsG (L : LawI) (p : Program) (n : Nat) (g : Addr → Option Obj) : He.AlD := L.obs p (He.frG g (He.asD g n))
def LawI.hook (L : LawI) (p : Program) (n : Nat) : PySem.W.Hook where
  α := He.AlD
  obs := fun s => L.obsG p n s.heap.get?
  val := fun _ => L.val p
  says := fun _ h => ∃ K : PySem.W.Frag, K.In h ∧ L.obs p K = L.val p
  of := fun _ _ e => ⟨_, He.frG_in, e⟩
  keeps := fun _ _ _ ⟨K, hK, c⟩ k => ⟨K, PySem.W.Frag.In.keeps hK k, c⟩
theorem LawI.obsG_eq {L : LawI} {p : Program} {n : Nat} {g : Addr → Option Obj} {s : Shared} (h : ∀ a, g a = s.heap.get? a) : L.obsG p n g = (L.hook p n).obs s := by
  have e : g = s.heap.get? := funext h
  rw [e] <;> rfl
section
variable {L : LawI} {p : Program} {K : PySem.W.Frag}
theorem LawI.says (c : L.obs p K = L.val p) : L.ok K = true ∧ ∀ q ∈ L.dl, ∃ fd, FunD K q.x q.x (defArgs (topS p q.i)) (defBody (topS p q.i)) (defScope (topS p q.i)) [] [] (He.ga K q.x) fd := by
  have c1 : (L.ok K && L.dl.all fun q => (q.d p).ok K) = true := congrArg (fun z : He.AlD => z.1) c
  have c2 : L.dl.map (fun q => He.fnW K (q.d p).at_) = L.dl.map (fun q => (q.d p).val) := congrArg (fun z : He.AlD => z.2) c
  simp only [Bool.and_eq_true, List.all_eq_true] at c1
  refine ⟨c1.1, fun q hq => ?_⟩
  have e := List.map_inj_left.mp c2 q hq
  exact He.DefD.funD e (c1.2 q hq)
theorem look_mem {x : Str} {l : Lit} : ∀ {cs : List (Str × Lit)}, cs.lookup x = some l → (x, l) ∈ cs
  | [], e => nomatch e
  | (y, l') :: cs, e => by
    rw [List.lookup_cons] at e
    cases z : (x == y) with
    | true => rw [z] at e; cases e; rw [eq_of_beq z]; simp
    | false => rw [z] at e; exact List.mem_cons_of_mem _ (look_mem e)
theorem LawI.top {h : Heap} {mg : Str → Option Value} (X : K.In h) (Gn : h.Ns mainGlobals mg) (c : L.obs p K = L.val p) (hc : L.chk p = true) : Top L.gam L.prog (L.cls K) K mg := by
  obtain ⟨ok, fns⟩ := LawI.says c
  unfold LawI.ok at ok
  unfold LawI.chk at hc
  simp only [Bool.and_eq_true, List.all_eq_true, decide_eq_true_eq] at ok hc
  obtain ⟨o1, o2, o3, o4, o5, o6⟩ := ok
  obtain ⟨c1, c2, c3⟩ := hc
  have cls_at : ∀ (c : Nat) (x : Str), L.classes[c]? = some x → L.cls K c = He.ga K x := fun c x e => by
    unfold LawI.cls
    rw [List.getD_eq_getElem?_getD, e]
    rfl
  have subs : ∀ (k c : Nat) (b : Bool), L.subF k c = some b → L.clsB K k = true ∧ L.subB K k c = true := fun k c b e => by
    obtain ⟨r, e1, e2⟩ := Option.bind_eq_some_iff.mp (show (L.sub[k]?).bind (fun r => r[c]?) = some b from e)
    have hk := (List.getElem?_eq_some_iff.mp e1).1
    have hcl := (List.getElem?_eq_some_iff.mp e2).1
    have hr := c3 r (List.mem_of_getElem? e1)
    have z := o6 k (List.mem_range.mpr hk)
    refine ⟨z, ?_⟩
    unfold LawI.clsB at z
    simp only [Bool.and_eq_true, List.all_eq_true] at z
    exact z.2.2 c (List.mem_range.mpr (by omega))
  have subs2 : ∀ (k c : Nat) (b : Bool), L.subF k c = some b → PySem.W.exmOne K (.ref (L.cls K k)) (.ref (L.cls K c)) = some b ∧ PySem.W.kitOne K (.ref (L.cls K k)) (.ref (L.cls K c)) = some b := fun k c b e => by
    have z := (subs k c b e).2
    unfold LawI.subB at z
    rw [e] at z
    simpa only [Bool.and_eq_true, decide_eq_true_eq] using z
  refine ⟨fun x hx => He.free_ok X Gn (o2 x hx), fun x l e => ?_, fun x hx => ?_, fun c x e => ?_, fun k c b e => (subs2 k c b e).1, fun k c b e => (subs2 k c b e).2, fun k c b e => ?_, fun k c b e => ?_, fun f x ps e => ?_⟩
  · have hm : (x, l) ∈ L.consts := look_mem e
    have z := o3 _ hm
    unfold constB at z
    split at z
    · rename_i u hu
      exact ⟨u, PySem.W.mg_of X Gn hu, He.relB_ok z⟩
    · cases z
  · have z := o4 x hx
    unfold bltB at z
    split at z
    · rename_i b hb
      rw [of_decide_eq_true z] at hb
      exact PySem.W.mg_of X Gn hb
    · cases z
  · have e : L.classes[c]? = some x := e
    have z := o5 x (List.mem_of_getElem? e)
    obtain ⟨k1, k2, k3, k4⟩ := He.exc_ok z.2
    rw [cls_at c x e]
    exact ⟨He.glo_ok X Gn z.1, k2, ⟨k3, k4⟩, _, _, _, _, PySem.F.excBase_ValueError, k1⟩
  · have z := (subs k c b e).1
    unfold LawI.clsB at z
    simp only [Bool.and_eq_true] at z
    exact excB_ok z.1
  · have z := (subs k c b e).1
    unfold LawI.clsB at z
    simp only [Bool.and_eq_true, decide_eq_true_eq] at z
    exact z.2.1
  · have e : (L.dl.map fun q => (q.x, q.ps))[f]? = some (x, ps) := e
    rw [List.getElem?_map] at e
    obtain ⟨q, e1, e2⟩ := Option.map_eq_some_iff.mp e
    cases e2
    have hq := List.mem_of_getElem? e1
    obtain ⟨fd, F⟩ := fns q hq
    have z := c1 q hq
    unfold LawI.chkD at z
    simp only [Bool.and_eq_true] at z
    exact ⟨_, fd, q.N, q.fn, _, _, _, _, _, He.glo_ok X Gn (o1 q hq), F, (binds_of F z.2.2).1, by show (L.dl.map DefI.fn)[f]? = _; rw [List.getElem?_map, e1]; rfl, rfl, rfl, scope_of z.2.1, z.1⟩
/-- the law's def -/
theorem LawI.facts {Pr : Program} {w : World} {h : Heap} {mg : Str → Option Value} {fa : Addr} {q : DefI} {y : Str} (X : K.In h) (Gn : h.Ns mainGlobals mg) (c : L.obs p K = L.val p) (hc : L.chk p = true) (n f : Nat) (hq : L.dl[f]? = some q) (hps : q.ps = [y]) (hfa : mg q.x = some (.ref fa)) :
    ∃ fd : FuncData, (∀ (s : Shared) (v : Value), BindsTo s fd ⟨[v], []⟩ [(y, v)]) ∧ ∀ base : Heap, K.In base → base.Ns mainGlobals mg → FnOk Pr w K mg base (L2.CX Pr w) (n + 1) fa fd [y] (spF L.prog (L.cls K) K (n + 1) f 1) := by
  obtain ⟨ok, fns⟩ := LawI.says c
  have hm := List.mem_of_getElem? hq
  obtain ⟨fd, F⟩ := fns q hm
  have z : L.chkD p q = true := by
    unfold LawI.chk at hc
    simp only [Bool.and_eq_true, List.all_eq_true] at hc
    exact hc.1 q hm
  unfold LawI.chkD at z
  simp only [Bool.and_eq_true] at z
  have ea : fa = He.ga K q.x := by
    have o1 : (He.Fa.glo q.x).ok K = true := by
      unfold LawI.ok at ok
      simp only [Bool.and_eq_true, List.all_eq_true] at ok
      exact ok.1 q hm
    have := hfa.symm.trans (He.glo_ok X Gn o1)
    cases this
    rfl
  subst ea
  have T := LawI.top X Gn c hc
  obtain ⟨b1, b2⟩ := binds_of F z.2.2
  rw [hps] at b1 b2
  have hfn : L.prog.fns[f]? = some q.fn := by
    show (L.dl.map DefI.fn)[f]? = _
    rw [List.getElem?_map, hq]
    rfl
  have hs := scope_of z.2.1
  rw [hps] at hs
  refine ⟨fd, fun s v => b2 s [v] rfl, fun base _ _ => ?_⟩
  exact fn_step T (all_ok T n) F hfn rfl hs z.1
/-- a law whose text L says: the plain run is all that is wanted -/
theorem LawI.walk {l : PySem.W.OpenLaw} {m n f : Nat} {q : Program} {loose : List Str} {XP : (Str → Option Value) → Heap → Prop} {d : DefRec} {di : DefI} {x : Str}
    (hn : l.most = some m) (hn2 : m ≤ sizeLine) (hdf : d.params.defaults = []) (hr : Room (n + 1) callerA) (hd : d.name = di.x) (hq : L.dl[f]? = some di) (hps : di.ps = [x]) (hc : L.chk p = true)
    (hp : ∀ ns : List Int, ns.length ≤ m → ∀ k : Bool, ∃ h, callN L.prog (n + 1) f [.ref 0] [.ro k (ns.map .int)] = .ok (.bl true) h) :
    PySem.W.WalkO q loose XP (L.hook p 4).says l.row.toRowW d [] (fun f vs => PySem.call f vs) := by
  refine Att.attach_call hn hdf fun w s₀ s₁ mg mb fa o pm cd doc a vs ns G Y ho hd' hcd hmg hobj hints hlen hg => ?_
  obtain ⟨K, KX, c⟩ := (show ∃ K : PySem.W.Frag, K.In _ ∧ L.obs p K = L.val p from Y)
  rw [hd] at hmg
  obtain ⟨fd, hb, hF⟩ := LawI.facts (Pr := l.prog) (w := w) KX G.T.g c hc n f hq hps hmg
  refine law_call KX G.T.g G.T.b G.T.builtins G.T.nolimit hg hobj hints (Nat.le_trans hlen hn2) hr hF hb (fun H hO hS => law_sp hp H a ns hlen hO hS) fun H e s' h => ?_
  obtain ⟨_, _, _, _, _, _, _, _, _, _, _, _, z⟩ := h
  exact z
end
end PI
end
section
set_option autoImplicit false
set_option maxRecDepth 100000
/-! The core language over values without a store: lists and dicts are values, each that is changed belongs to one name (own work). -/
namespace PV
open PySem PI
open L2 (Key)
inductive Vv where
  | non | bl (b : Bool) | int (i : Int) | str (x : Str) | tup (xs : List Vv)
  | lst (xs : List Vv) | ro (xs : List Vv) | dK (kvs : List (Key × Vv)) | dT (kvs : List (List Key × Vv))
  deriving Inhabited
abbrev VE := List (Option Vv)
inductive Rv (α : Type) where
  | ok (a : α) (w : VE) | exc (c : Nat) | stuck
def bd {α β : Type} (r : Rv α) (f : α → VE → Rv β) : Rv β := match r with
  | .ok a w => f a w
  | .exc c => .exc c
  | .stuck => .stuck
def bdN {α β : Type} (r : Rv α) (f : α → VE → Rv β) : Rv β := match r with
  | .ok a w => f a w
  | .exc _ => .stuck
  | .stuck => .stuck
def op {α β : Type} (o : Option α) (f : α → Rv β) : Rv β := match o with
  | some a => f a
  | none => .stuck
def isB {α : Type} (d : Vv) (f : Bool → Rv α) : Rv α := match d with
  | .bl b => f b
  | _ => .stuck
def isI {α : Type} (d : Vv) (f : Int → Rv α) : Rv α := match d with
  | .int b => f b
  | _ => .stuck
def isT {α : Type} (d : Vv) (f : List Vv → Rv α) : Rv α := match d with
  | .tup b => f b
  | _ => .stuck
def isL {α : Type} (d : Vv) (f : List Vv → Rv α) : Rv α := match d with
  | .lst b => f b
  | _ => .stuck
/-- a guard -/
def g1 {α : Type} (c : Prop) [Decidable c] (a : α) : Option α := if c then some a else none
abbrev lm : Nat := 16777216
def Lv : Lit → Vv
  | .non => .non
  | .bl b => .bl b
  | .int i => .int i
  | .str x => .str x
/-! ### data -/
def toQ : Nat → Vv → Option PyData
  | 0, _ => none
  | _ + 1, .non => some .none
  | _ + 1, .bl b => some (.bool b)
  | _ + 1, .int i => some (.int i)
  | _ + 1, .str x => some (.str x)
  | n + 1, .tup xs => (xs.mapM (toQ n)).map .tuple
  | n + 1, .lst xs => (xs.mapM (toQ n)).map .list
  | n + 1, .ro xs => (xs.mapM (toQ n)).map .list
  | _ + 1, _ => none
def eqV (a b : Vv) : Option Bool := match toQ deep a, toQ deep b with
  | some p, some q => if SeqAt.shaped p && SeqAt.shaped q then some (PyData.eqv p q) else none
  | _, _ => none
def ltV (a b : Vv) : Option Bool := match a, b with
  | .int i, .int j => some (decide (i < j))
  | .str x, .str y => some (decide (x.cps.toList < y.cps.toList))
  | .tup _, .tup _ => (match toQ deep a, toQ deep b with
    | some p, some q => if SeqAt.shaped p && SeqAt.shaped q && PySem.W.alike p q then some (PySem.W.dataLt p q) else none
    | _, _ => none)
  | _, _ => none
def flatV : Vv → Bool
  | .non => true
  | .bl _ => true
  | .int _ => true
  | .str _ => true
  | _ => false
def eqFV : Vv → Vv → Bool
  | .non, .non => true
  | .bl a, .bl b => a == b
  | .bl a, .int b => (if a then 1 else 0) == b
  | .int a, .bl b => a == (if b then 1 else 0)
  | .int a, .int b => a == b
  | .str a, .str b => a == b
  | _, _ => false
def keyV : Vv → Option Key
  | .int i => some (.inl i)
  | .str x => some (.inr x)
  | _ => none
def keysV : List Vv → Option (List Key)
  | [] => some []
  | d :: ds => match keyV d, keysV ds with
    | some k, some ks => some (k :: ks)
    | _, _ => none
def kV (k : Key) : Vv := match k with
  | .inl i => .int i
  | .inr x => .str x
section
variable {κ : Type} [DecidableEq κ]
def getV (kvs : List (κ × Vv)) (k : κ) : Option Vv := (kvs.find? fun kv => decide (kv.1 = k)).map (·.2)
def putV (kvs : List (κ × Vv)) (k : κ) (v : Vv) : List (κ × Vv) :=
  if (kvs.any fun kv => decide (kv.1 = k)) = true then kvs.map (fun kv => if kv.1 = k then (kv.1, v) else kv) else kvs ++ [(k, v)]
end
def lookV (o k : Vv) : Option (Option Vv) := match o with
  | .dK kvs => (keyV k).map (getV kvs)
  | .dT kvs => (match k with
    | .tup ks => (keysV ks).map (getV kvs)
    | _ => none)
  | _ => none
def inV (x y : Vv) : Option Bool := match y with
  | .str z => (match x with
    | .str c => if c.length = 1 then some (decide (c.cps.getD 0 0 ∈ z.cps.toList)) else none
    | _ => none)
  | .tup ys => if flatV x && ys.all flatV then some (ys.any fun y => eqFV y x) else none
  | .lst ys => (match toQ deep x, ys.mapM (toQ (deep - 1)) with
      | some p, some qs => if SeqAt.shaped p && SeqAt.shaped (.list qs) then some (qs.any fun q => PyData.eqv q p) else none
      | _, _ => none)
  | y => (lookV y x).map (·.isSome)
def truV : Vv → Option Bool
  | .non => some false
  | .bl b => some b
  | .int i => some (i != 0)
  | .str x => g1 (x.length ≤ lm) ((x.length : Int) != 0)
  | .tup xs => some (!xs.isEmpty)
  | .lst xs => some (!xs.isEmpty)
  | .ro xs => some (!xs.isEmpty)
  | .dK kvs => some (!kvs.isEmpty)
  | .dT _ => none
def itV : Vv → Option (List Vv)
  | .tup xs => some xs
  | .lst xs => some xs
  | .ro xs => some xs
  | _ => none
/-- what a loop walks -/
def itS (v : Vv) : Option (List Vv) := match v with
  | .str x => some (x.cps.toList.map fun c => .str ⟨#[c]⟩)
  | v => itV v
/-- the items of a list -/
def itL : Vv → Option (List Vv)
  | .lst xs => some xs
  | .ro xs => some xs
  | _ => none
def isNonV : Vv → Bool
  | .non => true
  | _ => false
def isiV (d : Vv) (t : Ty) : Bool := match t, d with
  | .int, .int _ => true
  | .int, .bl _ => true
  | .bool, .bl _ => true
  | .str, .str _ => true
  | .tuple, .tup _ => true
  | _, _ => false
def intsV : List Vv → Option (List Int)
  | [] => some []
  | .int i :: ds => (intsV ds).map (i :: ·)
  | _ => none
def blsV : List Vv → Option (List Bool)
  | [] => some []
  | .bl i :: ds => (blsV ds).map (i :: ·)
  | _ => none
def binV (o : Op) (a b : Vv) : Option Vv := match o, a, b with
  | .add, .int i, .int j => some (.int (i + j))
  | .add, .str x, .str y => g1 (x.length + y.length ≤ lm) (.str (x ++ y))
  | .add, .tup xs, .tup ys => g1 (xs.length + ys.length ≤ lm) (.tup (xs ++ ys))
  | .add, .lst xs, .lst ys => g1 (xs.length + ys.length ≤ lm) (.lst (xs ++ ys))
  | .sub, .int i, .int j => some (.int (i - j))
  | .mul, .int i, .int j => g1 (mulOk i j = true) (.int (i * j))
  | .mul, .tup xs, .int k => g1 (xs.isEmpty = false ∧ 2 ≤ k ∧ k ≤ 1000 ∧ xs.length ≤ 1000) (.tup (List.replicate k.toNat xs).flatten)
  | .mul, .lst xs, .int k => g1 (k.natAbs < 2 ^ 63 ∧ xs.length * k.toNat ≤ lm) (.lst (List.replicate k.toNat xs).flatten)
  | .fdiv, .int i, .int j => g1 (0 < j ∧ j.natAbs.log2 < 9000) (.int (i / j))
  | .mod, .int i, .int j => g1 (0 < j) (.int (i % j))
  | .pow, .int i, .int j => g1 (0 ≤ j ∧ j ≤ 1000000 ∧ i.natAbs < 2 ^ 64) (.int (i ^ j.toNat))
  | .band, .int i, .int j => some (.int (Builtin.bitAnd i j))
  | .bxor, .int i, .int j => some (.int (Builtin.bitXor i j))
  | _, _, _ => none
def cmpV (o : Cp) (a b : Vv) : Option Bool := match o with
  | .eq => eqV a b
  | .ne => (eqV a b).map (!·)
  | .lt => ltV a b
  | .gt => ltV b a
  | .le => (ltV b a).map (!·)
  | .ge => (ltV a b).map (!·)
  | .isin => inV a b
  | .notin => (inV a b).map (!·)
/-- sorted of a list: data that are alike -/
def sortV (xs : List Vv) : Option (List Vv) := match xs.mapM (toQ deep) with
  | some ps => if ps.all (fun p => ps.all fun q => PySem.W.alike p q) && (ps.all (fun p => match p with | .tuple (_ :: _) => true | _ => false) || ps.all (fun p => match p with | .tuple _ => false | .none => false | _ => true)) && ps.all (fun p => decide (p.depth ≤ 60)) && decide (xs.length ≤ lm) then
      some (((xs.zip ps).mergeSort (fun a b => !PySem.W.dataLt b.2 a.2)).map (·.1)) else none
  | none => none
def b1V (b : B1) (d : Vv) : Option Vv := match b with
  | .len => (match d with
    | .str x => g1 (x.length ≤ lm) (.int x.length)
    | .tup xs => some (.int xs.length)
    | .lst xs => some (.int xs.length)
    | .ro xs => some (.int xs.length)
    | .dK kvs => some (.int kvs.length)
    | _ => none)
  | .int => (match d with
    | .int i => some (.int i)
    | .bl k => some (.int (if k then 1 else 0))
    | _ => none)
  | .abs => (match d with
    | .int i => some (.int (if i < 0 then -i else i))
    | _ => none)
  | .bool => (match d with
    | .bl k => some (.bl k)
    | .int i => some (.bl (i != 0))
    | _ => none)
  | .str => (match d with
    | .int i => g1 (i.natAbs.log2 < 1920) (.str (toString i))
    | _ => none)
  | .sum => ((itL d).bind intsV).map fun ns => .int ns.sum
  | .max => (((itL d).bind intsV).bind maxL).map .int
  | .min => (((itL d).bind intsV).bind minL).map .int
  | .sorted => (match d with
    | .lst xs => (sortV xs).bind fun ys => g1 (ys.length ≤ lm) (.lst ys)
    | .tup xs => (sortV xs).bind fun ys => g1 (ys.length ≤ lm) (.lst ys)
    | _ => none)
  | .tuple => (match d with
    | .tup xs => some (.tup xs)
    | .lst xs => g1 (xs.length ≤ lm) (.tup xs)
    | .ro xs => g1 (xs.length ≤ lm) (.tup xs)
    | _ => none)
  | .list => (itV d).bind fun xs => g1 (xs.length ≤ lm) (.lst xs)
  | .all => (match d with
    | .lst xs => (blsV xs).map fun bs => .bl (bs.all id)
    | _ => none)
def b2V (b : B2) (a c : Vv) : Option Vv := match a, c with
  | .int i, .int j => (match b with
    | .max => some (.int (if j > i then j else i))
    | .min => some (.int (if j < i then j else i))
    | .gcd => some (.int ((Nat.gcd i.natAbs j.natAbs : Nat) : Int)))
  | _, _ => none
def ixV (a i : Vv) : Option Vv := match a with
  | .str z => (match i with
    | .int k => (L2.atI z.cps.toList k).bind fun c => g1 (z.length ≤ lm) (.str ⟨#[c]⟩)
    | _ => none)
  | .tup xs => (match i with
    | .int k => L2.atI xs k
    | _ => none)
  | .lst xs => (match i with
    | .int k => L2.atI xs k
    | _ => none)
  | .ro xs => (match i with
    | .int k => L2.atI xs k
    | _ => none)
  | a => (lookV a i).bind id
def slV (a : Vv) (lo hi : Option Int) : Option Vv := match a with
  | .str z => g1 (z.length ≤ lm) (.str ⟨(cutL z.cps.toList lo hi).toArray⟩)
  | .tup xs => some (.tup (cutL xs lo hi))
  | .lst xs => g1 ((cutL xs lo hi).length ≤ lm) (.lst (cutL xs lo hi))
  | .ro xs => g1 ((cutL xs lo hi).length ≤ lm) (.lst (cutL xs lo hi))
  | _ => none
def setV (o i v : Vv) : Option Vv := match o with
  | .lst xs => (match i with
    | .int k => (L2.ixN xs.length k).map fun j => .lst (xs.set j v)
    | _ => none)
  | .dK kvs => (match keyV i with
    | some k => g1 (kvs.length < lm) (.dK (putV kvs k v))
    | none => none)
  | .dT kvs => (match i with
    | .tup ks => (match keysV ks with
      | some k => g1 (kvs.length < lm) (.dT (putV kvs k v))
      | none => none)
    | _ => none)
  | _ => none
def idxFV (xs : List Vv) (d : Vv) : Option Nat := if flatV d && xs.all flatV then xs.findIdx? (fun y => eqFV y d) else none
def isDicV : Vv → Bool
  | .dK _ => true
  | .dT _ => true
  | _ => false
/-! ### the interpreter -/
inductive Fv where
  | nx | rt (v : Vv) | bk | ct
def zipV (xs ys : List Vv) : List Vv := (xs.zip ys).map fun p => .tup [p.1, p.2]
def enumV (xs : List Vv) : List Vv := (List.range xs.length |>.zip xs).map fun p => .tup [.int p.1, p.2]
def rngV (lo : Int) (n : Nat) : List Vv := (List.range n).map fun k => .int (lo + (k : Nat))
def onF (f : Fv) (w : VE) (k : VE → Rv Fv) : Rv Fv := match f with
  | .nx => k w
  | f => .ok f w
def onL (f : Fv) (w : VE) (k : VE → Rv Fv) : Rv Fv := match f with
  | .nx => k w
  | .ct => k w
  | .bk => .ok .nx w
  | .rt d => .ok (.rt d) w
def loopF (tn : Vv → VE → Rv Fv) : List Vv → VE → Rv Fv
  | [], w => .ok .nx w
  | x :: xs, w => bd (tn x w) fun f w' => onL f w' fun w' => loopF tn xs w'
def loopA (tn : Vv → VE → Rv (Option Vv)) : List Vv → List Vv → VE → Rv (List Vv)
  | [], acc, w => .ok acc w
  | x :: xs, acc, w => bdN (tn x w) fun o w' => match o with
    | none => loopA tn xs acc w'
    | some y => op (g1 (acc.length < lm) ()) fun _ => loopA tn xs (acc ++ [y]) w'
def loopD (tn : Vv → VE → Rv (Vv × Vv)) : List Vv → List (Key × Vv) → VE → Rv (List (Key × Vv))
  | [], acc, w => .ok acc w
  | x :: xs, acc, w => bdN (tn x w) fun o w' => op (keyV o.1) fun k => op (g1 (acc.length < lm) ()) fun _ => loopD tn xs (putV acc k o.2) w'
def whileF (c : VE → Rv Bool) (body : VE → Rv Fv) : Nat → VE → Rv Fv
  | 0, _ => .stuck
  | k + 1, w => bd (c w) fun b w' => cond b (bd (body w') fun f w2 => onL f w2 fun w' => whileF c body k w') (.ok .nx w')
def wipeW (w : VE) : List Nat → VE
  | [] => w
  | i :: is => (wipeW w is).set i none
/-- the slots as they were -/
def backW (w0 w : VE) : List Nat → VE
  | [] => w
  | i :: is => (backW w0 w is).set i ((w0[i]?).bind id)
def slotOf : CE → Option Nat
  | .var i => some i
  | _ => none
def getW (w : VE) (i : Nat) : Option Vv := (w[i]?).bind id
def lstW (w : VE) (i : Nat) : Option (List Vv) := match getW w i with
  | some (.lst xs) => some xs
  | _ => none
def wbs : CEs → VE → VE → VE
  | .cons e es, o :: os, w => wbs es os (match o, slotOf e with
    | some v, some j => w.set j (some v)
    | _, _ => w)
  | _, _, w => w
/-- what a call leaves in the names that it was given -/
def back (es : CEs) (w : VE) (r : Rv Vv) : Rv Vv := match r with
  | .ok v os => .ok v (wbs es os w)
  | .exc c => .exc c
  | .stuck => .stuck
abbrev FnsV := Nat → List Vv → Rv Vv
def SBv (sub : Subs) (c : Nat) : SB → Option Vv
  | .lit l => some (Lv l)
  | s => (s.ev sub c).map .bl
section
variable (F : FnsV)
mutual
def vE : CE → VE → Rv Vv
  | .var i, w => op (getW w i) fun d => .ok d w
  | .lit l, w => .ok (Lv l) w
  | .glob _ l, w => .ok (Lv l) w
  | .tup es, w => bd (vEs es w) fun vs w => .ok (.tup vs) w
  | .lst es, w => bd (vEs es w) fun vs w => .ok (.lst vs) w
  | .dnK, w => .ok (.dK []) w
  | .dnT, w => .ok (.dT []) w
  | .call f es, w => bd (vEs es w) fun vs w => back es w (F f vs)
  | .b1 b a, w => bd (vE a w) fun d w => op (b1V b d) fun d => .ok d w
  | .b2 b a c, w => bd (vE a w) fun x w => bd (vE c w) fun y w => op (b2V b x y) fun d => .ok d w
  | .isi a t, w => bd (vE a w) fun d w => .ok (.bl (isiV d t)) w
  | .bin o a b, w => bd (vE a w) fun x w => bd (vE b w) fun y w => op (binV o x y) fun d => .ok d w
  | .neg a, w => bd (vE a w) fun d w => isI d fun i => .ok (.int (-i)) w
  | .cmp o a b, w => bd (vE a w) fun x w => bd (vE b w) fun y w => op (cmpV o x y) fun k => .ok (.bl k) w
  | .chain o o' a b c, w => bd (vE a w) fun x w => bd (vE b w) fun y w => op (cmpV o x y) fun k => cond k (bd (vE c w) fun z w => op (cmpV o' y z) fun k => .ok (.bl k) w) (.ok (.bl false) w)
  | .isN a, w => bd (vE a w) fun d w => .ok (.bl (isNonV d)) w
  | .notN a, w => bd (vE a w) fun d w => .ok (.bl (!isNonV d)) w
  | .isB k a, w => bd (vE a w) fun d w => isB d fun b => .ok (.bl (decide (b = k))) w
  | .notB k a, w => bd (vE a w) fun d w => isB d fun b => .ok (.bl (!decide (b = k))) w
  | .and_ a b, w => bd (vE a w) fun d w => isB d fun k => cond k (vE b w) (.ok (.bl false) w)
  | .or_ a b, w => bd (vE a w) fun d w => isB d fun k => cond k (.ok (.bl true) w) (vE b w)
  | .not_ a, w => bd (vE a w) fun d w => op (truV d) fun k => .ok (.bl (!k)) w
  | .ix a i, w => bd (vE a w) fun x w => bd (vE i w) fun y w => op (ixV x y) fun d => .ok d w
  | .sl a lo hi, w => bd (vE a w) fun x w => bd (vO lo w) fun l w => bd (vO hi w) fun u w => op (slV x l u) fun d => .ok d w
  | .rvs a, w => bd (vE a w) fun d w => isT d fun xs => .ok (.tup xs.reverse) w
  | .lc g it c e, w => bd (vI it w) fun s w => bd (loopA (fun x w => bd (aG g x (wipeW w (slotsG g))) fun _ w => match c with
      | .none => bd (vE e w) fun y w => .ok (some y) w
      | .some c => bd (vE c w) fun d w => op (truV d) fun k => cond k (bd (vE e w) fun y w => .ok (some y) w) (.ok none w)) s [] w) fun ys w' => .ok (.lst ys) (backW w w' (slotsG g))
  | .dc g it k v, w => bd (vI it w) fun s w => bd (loopD (fun x w => bd (aG g x (wipeW w (slotsG g))) fun _ w =>
      bd (vE k w) fun y w => bd (vE v w) fun z w => .ok (y, z) w) s [] w) fun ys w' => .ok (.dK ys) (backW w w' (slotsG g))
  | .app o e, w => op (slotOf o) fun i => op (lstW w i) fun _ => bd (vE e w) fun y w => op (lstW w i) fun xs => op (g1 (xs.length < lm) ()) fun _ => .ok .non (w.set i (some (.lst (xs ++ [y]))))
  | .ext o e, w => op (slotOf o) fun i => op (lstW w i) fun _ => bd (vE e w) fun y w => op (lstW w i) fun xs => isL y fun ys => op (g1 (xs.length + ys.length ≤ lm) ()) fun _ => .ok .non (w.set i (some (.lst (xs ++ ys))))
  | .pop o, w => op (slotOf o) fun i => op (lstW w i) fun xs => op (xs[xs.length - 1]?) fun y => .ok y (w.set i (some (.lst xs.dropLast)))
  | .idx o e, w => bd (vE o w) fun x w => op (itL x) fun xs => bd (vE e w) fun y w => op (idxFV xs y) fun j => .ok (.int (j : Nat)) w
  | .idxT _ _, _ => .stuck
  | .get2 o k d, w => bd (vE o w) fun x w => op (g1 (isDicV x = true) ()) fun _ => bd (vE k w) fun y w => bd (vE d w) fun z w => op (lookV x y) fun q => .ok (q.getD z) w
  | .lrg e, w => bd (vE e w) fun d w => isI d fun j => op (g1 (j.natAbs ≤ lm) ()) fun _ => .ok (.lst (rngV 0 j.toNat)) w
def vO : CO → VE → Rv (Option Int)
  | .none, w => .ok none w
  | .some e, w => bd (vE e w) fun d w => isI d fun i => .ok (some i) w
def vEs : CEs → VE → Rv (List Vv)
  | .nil, w => .ok [] w
  | .cons e es, w => bd (vE e w) fun d w => bd (vEs es w) fun ds w => .ok (d :: ds) w
def vI : CI → VE → Rv (List Vv)
  | .seq e, w => bd (vE e w) fun d w => op (itS d) fun xs => .ok xs w
  | .rng1 e, w => bd (vE e w) fun d w => isI d fun j => op (g1 (isr j = true) ()) fun _ => .ok (rngV 0 j.toNat) w
  | .rng2 a b, w => bd (vE a w) fun x w => bd (vE b w) fun y w => isI x fun i => isI y fun j => op (g1 (isr i = true ∧ isr j = true) ()) fun _ => .ok (rngV i (j - i).toNat) w
  | .enum e, w => bd (vE e w) fun d w => op (itV d) fun xs => .ok (enumV xs) w
  | .zip a b, w => bd (vE a w) fun x w => bd (vE b w) fun y w => (match x, y with
    | .tup xs, .tup ys => .ok (zipV xs ys) w
    | .tup _, _ => .stuck
    | _, .tup _ => .stuck
    | x, y => op (itL x) fun xs => op (itL y) fun ys => .ok (zipV xs ys) w)
  | .rev e, w => bd (vE e w) fun d w => op (itV d) fun xs => .ok xs.reverse w
  | .revrng e, w => bd (vE e w) fun d w => isI d fun j => op (g1 (isr j = true) ()) fun _ => .ok (rngV 0 j.toNat).reverse w
  | .keys _, _ => .stuck
def aG : TG → Vv → VE → Rv Unit
  | .name i, d, w => .ok () (w.set i (some d))
  | .tup ts, d, w => isT d fun xs => op (g1 (xs.length = lenGs ts) ()) fun _ => aGs ts xs w
  | .sub o i, d, w => op (slotOf o) fun s => op (getW w s) fun _ => bd (vE i w) fun y w => op (getW w s) fun x => op (setV x y d) fun x => .ok () (w.set s (some x))
def aGs : TGs → List Vv → VE → Rv Unit
  | .nil, ds, w => (match ds with
    | [] => .ok () w
    | _ => .stuck)
  | .cons t ts, ds, w => (match ds with
    | d :: ds => bd (aG t d w) fun _ w => aGs ts ds w
    | [] => .stuck)
end
variable (sub : Subs)
mutual
def vS : CS → VE → Rv Fv
  | .expr e, w => bd (vE F e w) fun _ w => .ok .nx w
  | .asg t e, w => bd (vE F e w) fun d w => bd (aG F t d w) fun _ w => .ok .nx w
  | .ret e, w => bd (vE F e w) fun d w => .ok (.rt d) w
  | .retN, w => .ok (.rt .non) w
  | .if_ c a b, w => bd (vE F c w) fun d w => op (truV d) fun k => cond k (vSs a w) (vSs b w)
  | .for_ t it body, w => bd (vI F it w) fun s w => loopF (fun x w => bd (aG F t x w) fun _ w => vSs body w) s w
  | .while_ c body, w => whileF (fun w => bd (vE F c w) fun d w => op (truV d) fun k => .ok k w) (fun w => vSs body w) turns w
  | .raise c, _ => .exc c
  | .try_ body c s, w => match vSs body w with
    | .ok f w => .ok f w
    | .exc k => op (sub k c) fun b => (match b with
      | true => op (SBv sub k s) fun d => .ok (.rt d) []
      | false => .exc k)
    | .stuck => .stuck
  | .pass, w => .ok .nx w
  | .brk, w => .ok .bk w
  | .cnt, w => .ok .ct w
def vSs : CSs → VE → Rv Fv
  | .nil, w => .ok .nx w
  | .cons s ss, w => bd (vS s w) fun f w => onF f w fun w => vSs ss w
end
end
/-- what the owner of a def's names must know: parameters that it changes, those that it lets not escape, its own changed names; is what it returns new -/
structure An where
  io : List Nat
  ne : List Nat
  mu : List Nat
  fr : Bool
structure FnV where
  fn : Fn
  an : An
structure PrV where
  fns : List FnV
  sub : Subs
def startV (n : Nat) (ds : List Vv) : VE := ds.map some ++ List.replicate (n - ds.length) none
def outsAt (io : List Nat) : Nat → VE → VE
  | _, [] => []
  | k, o :: os => (if io.contains k then o else none) :: outsAt io (k + 1) os
def outs (io : List Nat) (p : Nat) (w : VE) : VE := if io.isEmpty then [] else outsAt io 0 (w.take p)
def fin (io : List Nat) (p : Nat) (fr : Bool) (r : Rv Fv) : Rv Vv := match r with
  | .ok f w => (match f with
    | .nx => cond fr .stuck (.ok .non (outs io p w))
    | .rt v => .ok v (outs io p w)
    | _ => .stuck)
  | .exc c => cond io.isEmpty (.exc c) .stuck
  | .stuck => .stuck
def callV (P : PrV) : Nat → FnsV
  | 0, _, _ => .stuck
  | k + 1, f, ds => match P.fns[f]? with
    | none => .stuck
    | some fn => op (g1 (ds.length = fn.fn.pars) ()) fun _ => fin fn.an.io fn.fn.pars fn.an.fr (vSs (callV P k) P.sub fn.fn.body (startV fn.fn.names ds))
end PV
end
section
set_option autoImplicit false
set_option maxRecDepth 100000
/-! Values and the store's data: one says the other (own work). -/
namespace PV
open PySem PI
open L2 (Key)
theorem lm_eq : PI.lim = lm := PySem.sizeLine_eq
/-! ### lists side by side -/
section
variable {α β γ δ : Type} {R : α → β → Prop} {S : γ → δ → Prop} {xs : List α} {ys : List β}
def A2 (R : α → β → Prop) (xs : List α) (ys : List β) : Prop := xs.length = ys.length ∧ ∀ (i : Nat) (x : α) (y : β), xs[i]? = some x → ys[i]? = some y → R x y
theorem A2.nil : A2 R [] [] := ⟨rfl, fun i x y e => by simp at e⟩
theorem A2.cons {x : α} {y : β} (r : R x y) (h : A2 R xs ys) : A2 R (x :: xs) (y :: ys) := ⟨by simp [h.1], fun i a b e1 e2 => by
  cases i with
  | zero => simp at e1 e2; subst e1; subst e2; exact r
  | succ i => simp at e1 e2; exact h.2 i a b e1 e2⟩
theorem A2.head {x : α} {y : β} (h : A2 R (x :: xs) (y :: ys)) : R x y := h.2 0 x y rfl rfl
theorem A2.tail {x : α} {y : β} (h : A2 R (x :: xs) (y :: ys)) : A2 R xs ys := ⟨by have := h.1; simpa using this, fun i a b e1 e2 => h.2 (i + 1) a b (by simpa using e1) (by simpa using e2)⟩
theorem A2.ind {P : List α → List β → Prop} (h0 : P [] []) (h1 : ∀ x y xs ys, R x y → A2 R xs ys → P xs ys → P (x :: xs) (y :: ys)) : ∀ {xs : List α} {ys : List β}, A2 R xs ys → P xs ys
  | [], [], _ => h0
  | [], _ :: _, h => by have := h.1; simp at this
  | _ :: _, [], h => by have := h.1; simp at this
  | x :: xs, y :: ys, h => h1 x y xs ys h.head h.tail (A2.ind h0 h1 h.tail)
theorem A2.imp {S : α → β → Prop} (h : A2 R xs ys) (f : ∀ x y, R x y → S x y) : A2 S xs ys := ⟨h.1, fun i x y e1 e2 => f x y (h.2 i x y e1 e2)⟩
theorem A2.get (h : A2 R xs ys) {i : Nat} {y : β} (e : ys[i]? = some y) : ∃ x, xs[i]? = some x ∧ R x y := by
  have hi := (List.getElem?_eq_some_iff.mp e).1
  have hi' : i < xs.length := by rw [h.1]; exact hi
  exact ⟨xs[i], List.getElem?_eq_getElem hi', h.2 i _ _ (List.getElem?_eq_getElem hi') e⟩
theorem A2.get' (h : A2 R xs ys) {i : Nat} {x : α} (e : xs[i]? = some x) : ∃ y, ys[i]? = some y ∧ R x y := by
  have hi := (List.getElem?_eq_some_iff.mp e).1
  have hi' : i < ys.length := by rw [← h.1]; exact hi
  exact ⟨ys[i], List.getElem?_eq_getElem hi', h.2 i _ _ e (List.getElem?_eq_getElem hi')⟩
theorem A2.none (h : A2 R xs ys) {i : Nat} (e : ys[i]? = none) : xs[i]? = none := by
  rw [List.getElem?_eq_none_iff] at e ⊢
  rw [h.1]; exact e
theorem A2.append {xs' : List α} {ys' : List β} (h : A2 R xs ys) (k : A2 R xs' ys') : A2 R (xs ++ xs') (ys ++ ys') := by
  refine A2.ind (P := fun xs ys => A2 R (xs ++ xs') (ys ++ ys')) k (fun x y xs ys r _ ih => ?_) h
  exact ih.cons r
theorem A2.take (h : A2 R xs ys) (n : Nat) : A2 R (xs.take n) (ys.take n) := ⟨by rw [List.length_take, List.length_take, h.1], fun i x y e1 e2 => by
  rw [List.getElem?_take] at e1 e2
  split at e1
  · rename_i q; rw [if_pos q] at e2; exact h.2 i x y e1 e2
  · cases e1⟩
theorem A2.drop (h : A2 R xs ys) (n : Nat) : A2 R (xs.drop n) (ys.drop n) := ⟨by rw [List.length_drop, List.length_drop, h.1], fun i x y e1 e2 => by
  rw [List.getElem?_drop] at e1 e2
  exact h.2 _ x y e1 e2⟩
theorem A2.dropLast (h : A2 R xs ys) : A2 R xs.dropLast ys.dropLast := by
  rw [List.dropLast_eq_take, List.dropLast_eq_take, ← h.1]
  exact h.take _
theorem A2.set (h : A2 R xs ys) (i : Nat) {x : α} {y : β} (r : R x y) : A2 R (xs.set i x) (ys.set i y) := ⟨by simp [h.1], fun j a b e1 e2 => by
  rw [List.getElem?_set] at e1 e2
  by_cases q : i = j
  · subst q
    simp only [if_true, if_pos trivial] at e1 e2
    split at e1
    · split at e2
      · cases e1; cases e2; exact r
      · cases e2
    · cases e1
  · rw [if_neg q] at e1 e2; exact h.2 j a b e1 e2⟩
theorem A2.reverse (h : A2 R xs ys) : A2 R xs.reverse ys.reverse := by
  refine A2.ind (P := fun xs ys => A2 R xs.reverse ys.reverse) .nil (fun x y xs ys r _ ih => ?_) h
  rw [List.reverse_cons, List.reverse_cons]
  exact ih.append (A2.nil.cons r)
theorem A2.rep (h : A2 R xs ys) : ∀ k : Nat, A2 R (List.replicate k xs).flatten (List.replicate k ys).flatten
  | 0 => .nil
  | k + 1 => by
    rw [List.replicate_succ, List.replicate_succ, List.flatten_cons, List.flatten_cons]
    exact h.append (A2.rep h k)
theorem A2.mapM {ρ : Type} {f : α → Option ρ} {g : β → Option ρ} (h : A2 R xs ys) (e : ∀ x y, R x y → f x = g y) : xs.mapM f = ys.mapM g := by
  refine A2.ind (P := fun xs ys => xs.mapM f = ys.mapM g) rfl (fun x y xs ys r _ ih => ?_) h
  rw [List.mapM_cons, List.mapM_cons, e x y r, ih]
theorem A2.all {f : α → Bool} {g : β → Bool} (h : A2 R xs ys) (e : ∀ x y, R x y → f x = g y) : xs.all f = ys.all g := by
  refine A2.ind (P := fun xs ys => xs.all f = ys.all g) rfl (fun x y xs ys r _ ih => ?_) h
  rw [List.all_cons, List.all_cons, e x y r, ih]
theorem A2.any {f : α → Bool} {g : β → Bool} (h : A2 R xs ys) (e : ∀ x y, R x y → f x = g y) : xs.any f = ys.any g := by
  refine A2.ind (P := fun xs ys => xs.any f = ys.any g) rfl (fun x y xs ys r _ ih => ?_) h
  rw [List.any_cons, List.any_cons, e x y r, ih]
theorem A2.map {f : α → γ} {g : β → δ} (h : A2 R xs ys) (e : ∀ x y, R x y → S (f x) (g y)) : A2 S (xs.map f) (ys.map g) := by
  refine A2.ind (P := fun xs ys => A2 S (xs.map f) (ys.map g)) .nil (fun x y xs ys r _ ih => ?_) h
  exact ih.cons (e x y r)
theorem A2.zip {xs' : List γ} {ys' : List δ} (h : A2 R xs ys) (k : A2 S xs' ys') : A2 (fun (p : α × γ) (q : β × δ) => R p.1 q.1 ∧ S p.2 q.2) (xs.zip xs') (ys.zip ys') := ⟨by rw [List.length_zip, List.length_zip, h.1, k.1], fun i p q e1 e2 => by
  rw [List.getElem?_zip_eq_some] at e1 e2
  exact ⟨h.2 i _ _ e1.1 e2.1, k.2 i _ _ e1.2 e2.2⟩⟩
theorem A2.len (h : A2 R xs ys) : xs.length = ys.length := h.1
theorem A2.isEmpty (h : A2 R xs ys) : xs.isEmpty = ys.isEmpty := by
  cases xs <;> cases ys <;> first | rfl | (have := h.1; simp at this)
theorem A2.same {ρ : Type} (zs : List ρ) {f : ρ → α} {g : ρ → β} (e : ∀ z, R (f z) (g z)) : A2 R (zs.map f) (zs.map g) := by
  induction zs with
  | nil => exact .nil
  | cons z zs ih => exact ih.cons (e z)
theorem A2.cutL (h : A2 R xs ys) (lo hi : Option Int) : A2 R (cutL xs lo hi) (cutL ys lo hi) := by
  unfold PI.cutL
  rw [← h.1]
  exact (h.drop _).take _
theorem A2.atI (h : A2 R xs ys) {k : Int} {y : β} (e : L2.atI ys k = some y) : ∃ x, L2.atI xs k = some x ∧ R x y := by
  unfold L2.atI at e ⊢
  rw [h.1]
  obtain ⟨j, e1, e2⟩ := Option.bind_eq_some_iff.mp e
  obtain ⟨x, e3, r⟩ := h.get e2
  exact ⟨x, by rw [e1]; exact e3, r⟩
theorem A2.find {p : α → Bool} {q : β → Bool} (h : A2 R xs ys) (e : ∀ x y, R x y → p x = q y) : (match ys.find? q with | some y => ∃ x, xs.find? p = some x ∧ R x y | none => xs.find? p = .none) := by
  refine A2.ind (P := fun xs ys => (match ys.find? q with | some y => ∃ x, xs.find? p = some x ∧ R x y | none => xs.find? p = .none)) rfl (fun x y xs ys r _ ih => ?_) h
  rw [List.find?_cons, List.find?_cons, e x y r]
  cases q y with
  | true => exact ⟨x, rfl, r⟩
  | false => exact ih
theorem A2.findIdx {p : α → Bool} {q : β → Bool} (h : A2 R xs ys) (e : ∀ x y, R x y → p x = q y) : xs.findIdx? p = ys.findIdx? q := by
  refine A2.ind (P := fun xs ys => xs.findIdx? p = ys.findIdx? q) rfl (fun x y xs ys r _ ih => ?_) h
  rw [List.findIdx?_cons, List.findIdx?_cons, e x y r, ih]
end
/-! ### data -/
def KR {κ : Type} (R : D → Vv → Prop) (x : κ × D) (y : κ × Vv) : Prop := x.1 = y.1 ∧ R x.2 y.2
/-- the datum d, read in the store without the objects of N, is v -/
inductive Rd (h : VH) (N : Nat → Prop) : D → Vv → Prop where
  | non : Rd h N .non .non
  | bl (b : Bool) : Rd h N (.bl b) (.bl b)
  | int (i : Int) : Rd h N (.int i) (.int i)
  | str (x : Str) : Rd h N (.str x) (.str x)
  | tup {ds : List D} {vs : List Vv} (l : ds.length = vs.length) (r : ∀ (i : Nat) d v, ds[i]? = some d → vs[i]? = some v → Rd h N d v) : Rd h N (.tup ds) (.tup vs)
  | lst {n : Nat} {ds : List D} {vs : List Vv} (a : ¬ N n) (e : h[n]? = some (.lst ds)) (l : ds.length = vs.length) (r : ∀ (i : Nat) d v, ds[i]? = some d → vs[i]? = some v → Rd h N d v) : Rd h N (.ref n) (.lst vs)
  | ro {n : Nat} {k : Bool} {ds : List D} {vs : List Vv} (a : ¬ N n) (e : h[n]? = some (.ro k ds)) (l : ds.length = vs.length) (r : ∀ (i : Nat) d v, ds[i]? = some d → vs[i]? = some v → Rd h N d v) : Rd h N (.ref n) (.ro vs)
  | dK {n : Nat} {ds : List (Key × D)} {vs : List (Key × Vv)} (a : ¬ N n) (e : h[n]? = some (.dK false ds)) (l : ds.length = vs.length) (k : ∀ (i : Nat) d v, ds[i]? = some d → vs[i]? = some v → d.1 = v.1) (r : ∀ (i : Nat) d v, ds[i]? = some d → vs[i]? = some v → Rd h N d.2 v.2) : Rd h N (.ref n) (.dK vs)
  | dT {n : Nat} {ds : List (List Key × D)} {vs : List (List Key × Vv)} (a : ¬ N n) (e : h[n]? = some (.dT false ds)) (l : ds.length = vs.length) (k : ∀ (i : Nat) d v, ds[i]? = some d → vs[i]? = some v → d.1 = v.1) (r : ∀ (i : Nat) d v, ds[i]? = some d → vs[i]? = some v → Rd h N d.2 v.2) : Rd h N (.ref n) (.dT vs)
/-- the same; the object itself may be one of N -/
inductive Sl (h : VH) (N : Nat → Prop) : D → Vv → Prop where
  | non : Sl h N .non .non
  | bl (b : Bool) : Sl h N (.bl b) (.bl b)
  | int (i : Int) : Sl h N (.int i) (.int i)
  | str (x : Str) : Sl h N (.str x) (.str x)
  | tup {ds : List D} {vs : List Vv} (r : A2 (Rd h N) ds vs) : Sl h N (.tup ds) (.tup vs)
  | lst {n : Nat} {ds : List D} {vs : List Vv} (e : h[n]? = some (.lst ds)) (r : A2 (Rd h N) ds vs) : Sl h N (.ref n) (.lst vs)
  | ro {n : Nat} {k : Bool} {ds : List D} {vs : List Vv} (e : h[n]? = some (.ro k ds)) (r : A2 (Rd h N) ds vs) : Sl h N (.ref n) (.ro vs)
  | dK {n : Nat} {ds : List (Key × D)} {vs : List (Key × Vv)} (e : h[n]? = some (.dK false ds)) (r : A2 (KR (Rd h N)) ds vs) : Sl h N (.ref n) (.dK vs)
  | dT {n : Nat} {ds : List (List Key × D)} {vs : List (List Key × Vv)} (e : h[n]? = some (.dT false ds)) (r : A2 (KR (Rd h N)) ds vs) : Sl h N (.ref n) (.dT vs)
def RdO (R : D → Vv → Prop) : VO → Vv → Prop
  | .lst ds, .lst vs => A2 R ds vs
  | .dK false ds, .dK vs => A2 (KR R) ds vs
  | .dT false ds, .dT vs => A2 (KR R) ds vs
  | _, _ => False
section
variable {h h' : VH} {N N' : Nat → Prop} {d : D} {v : Vv}
theorem Rd.tups {ds : List D} {vs : List Vv} (r : A2 (Rd h N) ds vs) : Rd h N (.tup ds) (.tup vs) := .tup r.1 r.2
theorem Rd.sl (r : Rd h N d v) : Sl h N d v := by
  cases r with
  | non => exact .non
  | bl b => exact .bl b
  | int i => exact .int i
  | str x => exact .str x
  | tup l r => exact .tup ⟨l, r⟩
  | lst a e l r => exact .lst e ⟨l, r⟩
  | ro a e l r => exact .ro e ⟨l, r⟩
  | dK a e l k r => exact .dK e ⟨l, fun i x y e1 e2 => ⟨k i x y e1 e2, r i x y e1 e2⟩⟩
  | dT a e l k r => exact .dT e ⟨l, fun i x y e1 e2 => ⟨k i x y e1 e2, r i x y e1 e2⟩⟩
theorem Rd.not {n : Nat} (r : Rd h N (.ref n) v) : ¬ N n := by cases r <;> assumption
theorem Sl.rd (s : Sl h N d v) (a : ∀ n, d = .ref n → ¬ N n) : Rd h N d v := by
  cases s with
  | non => exact .non
  | bl b => exact .bl b
  | int i => exact .int i
  | str x => exact .str x
  | tup r => exact .tup r.1 r.2
  | lst e r => exact .lst (a _ rfl) e r.1 r.2
  | ro e r => exact .ro (a _ rfl) e r.1 r.2
  | dK e r => exact .dK (a _ rfl) e r.1 (fun i x y e1 e2 => (r.2 i x y e1 e2).1) (fun i x y e1 e2 => (r.2 i x y e1 e2).2)
  | dT e r => exact .dT (a _ rfl) e r.1 (fun i x y e1 e2 => (r.2 i x y e1 e2).1) (fun i x y e1 e2 => (r.2 i x y e1 e2).2)
theorem Sl.ob {n : Nat} {o : VO} (e : h[n]? = some o) (r : RdO (Rd h N) o v) : Sl h N (.ref n) v := by
  unfold RdO at r
  split at r
  · exact .lst e r
  · exact .dK e r
  · exact .dT e r
  · exact r.elim
theorem Rd.keep (k : ∀ n, ¬ N n → n < h.length → h'[n]? = h[n]?) (r : Rd h N d v) : Rd h' N d v := by
  have up : ∀ {n : Nat} {o : VO}, ¬ N n → h[n]? = some o → h'[n]? = some o := fun {n} {o} a e => (k n a (List.getElem?_eq_some_iff.mp e).1).trans e
  induction r with
  | non => exact .non
  | bl b => exact .bl b
  | int i => exact .int i
  | str x => exact .str x
  | tup l r ih => exact .tup l ih
  | lst a e l r ih => exact .lst a (up a e) l ih
  | ro a e l r ih => exact .ro a (up a e) l ih
  | dK a e l k' r ih => exact .dK a (up a e) l k' ih
  | dT a e l k' r ih => exact .dT a (up a e) l k' ih
theorem Rd.anti (s : ∀ n, N n → N' n) (r : Rd h N' d v) : Rd h N d v := by
  induction r with
  | non => exact .non
  | bl b => exact .bl b
  | int i => exact .int i
  | str x => exact .str x
  | tup l r ih => exact .tup l ih
  | lst a e l r ih => exact .lst (fun z => a (s _ z)) e l ih
  | ro a e l r ih => exact .ro (fun z => a (s _ z)) e l ih
  | dK a e l k' r ih => exact .dK (fun z => a (s _ z)) e l k' ih
  | dT a e l k' r ih => exact .dT (fun z => a (s _ z)) e l k' ih
/-- what is read stands in the store -/
theorem Rd.old (s : ∀ n, N' n → N n ∨ h.length ≤ n) (r : Rd h N d v) : Rd h N' d v := by
  have up : ∀ {n : Nat} {o : VO}, ¬ N n → h[n]? = some o → ¬ N' n := fun {n} {o} a e z => (s n z).elim a fun z => absurd (List.getElem?_eq_some_iff.mp e).1 (by omega)
  induction r with
  | non => exact .non
  | bl b => exact .bl b
  | int i => exact .int i
  | str x => exact .str x
  | tup l r ih => exact .tup l ih
  | lst a e l r ih => exact .lst (up a e) e l ih
  | ro a e l r ih => exact .ro (up a e) e l ih
  | dK a e l k' r ih => exact .dK (up a e) e l k' ih
  | dT a e l k' r ih => exact .dT (up a e) e l k' ih
theorem KR.imp {κ : Type} {R S : D → Vv → Prop} (f : ∀ d v, R d v → S d v) (x : κ × D) (y : κ × Vv) (r : KR R x y) : KR S x y := ⟨r.1, f _ _ r.2⟩
theorem Sl.to (f : ∀ d v, Rd h N d v → Rd h' N' d v) (k : ∀ n o, d = .ref n → h[n]? = some o → h'[n]? = some o) (s : Sl h N d v) : Sl h' N' d v := by
  cases s with
  | non => exact .non
  | bl b => exact .bl b
  | int i => exact .int i
  | str x => exact .str x
  | tup r => exact .tup (r.imp f)
  | lst e r => exact .lst (k _ _ rfl e) (r.imp f)
  | ro e r => exact .ro (k _ _ rfl e) (r.imp f)
  | dK e r => exact .dK (k _ _ rfl e) (r.imp (KR.imp f))
  | dT e r => exact .dT (k _ _ rfl e) (r.imp (KR.imp f))
theorem Sl.anti (s : ∀ n, N n → N' n) (r : Sl h N' d v) : Sl h N d v := r.to (fun _ _ z => z.anti s) fun _ _ _ e => e
theorem mapM_eq {ds : List D} {vs : List Vv} (n : Nat) (l : ds.length = vs.length) (ih : ∀ (i : Nat) d v, ds[i]? = some d → vs[i]? = some v → ∀ n, PI.toP n h d = toQ n v) : ds.mapM (PI.toP n h) = vs.mapM (toQ n) :=
  A2.mapM (R := fun d v => ∀ n, PI.toP n h d = toQ n v) ⟨l, ih⟩ fun x y e => e n
theorem Rd.toP (r : Rd h N d v) : ∀ n, PI.toP n h d = toQ n v := by
  induction r with
  | tup l r ih => intro n; cases n with | zero => simp [PI.toP, toQ] | succ n => simp [PI.toP, toQ, mapM_eq n l ih]
  | lst a e l r ih => intro n; cases n with | zero => simp [PI.toP, toQ] | succ n => simp [PI.toP, toQ, e, mapM_eq n l ih]
  | ro a e l r ih => intro n; cases n with | zero => simp [PI.toP, toQ] | succ n => simp [PI.toP, toQ, e, mapM_eq n l ih]
  | dK a e l k' r ih => intro n; cases n with | zero => simp [PI.toP, toQ] | succ n => simp [PI.toP, toQ, e]
  | dT a e l k' r ih => intro n; cases n with | zero => simp [PI.toP, toQ] | succ n => simp [PI.toP, toQ, e]
  | _ => intro n; cases n <;> simp [PI.toP, toQ]
theorem A2.toP {ds : List D} {vs : List Vv} (r : A2 (Rd h N) ds vs) (n : Nat) : ds.mapM (PI.toP n h) = vs.mapM (toQ n) := r.mapM fun _ _ z => z.toP n
theorem Sl.toP (s : Sl h N d v) : ∀ n, PI.toP n h d = toQ n v := by
  intro n
  cases n with
  | zero => simp [PI.toP, toQ]
  | succ n =>
    cases s with
    | tup r => simp [PI.toP, toQ, r.toP n]
    | lst e r => simp [PI.toP, toQ, e, r.toP n]
    | ro e r => simp [PI.toP, toQ, e, r.toP n]
    | dK e r => simp [PI.toP, toQ, e]
    | dT e r => simp [PI.toP, toQ, e]
    | _ => simp [PI.toP, toQ]
/-! ### what only reads -/
theorem Rd.flat (r : Rd h N d v) : flatD d = flatV v := by cases r <;> rfl
theorem Sl.flat (r : Sl h N d v) : flatD d = flatV v := by cases r <;> rfl
theorem eqF_ok {d' : D} {v' : Vv} (r : Sl h N d v) (r' : Sl h N d' v') : eqF d d' = eqFV v v' := by cases r <;> cases r' <;> rfl
theorem keyD_ok (r : Rd h N d v) : keyD d = keyV v := by cases r <;> rfl
theorem keysD_ok {ds : List D} {vs : List Vv} (r : A2 (Rd h N) ds vs) : keysD ds = keysV vs := by
  refine A2.ind (P := fun ds vs => keysD ds = keysV vs) rfl (fun x y xs ys r _ ih => ?_) r
  unfold keysD keysV
  rw [keyD_ok r, ih] <;> rfl
theorem intsD_ok {ds : List D} {vs : List Vv} (r : A2 (Rd h N) ds vs) : intsD ds = intsV vs := by
  refine A2.ind (P := fun ds vs => intsD ds = intsV vs) rfl (fun x y xs ys r _ ih => ?_) r
  cases r <;> simp [intsD, intsV, ih]
theorem blsD_ok {ds : List D} {vs : List Vv} (r : A2 (Rd h N) ds vs) : blsD ds = blsV vs := by
  refine A2.ind (P := fun ds vs => blsD ds = blsV vs) rfl (fun x y xs ys r _ ih => ?_) r
  cases r <;> simp [blsD, blsV, ih]
theorem tru_ok {b : Bool} (s : Sl h N d v) (e : truV v = some b) : truthD h d = some b := by
  cases s with
  | str x =>
    unfold truV g1 at e
    unfold truthD
    rw [lm_eq]
    exact e
  | lst e' r => simp only [truthD, e', r.isEmpty]; exact e
  | ro e' r => simp only [truthD, e', r.isEmpty]; exact e
  | dK e' r => simp only [truthD, e', r.isEmpty]; exact e
  | dT e' r => cases e
  | tup r => simp only [truthD, r.isEmpty]; exact e
  | _ => exact e
theorem isiOk_ok (s : Sl h N d v) : isiOk h d = true := by
  cases s with
  | lst e r => simp [isiOk, e]
  | ro e r => simp [isiOk, e]
  | dK e r => simp [isiOk, e]
  | dT e r => simp [isiOk, e]
  | _ => rfl
theorem isi_ok (s : Sl h N d v) (t : Ty) : isiD d t = isiV v t := by cases s <;> cases t <;> rfl
theorem isNon_ok (s : Sl h N d v) : isNonD d = isNonV v := by cases s <;> rfl
theorem it_ok {vs : List Vv} (s : Sl h N d v) (e : itV v = some vs) : ∃ ds, itemsD h d = some ds ∧ A2 (Rd h N) ds vs := by
  cases s <;> first | cases e | skip
  · exact ⟨_, rfl, ‹_›⟩
  · rename_i e' r; exact ⟨_, by simp [itemsD, e'], r⟩
  · rename_i e' r; exact ⟨_, by simp [itemsD, e'], r⟩
theorem itS_ok {vs : List Vv} (s : Sl h N d v) (e : itS v = some vs) : ∃ ds, eval_items h d = some ds ∧ A2 (Rd h N) ds vs := by
  cases s with
  | str x =>
    cases e
    exact ⟨_, rfl, .same _ fun c => .str _⟩
  | non => cases e
  | bl => cases e
  | int => cases e
  | tup r => exact it_ok (.tup r) e
  | lst e' r => exact it_ok (.lst e' r) e
  | ro e' r => exact it_ok (.ro e' r) e
  | dK e' r => cases e
  | dT e' r => cases e
theorem itL_ok {vs : List Vv} (s : Sl h N d v) (e : itL v = some vs) : ∃ ds, itemsL h d = some ds ∧ A2 (Rd h N) ds vs := by
  cases s <;> first | cases e | skip
  · rename_i e' r; exact ⟨_, by simp [itemsL, e'], r⟩
  · rename_i e' r; exact ⟨_, by simp [itemsL, e'], r⟩
theorem listInts_ok {ns : List Int} (s : Sl h N d v) (e : (itL v).bind intsV = some ns) : listInts h d = some ns := by
  obtain ⟨vs, e1, e2⟩ := Option.bind_eq_some_iff.mp e
  cases s <;> first | cases e1 | skip
  · rename_i e' r; simp [listInts, e', intsD_ok r, e2]
  · rename_i e' r; simp [listInts, e', intsD_ok r, e2]
section
variable {κ : Type} [DecidableEq κ]
theorem getD_ok {ds : List (κ × D)} {vs : List (κ × Vv)} (r : A2 (KR (Rd h N)) ds vs) (k : κ) : (match getV vs k with | some v => ∃ d, getD ds k = some d ∧ Rd h N d v | none => getD ds k = none) := by
  have := r.find (p := fun kv => decide (kv.1 = k)) (q := fun kv => decide (kv.1 = k)) fun x y z => by rw [z.1]
  unfold getV getD
  cases e : vs.find? fun kv => decide (kv.1 = k) with
  | none =>
    rw [e] at this
    dsimp only at this
    rw [this]
    rfl
  | some y =>
    rw [e] at this
    obtain ⟨x, e1, r1⟩ := this
    rw [e1]
    exact ⟨_, rfl, r1.2⟩
theorem putD_ok {ds : List (κ × D)} {vs : List (κ × Vv)} (r : A2 (KR (Rd h N)) ds vs) (k : κ) {d : D} {v : Vv} (q : Rd h N d v) : A2 (KR (Rd h N)) (putD ds k d) (putV vs k v) := by
  have e := r.any (f := fun kv => decide (kv.1 = k)) (g := fun kv => decide (kv.1 = k)) fun x y z => by rw [z.1]
  unfold putD putV
  rw [e]
  split
  · refine r.map fun x y z => ?_
    rw [z.1]
    split
    · exact ⟨rfl, q⟩
    · exact z
  · exact r.append (A2.nil.cons ⟨rfl, q⟩)
end
/-- a look-up's answer -/
def OR (R : D → Vv → Prop) : Option D → Option Vv → Prop
  | none, none => True
  | some d, some v => R d v
  | _, _ => False
theorem look_ok {k : D} {y : Vv} {q : Option Vv} (s : Sl h N d v) (r : Rd h N k y) (e : lookV v y = some q) : ∃ p, lookD h d k = some p ∧ OR (Rd h N) p q := by
  have fin : ∀ {κ : Type} [DecidableEq κ] {ds : List (κ × D)} {vs : List (κ × Vv)} (c : A2 (KR (Rd h N)) ds vs) (x : κ), getV vs x = q → ∃ p, some (getD ds x) = some p ∧ OR (Rd h N) p q := fun c x e => by
    have := getD_ok c x
    rw [e] at this
    cases q with
    | none => exact ⟨none, by rw [this], trivial⟩
    | some v => obtain ⟨d, e1, r1⟩ := this; exact ⟨some d, by rw [e1], r1⟩
  cases s <;> first | cases e | skip
  · rename_i e' c
    have e : (keyV y).map (getV _) = some q := e
    obtain ⟨x, e1, e2⟩ := Option.map_eq_some_iff.mp e
    obtain ⟨p, e3, o⟩ := fin c x e2
    exact ⟨p, by simp [lookD, e', keyD_ok r, e1]; exact Option.some.inj e3, o⟩
  · rename_i e' c
    cases r <;> first | cases e | skip
    rename_i ds vs l r
    have e : (keysV vs).map (getV _) = some q := e
    obtain ⟨x, e1, e2⟩ := Option.map_eq_some_iff.mp e
    obtain ⟨p, e3, o⟩ := fin c x e2
    exact ⟨p, by simp [lookD, e', keysD_ok ⟨l, r⟩, e1]; exact Option.some.inj e3, o⟩
theorem eq_ok {d' : D} {v' : Vv} {k : Bool} (s : Sl h N d v) (s' : Sl h N d' v') (e : eqV v v' = some k) : eqD h d d' = some k := by
  unfold eqD
  rw [s.toP, s'.toP]
  exact e
theorem lt_ok {d' : D} {v' : Vv} {k : Bool} (s : Sl h N d v) (s' : Sl h N d' v') (e : ltV v v' = some k) : ltD h d d' = some k := by
  have t1 := s.toP deep
  have t2 := s'.toP deep
  cases s <;> cases s' <;> first | (cases e; done) | exact e | skip
  all_goals first | (simp only [ltD, t1, t2]; exact e) | skip
theorem in_ok {d' : D} {v' : Vv} {k : Bool} (s : Sl h N d v) (s' : Sl h N d' v') (s0 : ∀ vs, v' ≠ .lst vs → Rd h N d v) (e : inV v v' = some k) : inD h d d' = some k := by
  cases s' with
  | non => cases e
  | bl => cases e
  | int => cases e
  | str z =>
    cases s <;> first | (cases e; done) | exact e
  | tup r =>
    have e : (if (flatV v && List.all _ flatV) = true then some (List.any _ fun y => eqFV y v) else none) = some k := e
    unfold inD
    dsimp only
    rw [s.flat, r.all fun x y q => q.flat, r.any (g := fun y => eqFV y v) fun x y q => eqF_ok q.sl s]
    exact e
  | lst e' r =>
    unfold inD
    simp only [e', s.toP, r.toP]
    exact e
  | ro e' r => cases e
  | dK e' r =>
    have e : (lookV _ v).map (·.isSome) = some k := e
    obtain ⟨q, e1, e2⟩ := Option.map_eq_some_iff.mp e
    obtain ⟨p, e3, o⟩ := look_ok (.dK e' r) (s0 [] (by simp)) e1
    unfold inD
    simp only [e', e3]
    cases p <;> cases q <;> first | exact o.elim | exact congrArg some e2
  | dT e' r =>
    have e : (lookV _ v).map (·.isSome) = some k := e
    obtain ⟨q, e1, e2⟩ := Option.map_eq_some_iff.mp e
    obtain ⟨p, e3, o⟩ := look_ok (.dT e' r) (s0 [] (by simp)) e1
    unfold inD
    simp only [e', e3]
    cases p <;> cases q <;> first | exact o.elim | exact congrArg some e2
theorem map_not {o : Option Bool} {k : Bool} (e : o.map (!·) = some k) : o = some (!k) := by
  cases o with
  | none => cases e
  | some b => cases e; simp
theorem cmp_ok {o : Cp} {d' : D} {v' : Vv} {k : Bool} (s : Sl h N d v) (s' : Sl h N d' v') (s0 : Rd h N d v ∨ (o ≠ .isin ∧ o ≠ .notin)) (e : cmpV o v v' = some k) : cmpD o h d d' = some k := by
  have nn : ∀ {o' : Option Bool}, o' = some (!k) → o'.map (!·) = some k := fun e => by rw [e]; simp
  cases o with
  | eq => exact eq_ok s s' e
  | ne => exact nn (eq_ok s s' (map_not e))
  | lt => exact lt_ok s s' e
  | gt => exact lt_ok s' s e
  | le => exact nn (lt_ok s' s (map_not e))
  | ge => exact nn (lt_ok s s' (map_not e))
  | isin => exact in_ok s s' (fun _ _ => s0.elim id fun z => (z.1 rfl).elim) e
  | notin => exact nn (in_ok s s' (fun _ _ => s0.elim id fun z => (z.2 rfl).elim) (map_not e))
theorem ix_ok {i : D} {y u : Vv} (s : Sl h N d v) (r : Rd h N i y) (e : ixV v y = some u) : ∃ a, ixD d i h = .ok a h ∧ Rd h N a u := by
  have go : ∀ {ds : List D} {vs : List Vv} {k : Int}, A2 (Rd h N) ds vs → L2.atI vs k = some u → ∃ a, opt (L2.atI ds k) (fun d => Res.ok d h) = .ok a h ∧ Rd h N a u := fun c e => by
    obtain ⟨x, e1, r⟩ := c.atI e
    exact ⟨x, by rw [e1]; rfl, r⟩
  cases s with
  | non => cases e
  | bl => cases e
  | int => cases e
  | str z =>
    cases r <;> first | (cases e; done) | skip
    rename_i k
    have e : (L2.atI z.cps.toList k).bind (fun c => g1 (z.length ≤ lm) (Vv.str ⟨#[c]⟩)) = some u := e
    obtain ⟨c, e1, e2⟩ := Option.bind_eq_some_iff.mp e
    unfold g1 at e2
    split at e2
    · rename_i hz
      cases e2
      refine ⟨.str ⟨#[c]⟩, ?_, .str _⟩
      unfold ixD
      simp only [e1, lm_eq, decide_eq_true hz]
      rfl
    · cases e2
  | tup c =>
    cases r <;> first | (cases e; done) | skip
    exact go c e
  | lst e' c =>
    cases r <;> first | (cases e; done) | skip
    unfold ixD
    simp only [e']
    exact go c e
  | ro e' c =>
    cases r <;> first | (cases e; done) | skip
    unfold ixD
    simp only [e']
    exact go c e
  | dK e' c =>
    obtain ⟨q, e1, e2⟩ := Option.bind_eq_some_iff.mp (show (lookV _ y).bind id = some u from e)
    obtain ⟨p, e3, o⟩ := look_ok (.dK e' c) r e1
    have e2 : q = some u := e2
    subst e2
    cases p with
    | none => exact o.elim
    | some a =>
      refine ⟨a, ?_, o⟩
      unfold ixD
      simp only [e', e3]
      rfl
  | dT e' c =>
    obtain ⟨q, e1, e2⟩ := Option.bind_eq_some_iff.mp (show (lookV _ y).bind id = some u from e)
    obtain ⟨p, e3, o⟩ := look_ok (.dT e' c) r e1
    have e2 : q = some u := e2
    subst e2
    cases p with
    | none => exact o.elim
    | some a =>
      refine ⟨a, ?_, o⟩
      unfold ixD
      simp only [e', e3]
      rfl
theorem idxF_ok {ds : List D} {vs : List Vv} {j : Nat} (c : A2 (Rd h N) ds vs) (s : Sl h N d v) (e : idxFV vs v = some j) : idxF ds d = some j := by
  unfold idxF
  rw [s.flat, c.all fun x y q => q.flat, c.findIdx (q := fun y => eqFV y v) fun x y q => eqF_ok q.sl s]
  exact e
end
/-! ### what makes something new -/
/-- a flat answer, or a new list at the store's end -/
inductive NewR (h : VH) (N : Nat → Prop) (d : D) (u : Vv) (h' : VH) : Prop where
  | flat (e : h' = h) (r : Rd h N d u) (f : ∀ n, d ≠ .ref n)
  | obj (o : VO) (e : h' = h ++ [o]) (ed : d = .ref h.length) (r : RdO (Rd h N) o u)
section
variable {h : VH} {N : Nat → Prop} {d : D} {v u : Vv}
theorem g1_some {α : Type} {c : Prop} [Decidable c] {a b : α} (e : g1 c a = some b) : c ∧ a = b := by
  unfold g1 at e
  split at e
  · rename_i q; cases e; exact ⟨q, rfl⟩
  · cases e
theorem newL_ok {ds : List D} {vs : List Vv} (c : A2 (Rd h N) ds vs) (l : vs.length ≤ lm) : ∃ d' h', newL ds h = .ok d' h' ∧ NewR h N d' (.lst vs) h' := by
  refine ⟨.ref h.length, h ++ [.lst ds], ?_, .obj (.lst ds) rfl rfl c⟩
  unfold newL
  rw [c.1, lm_eq, decide_eq_true l]
  rfl
theorem newT_ok {ds : List D} {vs : List Vv} (c : A2 (Rd h N) ds vs) (l : vs.length ≤ lm) : ∃ d' h', newT ds h = .ok d' h' ∧ NewR h N d' (.tup vs) h' := by
  refine ⟨.tup ds, h, ?_, .flat rfl (.tup c.1 c.2) nofun⟩
  unfold newT
  rw [c.1, lm_eq, decide_eq_true l]
  rfl
theorem sort_ok {ds : List D} {vs us : List Vv} (c : A2 (Rd h N) ds vs) (e : sortV vs = some us) : ∃ es, sortD h ds = some es ∧ A2 (Rd h N) es us := by
  unfold sortV at e
  unfold sortD
  rw [c.toP, c.1, lm_eq]
  cases hp : vs.mapM (toQ deep) with
  | none => rw [hp] at e; cases e
  | some ps =>
    rw [hp] at e
    dsimp only at e ⊢
    split at e
    · rename_i q
      cases e
      refine ⟨_, if_pos q, ?_⟩
      have z : A2 (fun (p : D × PyData) (q : Vv × PyData) => Rd h N p.1 q.1 ∧ p.2 = q.2) (ds.zip ps) (vs.zip ps) := c.zip (S := fun (x y : PyData) => x = y) ⟨rfl, fun i x y e1 e2 => by rw [e1] at e2; exact Option.some.inj e2⟩
      have zl : ds.zip ps = (((ds.zip (vs.zip ps))).map fun q => (q.1, q.2.2)) := by
        clear hp q z
        induction ps generalizing ds vs with
        | nil => simp
        | cons p ps ih =>
          cases ds with
          | nil => simp
          | cons d ds =>
            cases vs with
            | nil => have := c.1; simp at this
            | cons v vs => simp [← ih c.tail]
      have zr : vs.zip ps = (((ds.zip (vs.zip ps))).map fun q => (q.2.1, q.2.2)) := by
        clear hp q z zl
        induction ps generalizing ds vs with
        | nil => simp
        | cons p ps ih =>
          cases ds with
          | nil =>
            cases vs with
            | nil => simp
            | cons v vs => have := c.1; simp at this
          | cons d ds =>
            cases vs with
            | nil => simp
            | cons v vs => simp [← ih c.tail]
      have hall : ∀ q ∈ ds.zip (vs.zip ps), Rd h N q.1 q.2.1 := by
        intro q hq
        obtain ⟨i, hi⟩ := List.getElem?_of_mem hq
        rw [List.getElem?_zip_eq_some] at hi
        obtain ⟨h1, h2⟩ := hi
        obtain ⟨a, b⟩ := List.getElem?_zip_eq_some.mp h2
        exact c.2 i _ _ h1 a
      generalize hZ : ds.zip (vs.zip ps) = Z at hall zl zr
      have m1 : (ds.zip ps).mergeSort (fun a b => !PySem.W.dataLt b.2 a.2) = (Z.mergeSort (fun a b => !PySem.W.dataLt b.2.2 a.2.2)).map fun q => (q.1, q.2.2) := by
        rw [zl, List.map_mergeSort]
        intro a _ b _
        rfl
      have m2 : (vs.zip ps).mergeSort (fun a b => !PySem.W.dataLt b.2 a.2) = (Z.mergeSort (fun a b => !PySem.W.dataLt b.2.2 a.2.2)).map fun q => (q.2.1, q.2.2) := by
        conv => lhs; rw [zr]
        rw [List.map_mergeSort]
        intro a _ b _
        rfl
      rw [m1, m2, List.map_map, List.map_map]
      have hs : ∀ q ∈ Z.mergeSort (fun a b => !PySem.W.dataLt b.2.2 a.2.2), Rd h N q.1 q.2.1 := fun q hq => hall q (List.mem_mergeSort.mp hq)
      generalize Z.mergeSort (fun a b => !PySem.W.dataLt b.2.2 a.2.2) = Y at hs
      clear m1 m2
      induction Y with
      | nil => exact .nil
      | cons y ys ih => exact (ih fun q hq => hs q (by simp [hq])).cons (hs y (by simp))
    · cases e
theorem b1_ok {b : B1} (s : Sl h N d v) (e : b1V b v = some u) : ∃ d' h', b1D b d h = .ok d' h' ∧ NewR h N d' u h' := by
  have fi : ∀ i : Int, NewR h N (.int i) (.int i) h := fun i => .flat rfl (.int i) nofun
  have fb : ∀ i : Bool, NewR h N (.bl i) (.bl i) h := fun i => .flat rfl (.bl i) nofun
  cases b with
  | len =>
    cases s <;> first | (cases e; done) | skip
    · obtain ⟨hl, rfl⟩ := g1_some e
      refine ⟨_, _, ?_, fi _⟩
      unfold b1D
      simp only [lm_eq, decide_eq_true hl]
      rfl
    · rename_i r; cases e; exact ⟨_, _, by unfold b1D; simp only [r.1], fi _⟩
    · rename_i e' r; cases e; exact ⟨_, _, by unfold b1D; simp only [e', r.1], fi _⟩
    · rename_i e' r; cases e; exact ⟨_, _, by unfold b1D; simp only [e', r.1], fi _⟩
    · rename_i e' r; cases e; exact ⟨_, _, by unfold b1D; simp only [e', r.1], fi _⟩
  | int =>
    cases s <;> first | (cases e; done) | skip
    · cases e; exact ⟨_, _, rfl, fi _⟩
    · cases e; exact ⟨_, _, rfl, fi _⟩
  | abs =>
    cases s <;> first | (cases e; done) | skip
    cases e; exact ⟨_, _, rfl, fi _⟩
  | bool =>
    cases s <;> first | (cases e; done) | skip
    · cases e; exact ⟨_, _, rfl, fb _⟩
    · cases e; exact ⟨_, _, rfl, fb _⟩
  | str =>
    cases s <;> first | (cases e; done) | skip
    obtain ⟨hl, rfl⟩ := g1_some e
    refine ⟨_, _, ?_, .flat rfl (.str _) nofun⟩
    unfold b1D
    simp only [decide_eq_true hl]
    rfl
  | sum =>
    obtain ⟨ns, e1, rfl⟩ := Option.map_eq_some_iff.mp e
    exact ⟨_, _, by unfold b1D; simp only [listInts_ok s e1]; rfl, fi _⟩
  | max =>
    obtain ⟨m, e1, rfl⟩ := Option.map_eq_some_iff.mp e
    obtain ⟨ns, e2, e3⟩ := Option.bind_eq_some_iff.mp e1
    exact ⟨_, _, by unfold b1D; simp only [listInts_ok s e2, Option.bind_some, e3]; rfl, fi _⟩
  | min =>
    obtain ⟨m, e1, rfl⟩ := Option.map_eq_some_iff.mp e
    obtain ⟨ns, e2, e3⟩ := Option.bind_eq_some_iff.mp e1
    exact ⟨_, _, by unfold b1D; simp only [listInts_ok s e2, Option.bind_some, e3]; rfl, fi _⟩
  | sorted =>
    cases s <;> first | (cases e; done) | skip
    · rename_i c
      obtain ⟨us, e1, e2⟩ := Option.bind_eq_some_iff.mp (show (sortV _).bind _ = some u from e)
      obtain ⟨hl, rfl⟩ := g1_some e2
      obtain ⟨es, e3, c'⟩ := sort_ok c e1
      obtain ⟨d', h', e4, nr⟩ := newL_ok c' hl
      exact ⟨d', h', by unfold b1D; simp only [e3]; exact e4, nr⟩
    · rename_i e' c
      obtain ⟨us, e1, e2⟩ := Option.bind_eq_some_iff.mp (show (sortV _).bind _ = some u from e)
      obtain ⟨hl, rfl⟩ := g1_some e2
      obtain ⟨es, e3, c'⟩ := sort_ok c e1
      obtain ⟨d', h', e4, nr⟩ := newL_ok c' hl
      exact ⟨d', h', by unfold b1D; simp only [e', e3]; exact e4, nr⟩
  | tuple =>
    cases s <;> first | (cases e; done) | skip
    · rename_i c; cases e; exact ⟨_, _, rfl, .flat rfl (.tup c.1 c.2) nofun⟩
    · rename_i e' c
      obtain ⟨hl, rfl⟩ := g1_some e
      obtain ⟨d', h', e4, nr⟩ := newT_ok c hl
      exact ⟨d', h', by unfold b1D; simp only [e']; exact e4, nr⟩
    · rename_i e' c
      obtain ⟨hl, rfl⟩ := g1_some e
      obtain ⟨d', h', e4, nr⟩ := newT_ok c hl
      exact ⟨d', h', by unfold b1D; simp only [e']; exact e4, nr⟩
  | list =>
    obtain ⟨us, e1, e2⟩ := Option.bind_eq_some_iff.mp (show (itV v).bind _ = some u from e)
    obtain ⟨hl, rfl⟩ := g1_some e2
    obtain ⟨ds, e3, c⟩ := it_ok s e1
    obtain ⟨d', h', e4, nr⟩ := newL_ok c hl
    exact ⟨d', h', by unfold b1D; simp only [e3]; exact e4, nr⟩
  | all =>
    cases s <;> first | (cases e; done) | skip
    rename_i e' c
    obtain ⟨bs, e1, rfl⟩ := Option.map_eq_some_iff.mp (show (blsV _).map _ = some u from e)
    exact ⟨_, _, by unfold b1D; simp only [e', blsD_ok c, e1]; rfl, fb _⟩
theorem b2_ok {b : B2} {d' : D} {v' : Vv} (s : Sl h N d v) (s' : Sl h N d' v') (e : b2V b v v' = some u) : ∃ a, b2D b d d' h = .ok a h ∧ Rd h N a u := by
  cases s <;> cases s' <;> first | (cases e; done) | skip
  cases b <;> (cases e; exact ⟨_, rfl, .int _⟩)
theorem bin_ok {o : Op} {d' : D} {v' : Vv} (s : Sl h N d v) (s' : Sl h N d' v') (e : binV o v v' = some u) : ∃ a h', binD o d d' h = .ok a h' ∧ NewR h N a u h' := by
  have fi : ∀ i : Int, NewR h N (.int i) (.int i) h := fun i => .flat rfl (.int i) nofun
  cases o with
  | add =>
    cases s <;> cases s' <;> first | (cases e; done) | skip
    · cases e; exact ⟨_, _, rfl, fi _⟩
    · obtain ⟨hl, rfl⟩ := g1_some e
      exact ⟨_, _, by unfold binD; simp only [lm_eq, decide_eq_true hl]; rfl, .flat rfl (.str _) nofun⟩
    · rename_i c _ _ c'
      obtain ⟨hl, rfl⟩ := g1_some e
      exact ⟨_, _, by unfold binD; simp only [lm_eq, c.1, c'.1, decide_eq_true hl]; rfl, .flat rfl (Rd.tups (c.append c')) nofun⟩
    · rename_i e1 c _ _ _ e2 c'
      obtain ⟨hl, rfl⟩ := g1_some e
      obtain ⟨a, h', e4, nr⟩ := newL_ok (c.append c') (by rw [List.length_append]; exact hl)
      exact ⟨a, h', by unfold binD; simp only [e1, e2]; exact e4, nr⟩
  | sub =>
    cases s <;> cases s' <;> first | (cases e; done) | skip
    cases e; exact ⟨_, _, rfl, fi _⟩
  | mul =>
    cases s <;> cases s' <;> first | (cases e; done) | skip
    · obtain ⟨hl, rfl⟩ := g1_some e
      exact ⟨_, _, by unfold binD; simp only [hl]; rfl, fi _⟩
    · rename_i c i
      obtain ⟨⟨h1, h2, h3, h4⟩, rfl⟩ := g1_some e
      exact ⟨_, _, by unfold binD; simp only [c.isEmpty, h1, c.1, decide_eq_true h2, decide_eq_true h3, decide_eq_true h4]; rfl, .flat rfl (Rd.tups (c.rep _)) nofun⟩
    · rename_i e1 c i
      obtain ⟨⟨h1, h2⟩, rfl⟩ := g1_some e
      have h3 : (List.replicate i.toNat (α := List Vv) ‹_›).flatten.length ≤ lm := by
        rw [List.length_flatten, List.map_replicate, List.sum_replicate_nat]
        rw [Nat.mul_comm]; exact h2
      obtain ⟨a, h', e4, nr⟩ := newL_ok (c.rep i.toNat) h3
      have q1 : decide (-(2 ^ 63) ≤ i) = true := decide_eq_true (by omega)
      have q2 : decide (i < 2 ^ 63) = true := decide_eq_true (by omega)
      refine ⟨a, h', ?_, nr⟩
      unfold binD
      simp only [e1, c.1, lm_eq, q1, q2, decide_eq_true h2]
      exact e4
  | fdiv =>
    cases s <;> cases s' <;> first | (cases e; done) | skip
    obtain ⟨⟨h1, h2⟩, rfl⟩ := g1_some e
    exact ⟨_, _, by unfold binD; simp only [decide_eq_true h1, decide_eq_true h2]; rfl, fi _⟩
  | mod =>
    cases s <;> cases s' <;> first | (cases e; done) | skip
    obtain ⟨h1, rfl⟩ := g1_some e
    exact ⟨_, _, by unfold binD; simp only [decide_eq_true h1]; rfl, fi _⟩
  | pow =>
    cases s <;> cases s' <;> first | (cases e; done) | skip
    obtain ⟨⟨h1, h2, h3⟩, rfl⟩ := g1_some e
    exact ⟨_, _, by unfold binD; simp only [decide_eq_true h1, decide_eq_true h2, decide_eq_true h3]; rfl, fi _⟩
  | band =>
    cases s <;> cases s' <;> first | (cases e; done) | skip
    cases e; exact ⟨_, _, rfl, fi _⟩
  | bxor =>
    cases s <;> cases s' <;> first | (cases e; done) | skip
    cases e; exact ⟨_, _, rfl, fi _⟩
theorem sl_ok {lo hi : Option Int} (s : Sl h N d v) (e : slV v lo hi = some u) : ∃ a h', slD d lo hi h = .ok a h' ∧ NewR h N a u h' := by
  cases s <;> first | (cases e; done) | skip
  · obtain ⟨hl, rfl⟩ := g1_some e
    exact ⟨_, _, by unfold slD; simp only [lm_eq, decide_eq_true hl]; rfl, .flat rfl (.str _) nofun⟩
  · rename_i c; cases e; exact ⟨_, _, rfl, .flat rfl (Rd.tups (c.cutL _ _)) nofun⟩
  · rename_i e1 c
    obtain ⟨hl, rfl⟩ := g1_some e
    obtain ⟨a, h', e4, nr⟩ := newL_ok (c.cutL lo hi) hl
    exact ⟨a, h', by unfold slD; simp only [e1]; exact e4, nr⟩
  · rename_i e1 c
    obtain ⟨hl, rfl⟩ := g1_some e
    obtain ⟨a, h', e4, nr⟩ := newL_ok (c.cutL lo hi) hl
    exact ⟨a, h', by unfold slD; simp only [e1]; exact e4, nr⟩
end
end PV
end
section
set_option autoImplicit false
set_option maxRecDepth 100000
/-! Whose names own what: the check, and what stands of names and store (own work). -/
namespace PV
open PySem PI
open L2 (Key)
/-- O: names that own what they hold (nobody else sees it); M: those of them that may be changed here; P: those that are parameters -/
structure Ck where
  O : List Nat
  M : List Nat
  P : List Nat
  an : Nat → An
def Ck.drop (C : Ck) (js : List Nat) : Ck := ⟨C.O, C.M.filter fun m => !js.contains m, C.P, C.an⟩
/-- a bare name that owns -/
def frz (C : Ck) (e : CE) : List Nat := match slotOf e with
  | some i => if C.O.contains i then [i] else []
  | none => []
def lenEs : CEs → Nat
  | .nil => 0
  | .cons _ es => lenEs es + 1
def bares (C : Ck) (io ne : List Nat) : Nat → CEs → List Nat
  | _, .nil => []
  | p, .cons e es => (if io.contains p || ne.contains p then frz C e else []) ++ bares C io ne (p + 1) es
def frzI (C : Ck) : CI → List Nat
  | .seq e => frz C e
  | .enum e => frz C e
  | .rev e => frz C e
  | .zip a b => frz C a ++ frz C b
  | _ => []
def isVar (e : CE) : Bool := (slotOf e).isSome
def freshE (C : Ck) : CE → Bool
  | .lit _ => true
  | .lst _ => true
  | .dnK => true
  | .dnT => true
  | .lc _ _ _ _ => true
  | .dc _ _ _ _ => true
  | .b1 _ _ => true
  | .bin _ _ _ => true
  | .sl _ _ _ => true
  | .call f _ => (C.an f).fr
  | .lrg _ => true
  | _ => false
/-- literals -/
def litsOf : CEs → Option (List Lit)
  | .nil => some []
  | .cons (.lit l) es => (litsOf es).map (l :: ·)
  | .cons _ _ => none
mutual
def chE : CE → Ck → Bool
  | .var i, C => !C.O.contains i
  | .lit _, _ => true
  | .glob _ _, _ => true
  | .tup es, C => chEs es C && decide (lenEs es ≤ lm)
  | .lst es, C => chEs es C && decide (lenEs es ≤ lm)
  | .dnK, _ => true
  | .dnT, _ => true
  | .call f es, C => (decide (bares C (C.an f).io (C.an f).ne 0 es).Nodup && chAs es (C.drop (bares C (C.an f).io (C.an f).ne 0 es)) C.M (C.an f).io (C.an f).ne 0) || (decide ((C.an f).io = [0]) && chF es C)
  | .b1 _ a, C => isVar a || chE a C
  | .b2 _ a c, C => chE a C && chE c C
  | .isi a _, C => isVar a || chE a C
  | .bin _ a b, C => (isVar a || chE a C) && (isVar b || chE b (C.drop (frz C a)))
  | .neg a, C => chE a C
  | .cmp o a b, C => (match o with
    | .isin => chE a C && (isVar b || chE b C)
    | .notin => chE a C && (isVar b || chE b C)
    | _ => (isVar a || chE a C) && (isVar b || chE b (C.drop (frz C a))))
  | .chain o o' a b c, C => decide (o ≠ .isin) && decide (o ≠ .notin) && decide (o' ≠ .isin) && decide (o' ≠ .notin) && chE a C && chE b C && chE c C
  | .isN a, C => isVar a || chE a C
  | .notN a, C => isVar a || chE a C
  | .isB _ a, C => chE a C
  | .notB _ a, C => chE a C
  | .and_ a b, C => chE a C && chE b C
  | .or_ a b, C => chE a C && chE b C
  | .not_ a, C => isVar a || chE a C
  | .ix a i, C => (isVar a || chE a C) && chE i (C.drop (frz C a))
  | .sl a lo hi, C => (isVar a || chE a C) && (chO lo (C.drop (frz C a)) && chO hi (C.drop (frz C a)))
  | .rvs a, C => isVar a || chE a C
  | .lc g it c e, C => (slotsG g).all (fun i => !C.O.contains i) && chI it C && chG g (C.drop (frzI C it)) && (match c with
      | .none => true
      | .some c => chE c (C.drop (frzI C it))) && chE e (C.drop (frzI C it))
  | .dc g it k v, C => (slotsG g).all (fun i => !C.O.contains i) && chI it C && chG g (C.drop (frzI C it)) && chE k (C.drop (frzI C it)) && chE v (C.drop (frzI C it))
  | .app o e, C => (match slotOf o with | some i => C.M.contains i | none => false) && chE e C
  | .ext o e, C => (match slotOf o with | some i => C.M.contains i | none => false) && chE e C
  | .pop o, C => (match slotOf o with | some i => C.M.contains i | none => false)
  | .idx o e, C => (isVar o || chE o C) && chE e (C.drop (frz C o))
  | .idxT _ _, _ => true
  | .get2 o k d, C => (isVar o || chE o C) && (chE k (C.drop (frz C o)) && chE d (C.drop (frz C o)))
  | .lrg e, C => chE e C
/-- something new goes to the callee, who may change it; behind it literals -/
def chF : CEs → Ck → Bool
  | .nil, _ => false
  | .cons e es, C => !isVar e && freshE C e && chE e C && (litsOf es).isSome
def chO : CO → Ck → Bool
  | .none, _ => true
  | .some e, C => chE e C
def chEs : CEs → Ck → Bool
  | .nil, _ => true
  | .cons e es, C => chE e C && chEs es C
def chAs : CEs → Ck → List Nat → List Nat → List Nat → Nat → Bool
  | .nil, _, _, _, _, _ => true
  | .cons e es, C, M, io, ne, p => (if io.contains p then (match slotOf e with | some j => M.contains j | none => false) else if ne.contains p then isVar e || chE e C else chE e C) && chAs es C M io ne (p + 1)
def chI : CI → Ck → Bool
  | .seq e, C => isVar e || chE e C
  | .rng1 e, C => chE e C
  | .rng2 a b, C => chE a C && chE b C
  | .enum e, C => isVar e || chE e C
  | .zip a b, C => (isVar a || chE a C) && (isVar b || chE b (C.drop (frz C a)))
  | .rev e, C => isVar e || chE e C
  | .revrng e, C => chE e C
  | .keys _, _ => false
def chG : TG → Ck → Bool
  | .name i, C => !C.O.contains i
  | .tup ts, C => chGs ts C
  | .sub o i, C => (match slotOf o with | some s => C.M.contains s | none => false) && chE i C
def chGs : TGs → Ck → Bool
  | .nil, _ => true
  | .cons t ts, C => chG t C && chGs ts C
end
/-! ### the store goes on -/
def Keep (N K : Nat → Prop) (h h' : VH) : Prop := h.length ≤ h'.length ∧ ∀ n, n < h.length → (¬ N n ∨ K n) → h'[n]? = h[n]?
abbrev add (N : Nat → Prop) (m : Nat) : Nat → Prop := fun n => N n ∨ n = m
section
variable {N N' K K' : Nat → Prop} {h h' h2 : VH}
theorem Keep.refl : Keep N K h h := ⟨Nat.le_refl _, fun _ _ _ => rfl⟩
theorem Keep.trans (a : Keep N K h h') (b : Keep N K h' h2) : Keep N K h h2 := ⟨Nat.le_trans a.1 b.1, fun n l z => (b.2 n (Nat.lt_of_lt_of_le l a.1) z).trans (a.2 n l z)⟩
theorem Keep.next (a : Keep N K h h') (b : Keep N' K h' h2) (s : ∀ n, N' n → N n ∨ h.length ≤ n) : Keep N K h h2 := ⟨Nat.le_trans a.1 b.1, fun n l z => (b.2 n (Nat.lt_of_lt_of_le l a.1) (z.imp (fun y x => (s n x).elim y fun q => absurd l (by omega)) id)).trans (a.2 n l z)⟩
theorem Keep.weak (a : Keep N' K' h h') (s : ∀ n, n < h.length → ¬ N n → ¬ N' n ∨ K' n) (t : ∀ n, n < h.length → K n → ¬ N' n ∨ K' n) : Keep N K h h' := ⟨a.1, fun n l z => a.2 n l (z.elim (s n l) (t n l))⟩
theorem Keep.app {g : VH} : Keep N K h (h ++ g) := ⟨by simp, fun n l _ => List.getElem?_append_left l⟩
theorem Keep.set {n : Nat} {o : VO} (a : N n) (b : ¬ K n) : Keep N K h (h.set n o) := ⟨by simp, fun m l z => List.getElem?_set_ne fun e => by subst e; exact z.elim (fun y => y a) b⟩
theorem Rd.kp {d : D} {v : Vv} (r : Rd h N d v) (k : Keep N K h h') : Rd h' N d v := r.keep fun n a l => k.2 n l (.inl a)
theorem Sl.kp {d : D} {v : Vv} (s : Sl h N d v) (k : Keep N K h h') (a : ∀ n, d = .ref n → ¬ N n ∨ K n) : Sl h' N d v := s.to (fun _ _ z => z.kp k) fun n o e z => (k.2 n (List.getElem?_eq_some_iff.mp z).1 (a n e)).trans z
theorem Sl.lt {n : Nat} {v : Vv} (s : Sl h N (.ref n) v) : n < h.length := by
  cases s with
  | lst e r => exact (List.getElem?_eq_some_iff.mp e).1
  | ro e r => exact (List.getElem?_eq_some_iff.mp e).1
  | dK e r => exact (List.getElem?_eq_some_iff.mp e).1
  | dT e r => exact (List.getElem?_eq_some_iff.mp e).1
theorem A2.kp {ds : List D} {vs : List Vv} (r : A2 (Rd h N) ds vs) (k : Keep N K h h') : A2 (Rd h' N) ds vs := r.imp fun _ _ z => z.kp k
theorem Rd.up {d : D} {v : Vv} {m : Nat} (r : Rd h N d v) (hm : h.length ≤ m) (k : Keep N K h h') : Rd h' (add N m) d v := by
  have r1 : Rd h (add N m) d v := r.old fun n z => z.imp id fun z => by omega
  exact r1.keep fun n a l => k.2 n l (.inl fun z => a (.inl z))
theorem Sl.up {d : D} {v : Vv} {m : Nat} (s : Sl h N d v) (hm : h.length ≤ m) (k : Keep N K h h') (a : ∀ n, d = .ref n → ¬ N n ∨ K n) : Sl h' (add N m) d v := s.to (fun _ _ z => z.up hm k) fun n o e z => (k.2 n (List.getElem?_eq_some_iff.mp z).1 (a n e)).trans z
end
/-! ### names and store -/
/-- B: what the caller owns; L: the store's length when the def began -/
structure Inv (C : Ck) (L : Nat) (B N K : Nat → Prop) (h : VH) (r : PI.Env) (w : VE) : Prop where
  len : r.length = w.length
  sl : ∀ (i : Nat) (o : Option D) (u : Option Vv), r[i]? = some o → w[i]? = some u → OR (Sl h N) o u
  rd : ∀ i, i ∉ C.O → ∀ n, r[i]? = some (some (.ref n)) → ¬ N n
  mu : ∀ i, i ∈ C.M → ∀ n, r[i]? = some (some (.ref n)) → N n ∧ ¬ K n ∧ ∀ j, j ∈ C.O → j ≠ i → r[j]? ≠ some (some (.ref n))
  MO : ∀ i, i ∈ C.M → i ∈ C.O
  bN : ∀ n, N n → n < h.length
  bK : ∀ n, K n → n < h.length
  BN : ∀ n, B n → N n
  BL : ∀ n, B n → n < L
  loc : ∀ i, i ∈ C.O → i ∉ C.P → ∀ n, r[i]? = some (some (.ref n)) → L ≤ n
  prm : ∀ i, i ∈ C.M → i ∈ C.P → ∀ n, r[i]? = some (some (.ref n)) → B n
  hL : L ≤ h.length
section
variable {C : Ck} {L : Nat} {B N N' K K' : Nat → Prop} {h h' : VH} {r r' : PI.Env} {w w' : VE}
theorem Inv.get (I : Inv C L B N K h r w) {i : Nat} {v : Vv} (e : getW w i = some v) : ∃ d, r[i]? = some (some d) ∧ Sl h N d v := by
  obtain ⟨u, e1, e2⟩ := Option.bind_eq_some_iff.mp e
  have e2 : u = some v := e2
  subst e2
  have hi := (List.getElem?_eq_some_iff.mp e1).1
  have hi' : i < r.length := by rw [I.len]; exact hi
  have := I.sl i _ _ (List.getElem?_eq_getElem hi') e1
  cases ho : r[i] with
  | none => rw [ho] at this; exact this.elim
  | some d => rw [ho] at this; exact ⟨d, by rw [List.getElem?_eq_getElem hi', ho], this⟩
theorem Inv.lt (I : Inv C L B N K h r w) {i n : Nat} (e : r[i]? = some (some (.ref n))) : n < h.length := by
  have hi' := (List.getElem?_eq_some_iff.mp e).1
  have hw : i < w.length := by rw [← I.len]; exact hi'
  have := I.sl i _ _ e (List.getElem?_eq_getElem hw)
  cases hu : w[i] with
  | none => rw [hu] at this; exact this.elim
  | some v =>
    rw [hu] at this
    exact Sl.lt (N := N) (v := v) this
theorem Inv.plain (I : Inv C L B N K h r w) {i : Nat} {v : Vv} (hi : i ∉ C.O) (e : getW w i = some v) : ∃ d, r[i]? = some (some d) ∧ Rd h N d v := by
  obtain ⟨d, e1, s⟩ := I.get e
  exact ⟨d, e1, s.rd fun n z => I.rd i hi n (by rw [e1, z])⟩
/-- the store goes on, the names stay -/
theorem Inv.go {K1 : Nat → Prop} (I : Inv C L B N K h r w) (k : Keep N K1 h h') (a : ∀ i, i ∈ C.O → ∀ n, r[i]? = some (some (.ref n)) → h'[n]? = h[n]?) : Inv C L B N K h' r w where
  len := I.len
  sl := fun i o u e1 e2 => by
    have := I.sl i o u e1 e2
    cases o with
    | none => cases u with
      | none => trivial
      | some v => exact this.elim
    | some d => cases u with
      | none => exact this.elim
      | some v =>
        refine Sl.to (fun _ _ z => Rd.kp z k) (fun n o e z => ?_) this
        subst e
        by_cases hi : i ∈ C.O
        · rw [a i hi n e1]; exact z
        · exact (k.2 n (List.getElem?_eq_some_iff.mp z).1 (.inl (I.rd i hi n e1))).trans z
  rd := I.rd
  mu := I.mu
  MO := I.MO
  bN := fun n z => Nat.lt_of_lt_of_le (I.bN n z) k.1
  bK := fun n z => Nat.lt_of_lt_of_le (I.bK n z) k.1
  BN := I.BN
  BL := I.BL
  loc := I.loc
  prm := I.prm
  hL := Nat.le_trans I.hL k.1
theorem Inv.app (I : Inv C L B N K h r w) (g : VH) : Inv C L B N K (h ++ g) r w := I.go (K1 := K) .app fun i hi n e => List.getElem?_append_left (I.lt e)
/-- one more object that no name sees -/
theorem Inv.more (I : Inv C L B N K h r w) {m : Nat} (hm : h.length ≤ m) (hm' : m < h'.length) (k : Keep N K h h') (I' : Inv C L B N K h' r w) (a : ∀ i, i ∈ C.O → ∀ n, r[i]? = some (some (.ref n)) → h'[n]? = h[n]?) : Inv C L B (add N m) K h' r w where
  len := I.len
  sl := fun i o u e1 e2 => by
    have := I.sl i o u e1 e2
    cases o with
    | none => cases u with
      | none => trivial
      | some v => exact this.elim
    | some d => cases u with
      | none => exact this.elim
      | some v =>
        refine Sl.to (fun _ _ z => Rd.up z hm k) (fun n o e z => ?_) this
        subst e
        by_cases hi : i ∈ C.O
        · rw [a i hi n e1]; exact z
        · exact (k.2 n (List.getElem?_eq_some_iff.mp z).1 (.inl (I.rd i hi n e1))).trans z
  rd := fun i hi n e z => z.elim (I.rd i hi n e) fun z => by
    subst z
    exact absurd (I.lt e) (by omega)
  mu := fun i hi n e => ⟨.inl (I.mu i hi n e).1, (I.mu i hi n e).2⟩
  MO := I.MO
  bN := fun n z => z.elim (I'.bN n) fun z => by subst z; exact hm'
  bK := I'.bK
  BN := fun n z => .inl (I.BN n z)
  BL := I.BL
  loc := I.loc
  prm := I.prm
  hL := I'.hL
theorem Inv.alloc (I : Inv C L B N K h r w) (o : VO) : Inv C L B (add N h.length) K (h ++ [o]) r w :=
  I.more (Nat.le_refl _) (by simp) .app (I.app [o]) fun i hi n e => List.getElem?_append_left (I.lt e)
/-- less is owned -/
theorem Inv.anti (I' : Inv C L B N' K h' r w') (I : Inv C L B N K h r w) (s : ∀ n, N n → N' n) : Inv C L B N K h' r w' where
  len := I'.len
  sl := fun i o u e1 e2 => by
    have := I'.sl i o u e1 e2
    cases o with
    | none => cases u with
      | none => trivial
      | some v => exact this.elim
    | some d => cases u with
      | none => exact this.elim
      | some v => exact Sl.anti s this
  rd := fun i hi n e z => I'.rd i hi n e (s n z)
  mu := fun i hi n e => ⟨(I.mu i hi n e).1, (I'.mu i hi n e).2⟩
  MO := I'.MO
  bN := fun n z => I'.bN n (s n z)
  bK := I'.bK
  BN := I.BN
  BL := I.BL
  loc := I'.loc
  prm := I'.prm
  hL := I'.hL
/-- some names are held fast -/
def frK (r : PI.Env) (js : List Nat) (K : Nat → Prop) : Nat → Prop := fun n => K n ∨ ∃ j, j ∈ js ∧ r[j]? = some (some (.ref n))
theorem mem_drop {C : Ck} {js : List Nat} {i : Nat} : i ∈ (C.drop js).M ↔ i ∈ C.M ∧ i ∉ js := by
  unfold Ck.drop
  simp
theorem Inv.freeze (I : Inv C L B N K h r w) {js : List Nat} (hj : ∀ j, j ∈ js → j ∈ C.O) : Inv (C.drop js) L B N (frK r js K) h r w where
  len := I.len
  sl := I.sl
  rd := I.rd
  mu := fun i hi n e => by
    obtain ⟨h1, h2⟩ := mem_drop.mp hi
    obtain ⟨m1, m2, m3⟩ := I.mu i h1 n e
    exact ⟨m1, fun z => z.elim m2 fun ⟨j, q, e'⟩ => m3 j (hj j q) (fun z => h2 (z ▸ q)) e', m3⟩
  MO := fun i hi => I.MO i (mem_drop.mp hi).1
  bN := I.bN
  bK := fun n z => z.elim (I.bK n) fun ⟨j, q, e'⟩ => I.lt e'
  BN := I.BN
  BL := I.BL
  loc := I.loc
  prm := fun i hi => I.prm i (mem_drop.mp hi).1
  hL := I.hL
/-- the names that may not be bound anew -/
def Fix (C : Ck) (r r' : PI.Env) : Prop := ∀ i, i ∈ C.O → (i ∉ C.M ∨ i ∈ C.P) → r'[i]? = r[i]?
theorem Fix.refl : Fix C r r := fun _ _ _ => rfl
theorem Fix.trans {r2 : PI.Env} (a : Fix C r r') (b : Fix C r' r2) : Fix C r r2 := fun i h1 h2 => (b i h1 h2).trans (a i h1 h2)
theorem Inv.thaw {js : List Nat} (I' : Inv (C.drop js) L B N' K' h' r' w') (I : Inv C L B N K h r w) (s : ∀ n, N n → N' n) (k : ∀ n, K n → K' n) (f : Fix (C.drop js) r r') : Inv C L B N' K h' r' w' where
  len := I'.len
  sl := I'.sl
  rd := I'.rd
  mu := fun i hi n e => by
    by_cases hj : i ∈ js
    · have e0 : r[i]? = some (some (.ref n)) := by rw [← f i (I.MO i hi) (.inl fun z => (mem_drop.mp z).2 hj)]; exact e
      obtain ⟨m1, m2, m3⟩ := I.mu i hi n e0
      refine ⟨s n m1, m2, fun j hjO hne e' => ?_⟩
      by_cases hm : j ∈ (C.drop js).M
      · exact (I'.mu j hm n e').2.2 i (I.MO i hi) (fun z => hne z.symm) e
      · exact m3 j hjO hne (by rw [← f j hjO (.inl hm)]; exact e')
    · obtain ⟨m1, m2, m3⟩ := I'.mu i (mem_drop.mpr ⟨hi, hj⟩) n e
      exact ⟨m1, fun z => m2 (k n z), m3⟩
  MO := I.MO
  bN := I'.bN
  bK := fun n z => I'.bK n (k n z)
  BN := I'.BN
  BL := I'.BL
  loc := I'.loc
  prm := fun i hi hp n e => by
    have e0 : r[i]? = some (some (.ref n)) := by rw [← f i (I.MO i hi) (.inr hp)]; exact e
    exact I.prm i hi hp n e0
  hL := I'.hL
theorem Fix.drop {js : List Nat} (f : Fix (C.drop js) r r') : Fix C r r' := fun i h1 h2 => f i h1 (h2.imp (fun z y => z (mem_drop.mp y).1) id)
theorem frz_mem {e : CE} {i : Nat} (hi : i ∈ frz C e) : slotOf e = some i ∧ i ∈ C.O := by
  unfold frz at hi
  cases z : slotOf e with
  | none => rw [z] at hi; simp at hi
  | some j =>
    rw [z] at hi
    dsimp only at hi
    split at hi
    · rename_i q; simp at hi; subst hi; exact ⟨rfl, by simpa using q⟩
    · simp at hi
theorem slot_var {e : CE} {i : Nat} (h : slotOf e = some i) : e = .var i := by
  cases e <;> first | (cases h; done) | skip
  cases h; rfl
/-! ### runs side by side -/
def Ac {α β : Type} (m : Rv α) (m' : Res β) (Q : α → VE → β → VH → Prop) (E : VH → Prop) : Prop := match m with
  | .ok a w => ∃ b h, m' = .ok b h ∧ Q a w b h
  | .exc c => ∃ h, m' = .exc c h ∧ E h
  | .stuck => True
section
variable {α β γ δ : Type} {Q : α → VE → β → VH → Prop} {E E' : VH → Prop} {Q' : γ → VE → δ → VH → Prop}
theorem Ac.ok {a : α} {w : VE} {b : β} {h : VH} (q : Q a w b h) : Ac (.ok a w) (.ok b h) Q E := ⟨b, h, rfl, q⟩
theorem Ac.ok' {a : α} {w : VE} {m' : Res β} {b : β} {h : VH} (e : m' = .ok b h) (q : Q a w b h) : Ac (.ok a w) m' Q E := ⟨b, h, e, q⟩
theorem Ac.stuck {m' : Res β} : Ac (.stuck : Rv α) m' Q E := trivial
theorem Ac.bind {m : Rv α} {m' : Res β} {k : α → VE → Rv γ} {k' : β → VH → Res δ} (x : Ac m m' Q E) (f : ∀ a w b h, Q a w b h → Ac (k a w) (k' b h) Q' E') (g : ∀ h, E h → E' h) : Ac (bd m k) (bnd m' k') Q' E' := by
  cases m with
  | ok a w =>
    obtain ⟨b, h, e, q⟩ := x
    rw [e]
    exact f a w b h q
  | exc c =>
    obtain ⟨h, e, q⟩ := x
    rw [e]
    exact ⟨h, rfl, g h q⟩
  | stuck => trivial
theorem Ac.bindN {m : Rv α} {m' : Res β} {k : α → VE → Rv γ} {k' : β → VH → Res δ} (x : Ac m m' Q E) (f : ∀ a w b h, Q a w b h → Ac (k a w) (k' b h) Q' E') : Ac (bdN m k) (bndN m' k') Q' E' := by
  cases m with
  | ok a w =>
    obtain ⟨b, h, e, q⟩ := x
    rw [e]
    exact f a w b h q
  | exc c => trivial
  | stuck => trivial
theorem Ac.op {o : Option γ} {k : γ → Rv α} {m' : Res β} (f : ∀ a, o = some a → Ac (k a) m' Q E) : Ac (op o k) m' Q E := by
  cases o with
  | none => trivial
  | some a => exact f a rfl
theorem Ac.g1 {c : Prop} [Decidable c] {k : Unit → Rv α} {m' : Res β} (f : c → Ac (k ()) m' Q E) : Ac (PV.op (g1 c ()) k) m' Q E := by
  unfold PV.g1
  split
  · rename_i q; exact f q
  · trivial
theorem Ac.isI {v : Vv} {k : Int → Rv α} {m' : Res β} (f : ∀ i, v = .int i → Ac (k i) m' Q E) : Ac (isI v k) m' Q E := by
  cases v <;> first | exact trivial | exact f _ rfl
theorem Ac.isB {v : Vv} {k : Bool → Rv α} {m' : Res β} (f : ∀ i, v = .bl i → Ac (k i) m' Q E) : Ac (isB v k) m' Q E := by
  cases v <;> first | exact trivial | exact f _ rfl
theorem Ac.isT {v : Vv} {k : List Vv → Rv α} {m' : Res β} (f : ∀ i, v = .tup i → Ac (k i) m' Q E) : Ac (isT v k) m' Q E := by
  cases v <;> first | exact trivial | exact f _ rfl
theorem Ac.isL {v : Vv} {k : List Vv → Rv α} {m' : Res β} (f : ∀ i, v = .lst i → Ac (k i) m' Q E) : Ac (isL v k) m' Q E := by
  cases v <;> first | exact trivial | exact f _ rfl
theorem Ac.cond {b : Bool} {m1 m2 : Rv α} {m' m2' : Res β} (f : b = true → Ac m1 m' Q E) (g : b = false → Ac m2 m2' Q E) : Ac (cond b m1 m2) (cond b m' m2') Q E := by
  cases b with
  | true => exact f rfl
  | false => exact g rfl
theorem Ac.imp {m : Rv α} {m' : Res β} {Q2 : α → VE → β → VH → Prop} (x : Ac m m' Q E) (f : ∀ a w b h, Q a w b h → Q2 a w b h) (g : ∀ h, E h → E' h) : Ac m m' Q2 E' := by
  cases m with
  | ok a w => obtain ⟨b, h, e, q⟩ := x; exact ⟨b, h, e, f _ _ _ _ q⟩
  | exc c => obtain ⟨h, e, q⟩ := x; exact ⟨h, e, g _ q⟩
  | stuck => trivial
end
end
end PV
end
section
set_option autoImplicit false
set_option maxRecDepth 100000
/-! Expressions over values say what expressions over the store say (own work). -/
namespace PV
open PySem PI
open L2 (Key)
/-! ### slots -/
theorem wipeE_get {r : PI.Env} {is : List Nat} {i : Nat} : (wipeE r is)[i]? = if i ∈ is then (if i < r.length then some none else none) else r[i]? := by
  have hl : ∀ is : List Nat, (wipeE r is).length = r.length := fun is => by
    induction is with
    | nil => rfl
    | cons j js ih => unfold wipeE; rw [List.length_set, ih]
  induction is with
  | nil => simp [wipeE]
  | cons j js ih =>
    unfold wipeE
    rw [List.getElem?_set, hl]
    by_cases e : j = i
    · subst e; simp
    · rw [if_neg e, ih]
      have : ¬ i = j := fun z => e z.symm
      simp [this]
theorem wipeE_len {r : PI.Env} : ∀ is : List Nat, (wipeE r is).length = r.length := fun is => by
    induction is with
    | nil => rfl
    | cons j js ih => unfold wipeE; rw [List.length_set, ih]
theorem wipeW_len {w : VE} : ∀ is : List Nat, (wipeW w is).length = w.length := fun is => by
    induction is with
    | nil => rfl
    | cons j js ih => unfold wipeW; rw [List.length_set, ih]
theorem wipeW_get {w : VE} {is : List Nat} {i : Nat} : (wipeW w is)[i]? = if i ∈ is then (if i < w.length then some none else none) else w[i]? := by
  induction is with
  | nil => simp [wipeW]
  | cons j js ih =>
    unfold wipeW
    rw [List.getElem?_set, wipeW_len]
    by_cases e : j = i
    · subst e; simp
    · rw [if_neg e, ih]
      have : ¬ i = j := fun z => e z.symm
      simp [this]
theorem backW_len {w0 w : VE} : ∀ is : List Nat, (backW w0 w is).length = w.length := fun is => by
    induction is with
    | nil => rfl
    | cons j js ih => unfold backW; rw [List.length_set, ih]
theorem backW_get {w0 w : VE} {is : List Nat} {i : Nat} : (backW w0 w is)[i]? = if i ∈ is then (if i < w.length then some (getW w0 i) else none) else w[i]? := by
  induction is with
  | nil => simp [backW]
  | cons j js ih =>
    unfold backW
    rw [List.getElem?_set, backW_len]
    by_cases e : j = i
    · subst e; simp [getW]
    · rw [if_neg e, ih]
      have : ¬ i = j := fun z => e z.symm
      simp [this]
section
variable {C : Ck} {L : Nat} {B N N' K K' : Nat → Prop} {h h' : VH} {r r' : PI.Env} {w w' : VE}
theorem Inv.wipe (I : Inv C L B N K h r w) {is : List Nat} (hs : ∀ i, i ∈ is → i ∉ C.O) : Inv C L B N K h (wipeE r is) (wipeW w is) := by
  have ref : ∀ (i n : Nat), (wipeE r is)[i]? = some (some (.ref n)) → r[i]? = some (some (.ref n)) := fun i n e => by
    rw [wipeE_get] at e
    split at e
    · split at e <;> cases e
    · exact e
  exact {
    len := by rw [wipeE_len, wipeW_len]; exact I.len
    sl := fun i o u e1 e2 => by
      rw [wipeE_get] at e1
      rw [wipeW_get] at e2
      split at e1
      · rename_i q
        rw [if_pos q] at e2
        split at e1
        · split at e2
          · cases e1; cases e2; trivial
          · cases e2
        · cases e1
      · rename_i q
        rw [if_neg q] at e2
        exact I.sl i o u e1 e2
    rd := fun i hi n e => I.rd i hi n (ref i n e)
    mu := fun i hi n e => by
      obtain ⟨m1, m2, m3⟩ := I.mu i hi n (ref i n e)
      exact ⟨m1, m2, fun j hj hne e' => m3 j hj hne (ref j n e')⟩
    MO := I.MO, bN := I.bN, bK := I.bK, BN := I.BN, BL := I.BL
    loc := fun i hi hp n e => I.loc i hi hp n (ref i n e)
    prm := fun i hi hp n e => I.prm i hi hp n (ref i n e)
    hL := I.hL }
theorem Inv.set (I : Inv C L B N K h r w) {i : Nat} (hi : i ∉ C.O) {d : D} {v : Vv} (q : Rd h N d v) : Inv C L B N K h (r.set i (some d)) (w.set i (some v)) := by
  have ref : ∀ (j : Nat) (o : Option D), j ≠ i → (r.set i (some d))[j]? = some o → r[j]? = some o := fun j o hj e => by
    rw [List.getElem?_set_ne fun z => hj z.symm] at e; exact e
  exact {
    len := by rw [List.length_set, List.length_set]; exact I.len
    sl := fun j o u e1 e2 => by
      by_cases hj : j = i
      · subst hj
        rw [List.getElem?_set] at e1 e2
        simp only [if_true] at e1 e2
        split at e1
        · split at e2
          · cases e1; cases e2; exact q.sl
          · cases e2
        · cases e1
      · rw [List.getElem?_set_ne fun z => hj z.symm] at e1 e2
        exact I.sl j o u e1 e2
    rd := fun j hj n e => by
      by_cases hji : j = i
      · subst hji
        rw [List.getElem?_set] at e
        simp only [if_true] at e
        split at e
        · cases e; exact q.not
        · cases e
      · exact I.rd j hj n (ref j _ hji e)
    mu := fun j hj n e => by
      have hji : j ≠ i := fun z => hi (z ▸ I.MO j hj)
      obtain ⟨m1, m2, m3⟩ := I.mu j hj n (ref j _ hji e)
      exact ⟨m1, m2, fun k hk hne e' => m3 k hk hne (ref k _ (fun z => hi (z ▸ hk)) e')⟩
    MO := I.MO, bN := I.bN, bK := I.bK, BN := I.BN, BL := I.BL
    loc := fun j hj hp n e => I.loc j hj hp n (ref j _ (fun z => hi (z ▸ hj)) e)
    prm := fun j hj hp n e => I.prm j hj hp n (ref j _ (fun z => hi (z ▸ I.MO j hj)) e)
    hL := I.hL }
/-- an owned object is changed -/
theorem Inv.change (I : Inv C L B N K h r w) {i n : Nat} (hi : i ∈ C.M) (e : r[i]? = some (some (.ref n))) {o : VO} {v : Vv} (q : RdO (Rd h N) o v) : Keep N K h (h.set n o) ∧ Inv C L B N K (h.set n o) r (w.set i (some v)) := by
  obtain ⟨m1, m2, m3⟩ := I.mu i hi n e
  have k : Keep N K h (h.set n o) := .set m1 m2
  have hn := I.lt e
  refine ⟨k, ?_⟩
  have sv : Sl (h.set n o) N (.ref n) v := by
    refine Sl.ob (o := o) (by rw [List.getElem?_set_self hn]) ?_
    unfold RdO at q ⊢
    split
    · exact q.imp fun _ _ z => z.kp k
    · exact q.imp fun _ _ z => ⟨z.1, z.2.kp k⟩
    · exact q.imp fun _ _ z => ⟨z.1, z.2.kp k⟩
    · split at q <;> first | exact q.elim | (rename_i h1 h2 h3; first | exact (h1 _ _ rfl rfl).elim | exact (h2 _ _ rfl rfl).elim | exact (h3 _ _ rfl rfl).elim)
  exact {
    len := by rw [List.length_set]; exact I.len
    sl := fun j o' u e1 e2 => by
      by_cases hj : j = i
      · subst hj
        rw [e] at e1
        cases e1
        rw [List.getElem?_set] at e2
        simp only [if_true] at e2
        split at e2
        · cases e2; exact sv
        · cases e2
      · rw [List.getElem?_set_ne fun z => hj z.symm] at e2
        have := I.sl j o' u e1 e2
        cases o' with
        | none => cases u with
          | none => trivial
          | some v => exact this.elim
        | some d => cases u with
          | none => exact this.elim
          | some v' =>
            refine Sl.to (fun _ _ z => Rd.kp z k) (fun m o2 e' z => ?_) this
            subst e'
            have : n ≠ m := fun z' => by
              subst z'
              by_cases hO : j ∈ C.O
              · exact m3 j hO hj e1
              · exact I.rd j hO n e1 m1
            rw [List.getElem?_set_ne this]
            exact z
    rd := I.rd, mu := I.mu, MO := I.MO
    bN := fun n z => by rw [List.length_set]; exact I.bN n z
    bK := fun n z => by rw [List.length_set]; exact I.bK n z
    BN := I.BN, BL := I.BL, loc := I.loc, prm := I.prm
    hL := by rw [List.length_set]; exact I.hL }
structure Good (C : Ck) (L : Nat) (B N K : Nat → Prop) (h : VH) (r : PI.Env) (fr : Bool) (d : D) (v : Vv) (h' : VH) (w' : VE) : Prop where
  rd : Rd h' N d v
  kp : Keep N K h h'
  iv : Inv C L B N K h' r w'
  fr : fr = true → ∀ n, d = .ref n → h.length ≤ n ∧ Inv C L B (add N n) K h' r w' ∧ Sl h' (add N n) d v
theorem Good.flat {fr : Bool} {d : D} {v : Vv} (rd : Rd h' N d v) (k : Keep N K h h') (I : Inv C L B N K h' r w') (f : ∀ n, d ≠ .ref n) : Good C L B N K h r fr d v h' w' := ⟨rd, k, I, fun _ n e => (f n e).elim⟩
theorem RdO.imp {R S : D → Vv → Prop} {o : VO} {v : Vv} (f : ∀ d v, R d v → S d v) (q : RdO R o v) : RdO S o v := by
  unfold RdO at q ⊢
  split
  · exact A2.imp q f
  · exact A2.imp q fun _ _ z => ⟨z.1, f _ _ z.2⟩
  · exact A2.imp q fun _ _ z => ⟨z.1, f _ _ z.2⟩
  · split at q <;> first | exact q.elim | (rename_i h1 h2 h3; first | exact (h1 _ _ rfl rfl).elim | exact (h2 _ _ rfl rfl).elim | exact (h3 _ _ rfl rfl).elim)
theorem Good.new {fr : Bool} {d : D} {v : Vv} {h1 : VH} (k : Keep N K h h1) (I : Inv C L B N K h1 r w') (q : NewR h1 N d v h') : Good C L B N K h r fr d v h' w' := by
  cases q with
  | flat e rd f => subst e; exact .flat rd k I f
  | obj o e ed ro =>
    subst e
    subst ed
    have kk : Keep N K h1 (h1 ++ [o]) := .app
    have s : Sl (h1 ++ [o]) (add N h1.length) (.ref h1.length) v := Sl.ob (o := o) (by simp) (ro.imp fun _ _ z => z.up (Nat.le_refl _) kk)
    refine ⟨?_, k.trans kk, I.app _, fun _ n e => ?_⟩
    · exact (s.anti fun n z => .inl z).rd fun n e z => by cases e; exact absurd (I.bN _ z) (by omega)
    · cases e
      exact ⟨k.1, I.alloc o, s⟩
end
/-! ### calls -/
def OutR (io : List Nat) (N : Nat → Prop) (h : VH) (ds : List D) (os : VE) : Prop := (∀ p d, p ∈ io → ds[p]? = some d → ∃ v, os[p]? = some (some v) ∧ Sl h N d v) ∧ ∀ p, p ∉ io → getW os p = none
structure Pre (a : An) (N K : Nat → Prop) (h : VH) (ds : List D) (vs : List Vv) : Prop where
  len : ds.length = vs.length
  sl : ∀ (p : Nat) d v, ds[p]? = some d → vs[p]? = some v → Sl h N d v
  pl : ∀ p n, p ∉ a.io → p ∉ a.ne → ds[p]? = some (.ref n) → ¬ N n
  io : ∀ p, p ∈ a.io → ∀ n, ds[p]? = some (.ref n) → N n ∧ ¬ K n ∧ ∀ q, (q ∈ a.io ∨ q ∈ a.ne) → q ≠ p → ds[q]? ≠ some (.ref n)
  bN : ∀ n, N n → n < h.length
  bK : ∀ n, K n → n < h.length
structure Post (a : An) (N K : Nat → Prop) (h : VH) (ds : List D) (d : D) (v : Vv) (os : VE) (h' : VH) : Prop where
  rd : Rd h' N d v
  kp : Keep N K h h'
  out : OutR a.io N h' ds os
  fr : a.fr = true → ∀ n, d = .ref n → h.length ≤ n ∧ Sl h' (add N n) d v ∧ OutR a.io (add N n) h' ds os
def FOK (Fv : FnsV) (F : Fns) (an : Nat → An) : Prop := ∀ (f : Nat) (N K : Nat → Prop) (h : VH) (ds : List D) (vs : List Vv), Pre (an f) N K h ds vs →
  Ac (Fv f vs) (F f ds h) (fun v os d h' => Post (an f) N K h ds d v os h') (fun h' => Keep N K h h')
section
variable (Fv : FnsV) (F : Fns) (an : Nat → An)
def EOK (e : CE) : Prop := ∀ (C : Ck) (L : Nat) (B N K : Nat → Prop) (h : VH) (r : PI.Env) (w : VE), C.an = an → chE e C = true → Inv C L B N K h r w →
  Ac (vE Fv e w) (evE F e r h) (fun v w' d h' => Good C L B N K h r (freshE C e) d v h' w') (fun h' => Keep N K h h')
def OOK (e : CO) : Prop := ∀ (C : Ck) (L : Nat) (B N K : Nat → Prop) (h : VH) (r : PI.Env) (w : VE), C.an = an → chO e C = true → Inv C L B N K h r w →
  Ac (vO Fv e w) (evO F e r h) (fun v w' d h' => v = d ∧ Keep N K h h' ∧ Inv C L B N K h' r w') (fun h' => Keep N K h h')
def EsOK (e : CEs) : Prop := ∀ (C : Ck) (L : Nat) (B N K : Nat → Prop) (h : VH) (r : PI.Env) (w : VE), C.an = an → chEs e C = true → Inv C L B N K h r w →
  Ac (vEs Fv e w) (evEs F e r h) (fun v w' d h' => A2 (Rd h' N) d v ∧ d.length = lenEs e ∧ Keep N K h h' ∧ Inv C L B N K h' r w') (fun h' => Keep N K h h')
/-- arguments -/
def ArgR (C : Ck) (io ne : List Nat) (r : PI.Env) (N K : Nat → Prop) (h : VH) : Nat → CEs → List D → List Vv → Prop
  | _, .nil, ds, vs => ds = [] ∧ vs = []
  | p, .cons e es, ds, vs => ∃ d ds' v vs', ds = d :: ds' ∧ vs = v :: vs' ∧ Sl h N d v ∧ (∀ n, d = .ref n → ¬ N n ∨ K n) ∧ ((∀ n, d = .ref n → ¬ N n) ∨ ((p ∈ io ∨ p ∈ ne) ∧ ∃ j, slotOf e = some j ∧ j ∈ C.O)) ∧ (∀ j, slotOf e = some j → r[j]? = some (some d)) ∧ ArgR C io ne r N K h (p + 1) es ds' vs'
def AsOK (e : CEs) : Prop := ∀ (C : Ck) (L : Nat) (B N K : Nat → Prop) (h : VH) (r : PI.Env) (w : VE) (M io ne : List Nat) (p : Nat), C.an = an → chAs e C M io ne p = true → (∀ i, i ∈ M → i ∈ C.O) → (∀ i, i ∈ bares C io ne p e → ∀ n, r[i]? = some (some (.ref n)) → K n) → Inv C L B N K h r w →
  Ac (vEs Fv e w) (evEs F e r h) (fun v w' d h' => ArgR C io ne r N K h' p e d v ∧ Keep N K h h' ∧ Inv C L B N K h' r w') (fun h' => Keep N K h h')
def IOK (e : CI) : Prop := ∀ (C : Ck) (L : Nat) (B N K : Nat → Prop) (h : VH) (r : PI.Env) (w : VE), C.an = an → chI e C = true → Inv C L B N K h r w →
  Ac (vI Fv e w) (evI F e r h) (fun v w' s h' => A2 (Rd h' N) s.1 v ∧ Keep N K h h' ∧ Inv C L B N K h' r w' ∧ ∀ h2, Keep N (frK r (frzI C e) K) h' h2 → s.2 h2 = true) (fun h' => Keep N K h h')
def GOK (g : TG) : Prop := ∀ (C : Ck) (L : Nat) (B N K : Nat → Prop) (h : VH) (r : PI.Env) (w : VE) (d : D) (v : Vv), C.an = an → chG g C = true → Inv C L B N K h r w → Rd h N d v →
  Ac (aG Fv g v w) (asgG F g d r h) (fun _ w' r' h' => Keep N K h h' ∧ Inv C L B N K h' r' w' ∧ r'.length = r.length ∧ ∀ i, i ∉ slotsG g → r'[i]? = r[i]?) (fun h' => Keep N K h h')
def GsOK (g : TGs) : Prop := ∀ (C : Ck) (L : Nat) (B N K : Nat → Prop) (h : VH) (r : PI.Env) (w : VE) (d : List D) (v : List Vv), C.an = an → chGs g C = true → Inv C L B N K h r w → A2 (Rd h N) d v →
  Ac (aGs Fv g v w) (asgGs F g d r h) (fun _ w' r' h' => Keep N K h h' ∧ Inv C L B N K h' r' w' ∧ r'.length = r.length ∧ ∀ i, i ∉ slotsGs g → r'[i]? = r[i]?) (fun h' => Keep N K h h')
end
section
variable {Fv : FnsV} {F : Fns} {an : Nat → An}
variable {C : Ck} {L : Nat} {B N K : Nat → Prop} {h : VH} {r : PI.Env} {w : VE}
theorem mem_of {l : List Nat} {i : Nat} (h : l.contains i = true) : i ∈ l := by simpa using h
theorem not_mem_of {l : List Nat} {i : Nat} (h : (!l.contains i) = true) : i ∉ l := by simpa using h
theorem evE_var {i : Nat} {d : D} (e : r[i]? = some (some d)) : evE F (.var i) r h = .ok d h := by
  simp only [evE, e]
  rfl
/-- a bare name, or what makes no second sight -/
theorem aok {e : CE} (H : EOK Fv F an e) (ha : C.an = an) (c : (isVar e || chE e C) = true) (I : Inv C L B N K h r w) :
    Ac (vE Fv e w) (evE F e r h) (fun v w' d h' => Sl h' N d v ∧ Keep N K h h' ∧ Inv C L B N K h' r w' ∧ (∀ n, d = .ref n → ¬ N n ∨ frK r (frz C e) K n) ∧ (chE e C = true → Rd h' N d v)) (fun h' => Keep N K h h') := by
  by_cases hc : chE e C = true
  · refine (H C L B N K h r w ha hc I).imp (fun v w' d h' g => ⟨g.rd.sl, g.kp, g.iv, fun n e => .inl (by have := g.rd; subst e; exact this.not), fun _ => g.rd⟩) fun _ z => z
  · have hv : isVar e = true := by simpa [hc] using c
    unfold isVar at hv
    obtain ⟨i, hi⟩ := Option.isSome_iff_exists.mp hv
    have := slot_var hi
    subst this
    have hO : i ∈ C.O := by simpa [chE] using hc
    simp only [vE]
    refine Ac.op fun v ev => ?_
    obtain ⟨d, e1, s⟩ := I.get ev
    refine Ac.ok' (evE_var e1) ⟨s, .refl, I, fun n e => .inr (.inr ⟨i, ?_, by rw [e1, e]⟩), fun z => (hc z).elim⟩
    unfold frz
    simp [slotOf, hO]
theorem frz_O {e : CE} {i : Nat} (hi : i ∈ frz C e) : i ∈ C.O := (frz_mem hi).2
/-- first a, then b, while what a gave is held fast -/
theorem two {α β : Type} {a b : CE} (Ha : EOK Fv F an a) (Hb : EOK Fv F an b) (ha : C.an = an) (ca : (isVar a || chE a C) = true) (cb : (isVar b || chE b (C.drop (frz C a))) = true) (I : Inv C L B N K h r w)
    {k : Vv → Vv → VE → Rv α} {k' : D → D → VH → Res β} {Q : α → VE → β → VH → Prop} (f : ∀ x y w2 dx dy h2, Sl h2 N dx x → Sl h2 N dy y → (chE a C = true → Rd h2 N dx x) → (chE b (C.drop (frz C a)) = true → Rd h2 N dy y) → (∀ n, dx = .ref n → ¬ N n ∨ frK r (frz C a) K n) → (∀ n, dy = .ref n → ¬ N n ∨ frK r (frz C a ++ frz C b) K n) → Keep N K h h2 → Inv C L B N K h2 r w2 → Ac (k x y w2) (k' dx dy h2) Q (fun h' => Keep N K h h')) :
    Ac (bd (vE Fv a w) fun x w => bd (vE Fv b w) fun y w => k x y w) (bnd (evE F a r h) fun x h => bnd (evE F b r h) fun y h => k' x y h) Q (fun h' => Keep N K h h') := by
  refine (aok Ha ha ca I).bind (fun x w1 dx h1 ⟨s1, k1, I1, z1, q1⟩ => ?_) fun _ z => z
  have I1' := I1.freeze (js := frz C a) fun j hj => frz_O hj
  refine (aok Hb (show (C.drop (frz C a)).an = an from ha) cb I1').bind (fun y w2 dy h2 ⟨s2, k2, I2, z2, q2⟩ => ?_) fun h' z => k1.trans (z.weak (fun n _ z => .inl z) fun n _ z => .inr (.inl z))
  have kk : Keep N K h1 h2 := k2.weak (fun n _ z => .inl z) fun n _ z => .inr (.inl z)
  refine f x y w2 dx dy h2 (s1.kp k2 z1) s2 (fun c => (q1 c).kp k2) q2 z1 (fun n e => (z2 n e).imp id fun z => ?_) (k1.trans kk) (I2.thaw I1 (fun _ z => z) (fun _ z => .inl z) .refl)
  rcases z with (z | ⟨j, hj, e⟩) | ⟨j, hj, e⟩
  · exact .inl z
  · exact .inr ⟨j, List.mem_append.mpr (.inl hj), e⟩
  · exact .inr ⟨j, List.mem_append.mpr (.inr (show j ∈ frz C b from hj)), e⟩
end
end PV
end
section
set_option autoImplicit false
set_option maxRecDepth 100000
/-! Each expression (own work). -/
namespace PV
open PySem PI
open L2 (Key)
section
variable {Fv : FnsV} {F : Fns} {an : Nat → An}
theorem lit_rd {h : VH} {N : Nat → Prop} (l : Lit) : Rd h N l.d (Lv l) := by
  cases l with
  | non => exact .non
  | bl b => exact .bl b
  | int i => exact .int i
  | str x => exact .str x
theorem lit_flat (l : Lit) (n : Nat) : l.d ≠ .ref n := by cases l <;> exact nofun
theorem o_var {i : Nat} : EOK Fv F an (.var i) := by
  intro C L B N K h r w ha c I
  simp only [vE]
  refine Ac.op fun v ev => ?_
  obtain ⟨d, e1, s⟩ := I.plain (not_mem_of (by simpa only [chE] using c)) ev
  exact Ac.ok' (evE_var e1) ⟨s, .refl, I, nofun⟩
theorem o_lit {l : Lit} : EOK Fv F an (.lit l) := by
  intro C L B N K h r w ha c I
  simp only [vE, evE]
  exact Ac.ok (.flat (lit_rd l) .refl I (lit_flat l))
theorem o_glob {x : Str} {l : Lit} : EOK Fv F an (.glob x l) := by
  intro C L B N K h r w ha c I
  simp only [vE, evE]
  exact Ac.ok (.flat (lit_rd l) .refl I (lit_flat l))
theorem o_tup {es : CEs} (H : EsOK Fv F an es) : EOK Fv F an (.tup es) := by
  intro C L B N K h r w ha c I
  simp only [chE, Bool.and_eq_true, decide_eq_true_eq] at c
  simp only [vE, evE]
  refine (H C L B N K h r w ha c.1 I).bind (fun vs w1 ds h1 ⟨a, l, k, I1⟩ => ?_) fun _ z => z
  obtain ⟨d', h', e, nr⟩ := newT_ok a (by rw [← a.1, l]; exact c.2)
  exact Ac.ok' e (.new k I1 nr)
theorem o_lst {es : CEs} (H : EsOK Fv F an es) : EOK Fv F an (.lst es) := by
  intro C L B N K h r w ha c I
  simp only [chE, Bool.and_eq_true, decide_eq_true_eq] at c
  simp only [vE, evE]
  refine (H C L B N K h r w ha c.1 I).bind (fun vs w1 ds h1 ⟨a, l, k, I1⟩ => ?_) fun _ z => z
  obtain ⟨d', h', e, nr⟩ := newL_ok a (by rw [← a.1, l]; exact c.2)
  exact Ac.ok' e (.new k I1 nr)
theorem o_dnK : EOK Fv F an .dnK := by
  intro C L B N K h r w ha c I
  simp only [vE, evE]
  exact Ac.ok (.new .refl I (.obj (.dK false []) rfl rfl .nil))
theorem o_dnT : EOK Fv F an .dnT := by
  intro C L B N K h r w ha c I
  simp only [vE, evE]
  exact Ac.ok (.new .refl I (.obj (.dT false []) rfl rfl .nil))
theorem o_b1 {b : B1} {a : CE} (H : EOK Fv F an a) : EOK Fv F an (.b1 b a) := by
  intro C L B N K h r w ha c I
  simp only [chE] at c
  simp only [vE, evE]
  refine (aok H ha c I).bind (fun v w1 d h1 ⟨s, k, I1, z, _⟩ => ?_) fun _ z => z
  refine Ac.op fun u e => ?_
  obtain ⟨d', h', e1, nr⟩ := b1_ok s e
  exact Ac.ok' e1 (.new k I1 nr)
theorem o_b2 {b : B2} {a c' : CE} (H : EOK Fv F an a) (H' : EOK Fv F an c') : EOK Fv F an (.b2 b a c') := by
  intro C L B N K h r w ha c I
  simp only [chE, Bool.and_eq_true] at c
  simp only [vE, evE]
  refine (H C L B N K h r w ha c.1 I).bind (fun v w1 d h1 g => ?_) fun _ z => z
  refine (H' C L B N K h1 r w1 ha c.2 g.iv).bind (fun v' w2 d' h2 g' => ?_) fun _ z => g.kp.trans z
  refine Ac.op fun u e => ?_
  obtain ⟨a, e1, q⟩ := b2_ok (g.rd.kp g'.kp).sl g'.rd.sl e
  exact Ac.ok' e1 ⟨q, g.kp.trans g'.kp, g'.iv, nofun⟩
theorem bl_ok {C : Ck} {L : Nat} {B N K : Nat → Prop} {h h' : VH} {r : PI.Env} {w' : VE} {fr : Bool} (b : Bool) (k : Keep N K h h') (I : Inv C L B N K h' r w') : Good C L B N K h r fr (.bl b) (.bl b) h' w' := .flat (.bl b) k I nofun
theorem o_isi {a : CE} {t : Ty} (H : EOK Fv F an a) : EOK Fv F an (.isi a t) := by
  intro C L B N K h r w ha c I
  simp only [chE] at c
  simp only [vE, evE]
  refine (aok H ha c I).bind (fun v w1 d h1 ⟨s, k, I1, z, _⟩ => ?_) fun _ z => z
  refine Ac.ok' ?_ (bl_ok _ k I1)
  rw [isiOk_ok s, isi_ok s]
  rfl
theorem o_bin {o : Op} {a b : CE} (H : EOK Fv F an a) (H' : EOK Fv F an b) : EOK Fv F an (.bin o a b) := by
  intro C L B N K h r w ha c I
  simp only [chE, Bool.and_eq_true] at c
  simp only [vE, evE]
  refine two H H' ha c.1 c.2 I fun x y w2 dx dy h2 sx sy _ _ _ _ k I2 => ?_
  refine Ac.op fun u e => ?_
  obtain ⟨d', h', e1, nr⟩ := bin_ok sx sy e
  exact Ac.ok' e1 (.new k I2 nr)
theorem o_neg {a : CE} (H : EOK Fv F an a) : EOK Fv F an (.neg a) := by
  intro C L B N K h r w ha c I
  simp only [chE] at c
  simp only [vE, evE]
  refine (H C L B N K h r w ha c I).bind (fun v w1 d h1 g => ?_) fun _ z => z
  refine Ac.isI fun i e => ?_
  subst e
  have q := g.rd
  cases q
  exact Ac.ok (.flat (.int _) g.kp g.iv nofun)
theorem opt_ac {α β γ : Type} {o : Option γ} {x : γ} (e : o = some x) {m : Rv α} {f : γ → Res β} {Q : α → VE → β → VH → Prop} {E : VH → Prop} (q : Ac m (f x) Q E) : Ac m (opt o f) Q E := by rw [e]; exact q
theorem o_cmp {o : Cp} {a b : CE} (H : EOK Fv F an a) (H' : EOK Fv F an b) : EOK Fv F an (.cmp o a b) := by
  intro C L B N K h r w ha c I
  have gen : (isVar a || chE a C) = true → (isVar b || chE b (C.drop (frz C a))) = true → o ≠ .isin ∧ o ≠ .notin → Ac (vE Fv (.cmp o a b) w) (evE F (.cmp o a b) r h) (fun v w' d h' => Good C L B N K h r (freshE C (.cmp o a b)) d v h' w') (fun h' => Keep N K h h') := by
    intro c1 c2 hne
    simp only [vE, evE]
    refine two H H' ha c1 c2 I fun x y w2 dx dy h2 sx sy _ _ _ _ k I2 => ?_
    refine Ac.op fun u e => opt_ac (cmp_ok sx sy (.inr hne) e) ?_
    exact Ac.ok (bl_ok _ k I2)
  have isn : (chE a C && (isVar b || chE b C)) = true → Ac (vE Fv (.cmp o a b) w) (evE F (.cmp o a b) r h) (fun v w' d h' => Good C L B N K h r (freshE C (.cmp o a b)) d v h' w') (fun h' => Keep N K h h') := by
    intro c
    simp only [Bool.and_eq_true] at c
    simp only [vE, evE]
    refine (H C L B N K h r w ha c.1 I).bind (fun v w1 d h1 g => ?_) fun _ z => z
    refine (aok H' ha c.2 g.iv).bind (fun v' w2 d' h2 ⟨s, k, I1, z, _⟩ => ?_) fun _ z => g.kp.trans z
    refine Ac.op fun u e => opt_ac (cmp_ok (g.rd.kp k).sl s (.inl (g.rd.kp k)) e) ?_
    exact Ac.ok (bl_ok _ (g.kp.trans k) I1)
  cases o with
  | isin => exact isn (by simpa only [chE] using c)
  | notin => exact isn (by simpa only [chE] using c)
  | _ => simp only [chE, Bool.and_eq_true] at c; exact gen c.1 c.2 ⟨nofun, nofun⟩
theorem o_chain {o o' : Cp} {a b c' : CE} (H : EOK Fv F an a) (H' : EOK Fv F an b) (H2 : EOK Fv F an c') : EOK Fv F an (.chain o o' a b c') := by
  intro C L B N K h r w ha c I
  simp only [chE, Bool.and_eq_true, decide_eq_true_eq] at c
  obtain ⟨⟨⟨⟨⟨⟨c1, c2⟩, c3⟩, c4⟩, c5⟩, c6⟩, c7⟩ := c
  simp only [vE, evE]
  refine (H C L B N K h r w ha c5 I).bind (fun v w1 d h1 g => ?_) fun _ z => z
  refine (H' C L B N K h1 r w1 ha c6 g.iv).bind (fun v' w2 d' h2 g' => ?_) fun _ z => g.kp.trans z
  have k12 := g.kp.trans g'.kp
  refine Ac.op fun u e => opt_ac (cmp_ok (g.rd.kp g'.kp).sl g'.rd.sl (.inr ⟨c1, c2⟩) e) ?_
  refine Ac.cond (fun _ => ?_) fun _ => Ac.ok (bl_ok _ k12 g'.iv)
  refine (H2 C L B N K h2 r w2 ha c7 g'.iv).bind (fun v2 w3 d2 h3 g2 => ?_) fun _ z => k12.trans z
  refine Ac.op fun u e => opt_ac (cmp_ok (g'.rd.kp g2.kp).sl g2.rd.sl (.inr ⟨c3, c4⟩) e) ?_
  exact Ac.ok (bl_ok _ (k12.trans g2.kp) g2.iv)
theorem o_isN {a : CE} (H : EOK Fv F an a) : EOK Fv F an (.isN a) := by
  intro C L B N K h r w ha c I
  simp only [chE] at c
  simp only [vE, evE]
  refine (aok H ha c I).bind (fun v w1 d h1 ⟨s, k, I1, z, _⟩ => ?_) fun _ z => z
  rw [isNon_ok s]
  exact Ac.ok (bl_ok _ k I1)
theorem o_notN {a : CE} (H : EOK Fv F an a) : EOK Fv F an (.notN a) := by
  intro C L B N K h r w ha c I
  simp only [chE] at c
  simp only [vE, evE]
  refine (aok H ha c I).bind (fun v w1 d h1 ⟨s, k, I1, z, _⟩ => ?_) fun _ z => z
  rw [isNon_ok s]
  exact Ac.ok (bl_ok _ k I1)
theorem o_isB {k' : Bool} {a : CE} (H : EOK Fv F an a) : EOK Fv F an (.isB k' a) := by
  intro C L B N K h r w ha c I
  simp only [chE] at c
  simp only [vE, evE]
  refine (H C L B N K h r w ha c I).bind (fun v w1 d h1 g => ?_) fun _ z => z
  refine Ac.isB fun i e => ?_
  subst e
  have q := g.rd
  cases q
  exact Ac.ok (bl_ok _ g.kp g.iv)
theorem o_notB {k' : Bool} {a : CE} (H : EOK Fv F an a) : EOK Fv F an (.notB k' a) := by
  intro C L B N K h r w ha c I
  simp only [chE] at c
  simp only [vE, evE]
  refine (H C L B N K h r w ha c I).bind (fun v w1 d h1 g => ?_) fun _ z => z
  refine Ac.isB fun i e => ?_
  subst e
  have q := g.rd
  cases q
  exact Ac.ok (bl_ok _ g.kp g.iv)
theorem o_and {a b : CE} (H : EOK Fv F an a) (H' : EOK Fv F an b) : EOK Fv F an (.and_ a b) := by
  intro C L B N K h r w ha c I
  simp only [chE, Bool.and_eq_true] at c
  simp only [vE, evE]
  refine (H C L B N K h r w ha c.1 I).bind (fun v w1 d h1 g => ?_) fun _ z => z
  refine Ac.isB fun i e => ?_
  subst e
  have q := g.rd
  cases q
  refine Ac.cond (fun _ => ?_) fun _ => Ac.ok (bl_ok _ g.kp g.iv)
  exact (H' C L B N K h1 r w1 ha c.2 g.iv).imp (fun v' w2 d' h2 g' => ⟨g'.rd, g.kp.trans g'.kp, g'.iv, nofun⟩) fun _ z => g.kp.trans z
theorem o_or {a b : CE} (H : EOK Fv F an a) (H' : EOK Fv F an b) : EOK Fv F an (.or_ a b) := by
  intro C L B N K h r w ha c I
  simp only [chE, Bool.and_eq_true] at c
  simp only [vE, evE]
  refine (H C L B N K h r w ha c.1 I).bind (fun v w1 d h1 g => ?_) fun _ z => z
  refine Ac.isB fun i e => ?_
  subst e
  have q := g.rd
  cases q
  refine Ac.cond (fun _ => Ac.ok (bl_ok _ g.kp g.iv)) fun _ => ?_
  exact (H' C L B N K h1 r w1 ha c.2 g.iv).imp (fun v' w2 d' h2 g' => ⟨g'.rd, g.kp.trans g'.kp, g'.iv, nofun⟩) fun _ z => g.kp.trans z
theorem o_not {a : CE} (H : EOK Fv F an a) : EOK Fv F an (.not_ a) := by
  intro C L B N K h r w ha c I
  simp only [chE] at c
  simp only [vE, evE]
  refine (aok H ha c I).bind (fun v w1 d h1 ⟨s, k, I1, z, _⟩ => ?_) fun _ z => z
  exact Ac.op fun u e => opt_ac (tru_ok s e) (Ac.ok (bl_ok _ k I1))
theorem o_ix {a i : CE} (H : EOK Fv F an a) (H' : EOK Fv F an i) : EOK Fv F an (.ix a i) := by
  intro C L B N K h r w ha c I
  simp only [chE, Bool.and_eq_true] at c
  simp only [vE, evE]
  refine two H H' ha c.1 (by rw [c.2]; simp) I fun x y w2 dx dy h2 sx sy _ qy _ _ k I2 => ?_
  refine Ac.op fun u e => ?_
  obtain ⟨a', e1, q⟩ := ix_ok sx (qy c.2) e
  exact Ac.ok' e1 ⟨q, k, I2, nofun⟩
theorem o_sl {a : CE} {lo hi : CO} (H : EOK Fv F an a) (Hl : OOK Fv F an lo) (Hh : OOK Fv F an hi) : EOK Fv F an (.sl a lo hi) := by
  intro C L B N K h r w ha c I
  simp only [chE, Bool.and_eq_true] at c
  simp only [vE, evE]
  refine (aok H ha c.1 I).bind (fun v w1 d h1 ⟨s, k, I1, z, _⟩ => ?_) fun _ z => z
  have I1' := I1.freeze (js := frz C a) fun j hj => frz_O hj
  have wk : ∀ {h2 h3 : VH}, Keep N (frK r (frz C a) K) h2 h3 → Keep N K h2 h3 := fun k => k.weak (fun n _ z => .inl z) fun n _ z => .inr (.inl z)
  refine (Hl (C.drop (frz C a)) L B N _ h1 r w1 ha c.2.1 I1').bind (fun l w2 l' h2 ⟨e1, k2, I2⟩ => ?_) fun _ z => k.trans (wk z)
  refine (Hh (C.drop (frz C a)) L B N _ h2 r w2 ha c.2.2 I2).bind (fun u w3 u' h3 ⟨e2, k3, I3⟩ => ?_) fun _ z => k.trans (wk (k2.trans z))
  subst e1
  subst e2
  refine Ac.op fun u e => ?_
  have k23 := k2.trans k3
  obtain ⟨d', h', e1, nr⟩ := sl_ok (s.kp k23 z) e
  exact Ac.ok' e1 (.new (k.trans (wk k23)) (I3.thaw I1 (fun _ z => z) (fun _ z => .inl z) .refl) nr)
theorem o_rvs {a : CE} (H : EOK Fv F an a) : EOK Fv F an (.rvs a) := by
  intro C L B N K h r w ha c I
  simp only [chE] at c
  simp only [vE, evE]
  refine (aok H ha c I).bind (fun v w1 d h1 ⟨s, k, I1, z, _⟩ => ?_) fun _ z => z
  refine Ac.isT fun i e => ?_
  subst e
  cases s
  rename_i ds q
  exact Ac.ok (.flat (Rd.tups q.reverse) k I1 nofun)
theorem lst_at {C : Ck} {L : Nat} {B N K : Nat → Prop} {h : VH} {r : PI.Env} {w : VE} (I : Inv C L B N K h r w) {i : Nat} {xs : List Vv} (e : lstW w i = some xs) : ∃ n ds, r[i]? = some (some (.ref n)) ∧ h[n]? = some (.lst ds) ∧ A2 (Rd h N) ds xs := by
  unfold lstW at e
  cases q : getW w i with
  | none => rw [q] at e; cases e
  | some v =>
    rw [q] at e
    obtain ⟨d, e1, s⟩ := I.get q
    cases s <;> first | (cases e; done) | skip
    cases e
    exact ⟨_, _, e1, ‹_›, ‹_›⟩
theorem o_app {o e : CE} (H : EOK Fv F an e) : EOK Fv F an (.app o e) := by
  intro C L B N K h r w ha c I
  simp only [chE, Bool.and_eq_true] at c
  simp only [vE]
  refine Ac.op fun i hi => ?_
  have := slot_var hi
  subst this
  have hM : i ∈ C.M := by simpa [slotOf] using c.1
  refine Ac.op fun xs0 e0 => ?_
  obtain ⟨n, ds0, er, eh, _⟩ := lst_at I e0
  simp only [evE, er, Option.bind_some, id, opt, bnd, isLst, eh, grd]
  refine (H C L B N K h r w ha c.2 I).bind (fun v w1 d h1 g => ?_) fun _ z => z
  refine Ac.op fun xs e1 => Ac.g1 fun hl => ?_
  obtain ⟨n', ds, er', eh', q⟩ := lst_at g.iv e1
  rw [er] at er'
  cases er'
  obtain ⟨k, I'⟩ := g.iv.change hM er (o := .lst (ds ++ [d])) (v := .lst (xs ++ [v])) (q.append (A2.nil.cons g.rd))
  refine Ac.ok' ?_ (.flat .non (g.kp.trans k) I' nofun)
  have hl' : ds.length < PI.lim := by rw [q.1, lm_eq]; exact hl
  simp only [asL, eh', decide_eq_true hl']
theorem o_ext {o e : CE} (H : EOK Fv F an e) : EOK Fv F an (.ext o e) := by
  intro C L B N K h r w ha c I
  simp only [chE, Bool.and_eq_true] at c
  simp only [vE]
  refine Ac.op fun i hi => ?_
  have := slot_var hi
  subst this
  have hM : i ∈ C.M := by simpa [slotOf] using c.1
  refine Ac.op fun xs0 e0 => ?_
  obtain ⟨n, ds0, er, eh, _⟩ := lst_at I e0
  simp only [evE, er, Option.bind_some, id, opt, bnd, isLst, eh, grd]
  refine (H C L B N K h r w ha c.2 I).bind (fun v w1 d h1 g => ?_) fun _ z => z
  refine Ac.op fun xs e1 => Ac.isL fun ys ey => Ac.g1 fun hl => ?_
  subst ey
  obtain ⟨n', ds, er', eh', q⟩ := lst_at g.iv e1
  rw [er] at er'
  cases er'
  have s := g.rd.sl
  cases s
  rename_i m es em qe
  obtain ⟨k, I'⟩ := g.iv.change hM er (o := .lst (ds ++ es)) (v := .lst (xs ++ ys)) (q.append qe)
  refine Ac.ok' ?_ (.flat .non (g.kp.trans k) I' nofun)
  have hl' : ds.length + es.length ≤ PI.lim := by rw [q.1, qe.1, lm_eq]; exact hl
  simp only [asL, eh', em, decide_eq_true hl']
theorem o_pop {o : CE} : EOK Fv F an (.pop o) := by
  intro C L B N K h r w ha c I
  simp only [chE] at c
  simp only [vE]
  refine Ac.op fun i hi => ?_
  have := slot_var hi
  subst this
  have hM : i ∈ C.M := by simpa [slotOf] using c
  refine Ac.op fun xs e0 => Ac.op fun y ey => ?_
  obtain ⟨n, ds, er, eh, q⟩ := lst_at I e0
  obtain ⟨d, ed, qd⟩ := q.get ey
  rw [← q.1] at ed
  obtain ⟨k, I'⟩ := I.change hM er (o := .lst ds.dropLast) (v := .lst xs.dropLast) q.dropLast
  refine Ac.ok' (b := d) (h := h.set n (.lst ds.dropLast)) ?_ ⟨qd.kp k, k, I', nofun⟩
  simp only [evE, er, Option.bind_some, id, opt, bnd, asL, eh, ed]
theorem isLst_ok {h : VH} {N : Nat → Prop} {d : D} {v : Vv} {xs : List Vv} (s : Sl h N d v) (e : itL v = some xs) : isLst h d = true := by
  cases s <;> first | (cases e; done) | skip
  · rename_i e' _; simp only [isLst, e']
  · rename_i e' _; simp only [isLst, e']
theorem isDic_ok {h : VH} {N : Nat → Prop} {d : D} {v : Vv} (s : Sl h N d v) (e : isDicV v = true) : isDic h d = true := by
  cases s <;> first | (cases e; done) | skip
  · rename_i e' _; simp only [isDic, e']
  · rename_i e' _; simp only [isDic, e']
theorem o_idx {o e : CE} (H : EOK Fv F an o) (H' : EOK Fv F an e) : EOK Fv F an (.idx o e) := by
  intro C L B N K h r w ha c I
  simp only [chE, Bool.and_eq_true] at c
  simp only [vE, evE]
  refine (aok H ha c.1 I).bind (fun x w1 dx h1 ⟨s1, k1, I1, z1, q1⟩ => ?_) fun _ z => z
  refine Ac.op fun xs e1 => ?_
  rw [isLst_ok s1 e1]
  have I1' := I1.freeze (js := frz C o) fun j hj => frz_O hj
  have wk : ∀ {h2 h3 : VH}, Keep N (frK r (frz C o) K) h2 h3 → Keep N K h2 h3 := fun k => k.weak (fun n _ z => .inl z) fun n _ z => .inr (.inl z)
  refine (H' (C.drop (frz C o)) L B N _ h1 r w1 ha c.2 I1').bind (fun y w2 dy h2 g => ?_) fun _ z => k1.trans (wk z)
  refine Ac.op fun j e2 => ?_
  obtain ⟨ds, e3, q⟩ := itL_ok (s1.kp g.kp z1) e1
  refine Ac.ok' (b := .int j) (h := h2) ?_ (.flat (.int _) (k1.trans (wk g.kp)) (g.iv.thaw I1 (fun _ z => z) (fun _ z => .inl z) .refl) nofun)
  rw [e3, Option.bind_some, idxF_ok q g.rd.sl e2]
  rfl
theorem o_get2 {o k' d' : CE} (H : EOK Fv F an o) (H' : EOK Fv F an k') (H2 : EOK Fv F an d') : EOK Fv F an (.get2 o k' d') := by
  intro C L B N K h r w ha c I
  simp only [chE, Bool.and_eq_true] at c
  simp only [vE, evE]
  refine (aok H ha c.1 I).bind (fun x w1 dx h1 ⟨s1, k1, I1, z1, q1⟩ => ?_) fun _ z => z
  refine Ac.g1 fun e1 => ?_
  rw [isDic_ok s1 e1]
  have I1' := I1.freeze (js := frz C o) fun j hj => frz_O hj
  have wk : ∀ {h2 h3 : VH}, Keep N (frK r (frz C o) K) h2 h3 → Keep N K h2 h3 := fun k => k.weak (fun n _ z => .inl z) fun n _ z => .inr (.inl z)
  refine (H' (C.drop (frz C o)) L B N _ h1 r w1 ha c.2.1 I1').bind (fun y w2 dy h2 g => ?_) fun _ z => k1.trans (wk z)
  refine (H2 (C.drop (frz C o)) L B N _ h2 r w2 ha c.2.2 g.iv).bind (fun z w3 dz h3 g' => ?_) fun _ z => k1.trans (wk (g.kp.trans z))
  have kk := g.kp.trans g'.kp
  refine Ac.op fun q e2 => ?_
  obtain ⟨p, e3, o'⟩ := look_ok (s1.kp kk z1) (g.rd.kp g'.kp) e2
  refine opt_ac e3 (Ac.ok ⟨?_, k1.trans (wk kk), g'.iv.thaw I1 (fun _ z => z) (fun _ z => .inl z) .refl, nofun⟩)
  cases p <;> cases q <;> first | exact o'.elim | exact g'.rd | exact o'
theorem o_onone : OOK Fv F an .none := by
  intro C L B N K h r w ha c I
  simp only [vO, evO]
  exact Ac.ok ⟨rfl, .refl, I⟩
theorem o_osome {e : CE} (H : EOK Fv F an e) : OOK Fv F an (.some e) := by
  intro C L B N K h r w ha c I
  simp only [chO] at c
  simp only [vO, evO]
  refine (H C L B N K h r w ha c I).bind (fun v w1 d h1 g => ?_) fun _ z => z
  refine Ac.isI fun i e => ?_
  subst e
  have q := g.rd
  cases q
  exact Ac.ok ⟨rfl, g.kp, g.iv⟩
theorem o_enil : EsOK Fv F an .nil := by
  intro C L B N K h r w ha c I
  simp only [vEs, evEs]
  exact Ac.ok ⟨.nil, rfl, .refl, I⟩
theorem o_econs {e : CE} {es : CEs} (H : EOK Fv F an e) (H' : EsOK Fv F an es) : EsOK Fv F an (.cons e es) := by
  intro C L B N K h r w ha c I
  simp only [chEs, Bool.and_eq_true] at c
  simp only [vEs, evEs]
  refine (H C L B N K h r w ha c.1 I).bind (fun v w1 d h1 g => ?_) fun _ z => z
  refine (H' C L B N K h1 r w1 ha c.2 g.iv).bind (fun vs w2 ds h2 ⟨q, l, k, I2⟩ => ?_) fun _ z => g.kp.trans z
  exact Ac.ok ⟨q.cons (g.rd.kp k), by simp [lenEs, l], g.kp.trans k, I2⟩
end
end PV
end
section
set_option autoImplicit false
set_option maxRecDepth 100000
/-! What is walked, targets, comprehensions, calls (own work). -/
namespace PV
open PySem PI
open L2 (Key)
section
variable {Fv : FnsV} {F : Fns} {an : Nat → An}
/-- a list that is held fast still stands -/
theorem stands_ok {N K : Nat → Prop} {h h2 : VH} {d : D} {ds : List D} (e : eval_items h d = some ds) (a : ∀ n, d = .ref n → ¬ N n ∨ K n) (k : Keep N K h h2) : stands d ds h2 = true := by
  cases d <;> first | rfl | skip
  rename_i n
  have up : ∀ {o : VO}, h[n]? = some o → h2[n]? = some o := fun {o} z => (k.2 n (List.getElem?_eq_some_iff.mp z).1 (a n rfl)).trans z
  have e : (match h[n]? with | some (.lst xs) => some xs | some (.ro _ xs) => some xs | _ => none) = some ds := e
  unfold stands
  split at e
  · rename_i z; cases e; simp [up z]
  · rename_i z; cases e; simp [up z]
  · cases e
theorem eval_of_items {h : VH} {d : D} {ds : List D} (e : itemsD h d = some ds) : eval_items h d = some ds := by
  cases d <;> first | (cases e; done) | exact e
theorem eval_of_itemsL {h : VH} {d : D} {ds : List D} (e : itemsL h d = some ds) : eval_items h d = some ds := by
  cases d <;> first | (cases e; done) | exact e
theorem rng_ok {h : VH} {N : Nat → Prop} (lo : Int) (n : Nat) : A2 (Rd h N) (rngD lo n) (rngV lo n) := .same _ fun k => .int _
theorem o_lrg {e : CE} (H : EOK Fv F an e) : EOK Fv F an (.lrg e) := by
  intro C L B N K h r w ha c I
  simp only [chE] at c
  simp only [vE, evE]
  refine (H C L B N K h r w ha c I).bind (fun v w1 d h1 g => ?_) fun _ z => z
  refine Ac.isI fun i e => Ac.g1 fun hi => ?_
  subst e
  have q := g.rd
  cases q
  have hl : (rngV 0 i.toNat).length ≤ lm := by unfold rngV; rw [List.length_map, List.length_range]; omega
  obtain ⟨d', h', e1, nr⟩ := newL_ok (h := h1) (N := N) (rng_ok 0 i.toNat) hl
  refine Ac.ok' (b := d') (h := h') ?_ (.new g.kp g.iv nr)
  simp only [asI, decide_eq_true hi]
  exact e1
theorem enum_ok {h : VH} {N : Nat → Prop} {ds : List D} {vs : List Vv} (q : A2 (Rd h N) ds vs) : A2 (Rd h N) (enumD ds) (enumV vs) := by
  unfold enumD enumV
  rw [q.1]
  refine A2.map (R := fun (p : Nat × D) (q : Nat × Vv) => p.1 = q.1 ∧ Rd h N p.2 q.2) ((show A2 (fun (x y : Nat) => x = y) (List.range vs.length) (List.range vs.length) from ⟨rfl, fun i x y e1 e2 => by rw [e1] at e2; exact Option.some.inj e2⟩).zip q) fun x y z => ?_
  rw [z.1]
  exact Rd.tups ((A2.nil.cons z.2).cons (.int _))
theorem zip_ok {h : VH} {N : Nat → Prop} {ds es : List D} {vs us : List Vv} (q : A2 (Rd h N) ds vs) (q' : A2 (Rd h N) es us) : A2 (Rd h N) (zipD ds es) (zipV vs us) := by
  unfold zipD zipV
  exact (q.zip q').map fun x y z => Rd.tups ((A2.nil.cons z.2).cons z.1)
theorem i_seq {e : CE} (H : EOK Fv F an e) : IOK Fv F an (.seq e) := by
  intro C L B N K h r w ha c I
  simp only [chI] at c
  simp only [vI, evI]
  refine (aok H ha c I).bind (fun v w1 d h1 ⟨s, k, I1, z, _⟩ => ?_) fun _ z => z
  refine Ac.op fun xs e1 => ?_
  obtain ⟨ds, e2, q⟩ := itS_ok s e1
  exact opt_ac e2 (Ac.ok ⟨q, k, I1, fun h2 kk => stands_ok e2 z kk⟩)
theorem i_rng1 {e : CE} (H : EOK Fv F an e) : IOK Fv F an (.rng1 e) := by
  intro C L B N K h r w ha c I
  simp only [chI] at c
  simp only [vI, evI]
  refine (H C L B N K h r w ha c I).bind (fun v w1 d h1 g => ?_) fun _ z => z
  refine Ac.isI fun i e => Ac.g1 fun hi => ?_
  subst e
  have q := g.rd
  cases q
  refine Ac.ok' (b := (rngD 0 i.toNat, fun _ => true)) (h := h1) ?_ ⟨rng_ok 0 i.toNat, g.kp, g.iv, fun _ _ => rfl⟩
  simp only [asI, hi]
  rfl
theorem i_rng2 {a b : CE} (H : EOK Fv F an a) (H' : EOK Fv F an b) : IOK Fv F an (.rng2 a b) := by
  intro C L B N K h r w ha c I
  simp only [chI, Bool.and_eq_true] at c
  simp only [vI, evI]
  refine (H C L B N K h r w ha c.1 I).bind (fun v w1 d h1 g => ?_) fun _ z => z
  refine (H' C L B N K h1 r w1 ha c.2 g.iv).bind (fun v' w2 d' h2 g' => ?_) fun _ z => g.kp.trans z
  refine Ac.isI fun i e => Ac.isI fun j e' => Ac.g1 fun hi => ?_
  subst e
  subst e'
  have q := g.rd
  have q' := g'.rd
  cases q
  cases q'
  refine Ac.ok' (b := (rngD i (j - i).toNat, fun _ => true)) (h := h2) ?_ ⟨rng_ok i (j - i).toNat, g.kp.trans g'.kp, g'.iv, fun _ _ => rfl⟩
  simp only [asI, hi.1, hi.2]
  rfl
theorem i_enum {e : CE} (H : EOK Fv F an e) : IOK Fv F an (.enum e) := by
  intro C L B N K h r w ha c I
  simp only [chI] at c
  simp only [vI, evI]
  refine (aok H ha c I).bind (fun v w1 d h1 ⟨s, k, I1, z, _⟩ => ?_) fun _ z => z
  refine Ac.op fun xs e1 => ?_
  obtain ⟨ds, e2, q⟩ := it_ok s e1
  exact opt_ac e2 (Ac.ok ⟨enum_ok q, k, I1, fun h2 kk => stands_ok (eval_of_items e2) z kk⟩)
theorem i_rev {e : CE} (H : EOK Fv F an e) : IOK Fv F an (.rev e) := by
  intro C L B N K h r w ha c I
  simp only [chI] at c
  simp only [vI, evI]
  refine (aok H ha c I).bind (fun v w1 d h1 ⟨s, k, I1, z, _⟩ => ?_) fun _ z => z
  refine Ac.op fun xs e1 => ?_
  obtain ⟨ds, e2, q⟩ := it_ok s e1
  exact opt_ac e2 (Ac.ok ⟨q.reverse, k, I1, fun h2 kk => stands_ok (eval_of_items e2) z kk⟩)
theorem i_revrng {e : CE} (H : EOK Fv F an e) : IOK Fv F an (.revrng e) := by
  intro C L B N K h r w ha c I
  simp only [chI] at c
  simp only [vI, evI]
  refine (H C L B N K h r w ha c I).bind (fun v w1 d h1 g => ?_) fun _ z => z
  refine Ac.isI fun i e => Ac.g1 fun hi => ?_
  subst e
  have q := g.rd
  cases q
  refine Ac.ok' (b := ((rngD 0 i.toNat).reverse, fun _ => true)) (h := h1) ?_ ⟨(rng_ok 0 i.toNat).reverse, g.kp, g.iv, fun _ _ => rfl⟩
  simp only [asI, hi]
  rfl
theorem itL_it {h : VH} {N : Nat → Prop} {d : D} {v : Vv} {xs : List Vv} (s : Sl h N d v) (e : itL v = some xs) : ∃ ds, itemsD h d = some ds ∧ A2 (Rd h N) ds xs ∧ isTup d = false := by
  cases s <;> first | (cases e; done) | skip
  · cases e; rename_i e' q; exact ⟨_, by simp only [itemsD, e'], q, rfl⟩
  · cases e; rename_i e' q; exact ⟨_, by simp only [itemsD, e'], q, rfl⟩
theorem i_zip {a b : CE} (H : EOK Fv F an a) (H' : EOK Fv F an b) : IOK Fv F an (.zip a b) := by
  intro C L B N K h r w ha c I
  simp only [chI, Bool.and_eq_true] at c
  simp only [vI, evI]
  refine two H H' ha c.1 c.2 I fun x y w2 dx dy h2 sx sy _ _ zx zy k I2 => ?_
  have zx' : ∀ n, dx = .ref n → ¬ N n ∨ frK r (frz C a ++ frz C b) K n := fun n e => (zx n e).imp id fun z => z.imp id fun ⟨j, hj, e⟩ => ⟨j, List.mem_append.mpr (.inl hj), e⟩
  have lst : ∀ {xs ys : List Vv}, itL x = some xs → itL y = some ys → Ac (.ok (zipV xs ys) w2) (opt (itemsD h2 dx) fun xs => opt (itemsD h2 dy) fun ys => grd (isTup dx == isTup dy) <| .ok (zipD xs ys, fun h => stands dx xs h && stands dy ys h) h2) (fun v w' s h' => A2 (Rd h' N) s.1 v ∧ Keep N K h h' ∧ Inv C L B N K h' r w' ∧ ∀ h2, Keep N (frK r (frzI C (.zip a b)) K) h' h2 → s.2 h2 = true) (fun h' => Keep N K h h') := by
    intro xs ys e1 e2
    obtain ⟨ds, e3, q, t⟩ := itL_it sx e1
    obtain ⟨es, e4, q', t'⟩ := itL_it sy e2
    refine opt_ac e3 (opt_ac e4 ?_)
    rw [t, t']
    exact Ac.ok ⟨zip_ok q q', k, I2, fun h3 kk => by
      simp only [stands_ok (eval_of_items e3) zx' kk, stands_ok (eval_of_items e4) zy kk, Bool.and_self]⟩
  have gen : Ac (op (itL x) fun xs => op (itL y) fun ys => .ok (zipV xs ys) w2) (opt (itemsD h2 dx) fun xs => opt (itemsD h2 dy) fun ys => grd (isTup dx == isTup dy) <| .ok (zipD xs ys, fun h => stands dx xs h && stands dy ys h) h2) (fun v w' s h' => A2 (Rd h' N) s.1 v ∧ Keep N K h h' ∧ Inv C L B N K h' r w' ∧ ∀ h2, Keep N (frK r (frzI C (.zip a b)) K) h' h2 → s.2 h2 = true) (fun h' => Keep N K h h') :=
    Ac.op fun xs e1 => Ac.op fun ys e2 => lst e1 e2
  cases x with
  | tup xs =>
    cases y with
    | tup ys =>
      match sx, sy with
      | .tup q, .tup q' => exact Ac.ok ⟨zip_ok q q', k, I2, fun h3 kk => rfl⟩
    | _ => exact trivial
  | _ => cases y <;> first | exact trivial | exact gen
theorem i_keys {e : CE} : IOK Fv F an (.keys e) := by
  intro C L B N K h r w ha c I
  simp only [chI] at c
  cases c
/-! ### targets -/
theorem g_name {i : Nat} : GOK Fv F an (.name i) := by
  intro C L B N K h r w d v ha c I q
  simp only [chG] at c
  simp only [aG, asgG]
  exact Ac.ok ⟨.refl, I.set (not_mem_of c) q, List.length_set .., fun j hj => List.getElem?_set_ne fun z => hj (by simp [slotsG, z])⟩
theorem g_tup {ts : TGs} (H : GsOK Fv F an ts) : GOK Fv F an (.tup ts) := by
  intro C L B N K h r w d v ha c I q
  simp only [chG] at c
  simp only [aG, asgG]
  refine Ac.isT fun vs e => Ac.g1 fun hl => ?_
  subst e
  cases q with
  | tup l q =>
    rename_i ds
    have hl' : decide (ds.length = lenGs ts) = true := decide_eq_true (l.trans hl)
    simp only [asT, hl']
    exact H C L B N K h r w ds vs ha c I ⟨l, q⟩
theorem g_sub {o i : CE} (H : EOK Fv F an i) : GOK Fv F an (.sub o i) := by
  intro C L B N K h r w d v ha c I q
  simp only [chG, Bool.and_eq_true] at c
  simp only [aG, asgG]
  refine Ac.op fun s hs => ?_
  have := slot_var hs
  subst this
  have hM : s ∈ C.M := by simpa [slotOf] using c.1
  refine Ac.op fun x0 ex0 => ?_
  · obtain ⟨d0, er, s0⟩ := I.get ex0
    clear s0
    rw [evE_var er]
    show Ac _ (bnd (evE F i r h) _) _ _
    refine (H C L B N K h r w ha c.2 I).bind (fun y w1 dy h1 g => ?_) fun _ z => z
    refine Ac.op fun x ex => Ac.op fun u eu => ?_
    obtain ⟨d1, er', sx⟩ := g.iv.get ex
    rw [er] at er'
    cases er'
    have q1 := q.kp g.kp
    have fin : ∀ {n : Nat} {o : VO}, d0 = .ref n → setD d0 dy d h1 = some (h1.set n o) → RdO (Rd h1 N) o u → Ac (.ok () (w1.set s (some u))) (opt (setD d0 dy d h1) fun h => .ok r h) (fun _ w' r' h' => Keep N K h h' ∧ Inv C L B N K h' r' w' ∧ r'.length = r.length ∧ ∀ j, j ∉ slotsG (.sub (.var s) i) → r'[j]? = r[j]?) (fun h' => Keep N K h h') := by
      intro n o ed es ro
      subst ed
      obtain ⟨k, I'⟩ := g.iv.change hM er ro
      refine opt_ac es (Ac.ok ⟨g.kp.trans k, I', rfl, fun _ _ => rfl⟩)
    cases sx with
    | lst e' c' =>
      cases y <;> first | (cases eu; done) | skip
      rename_i ds vs kk
      have qy := g.rd
      cases qy
      obtain ⟨j, e1, e2⟩ := Option.map_eq_some_iff.mp (show (L2.ixN vs.length kk).map (fun j => Vv.lst (vs.set j v)) = some u from eu)
      subst e2
      refine fin rfl (o := .lst (ds.set j d)) ?_ (c'.set j q1)
      simp only [setD, e', c'.1, e1]
      rfl
    | dK e' c' =>
      rename_i ds vs
      have eu : (match keyV y with | some k => g1 (vs.length < lm) (Vv.dK (putV vs k v)) | none => none) = some u := eu
      cases hk : keyV y with
      | none => rw [hk] at eu; cases eu
      | some k' =>
        rw [hk] at eu
        obtain ⟨hl, e2⟩ := g1_some eu
        subst e2
        refine fin rfl (o := .dK false (putD ds k' d)) ?_ (putD_ok c' k' q1)
        have hl' : ds.length < PI.lim := by rw [c'.1, lm_eq]; exact hl
        simp only [setD, e', keyD_ok g.rd, hk, if_pos hl']
    | dT e' c' =>
      rename_i ds vs
      cases y <;> first | (cases eu; done) | skip
      rename_i ks
      have eu : (match keysV ks with | some k => g1 (vs.length < lm) (Vv.dT (putV vs k v)) | none => none) = some u := eu
      cases hk : keysV ks with
      | none => rw [hk] at eu; cases eu
      | some k' =>
        rw [hk] at eu
        obtain ⟨hl, e2⟩ := g1_some eu
        subst e2
        have qy := g.rd
        cases qy with
        | tup l qy =>
          refine fin rfl (o := .dT false (putD ds k' d)) ?_ (putD_ok c' k' q1)
          have hl' : ds.length < PI.lim := by rw [c'.1, lm_eq]; exact hl
          simp only [setD, e', keysD_ok ⟨l, qy⟩, hk, if_pos hl']
    | non => cases eu
    | bl => cases eu
    | int => cases eu
    | str => cases eu
    | tup => cases eu
    | ro => cases eu
theorem g_nil : GsOK Fv F an .nil := by
  intro C L B N K h r w d v ha c I q
  simp only [aGs, asgGs]
  cases v with
  | nil =>
    have : d = [] := List.eq_nil_of_length_eq_zero q.1
    subst this
    exact Ac.ok ⟨.refl, I, rfl, fun _ _ => rfl⟩
  | cons => exact trivial
theorem g_cons {t : TG} {ts : TGs} (H : GOK Fv F an t) (H' : GsOK Fv F an ts) : GsOK Fv F an (.cons t ts) := by
  intro C L B N K h r w d v ha c I q
  simp only [chGs, Bool.and_eq_true] at c
  simp only [aGs, asgGs]
  cases v with
  | nil => exact trivial
  | cons v vs =>
    cases d with
    | nil => have := q.1; simp at this
    | cons d ds =>
      refine (H C L B N K h r w d v ha c.1 I q.head).bind (fun _ w1 r1 h1 ⟨k1, I1, l1, f1⟩ => ?_) fun _ z => z
      refine (H' C L B N K h1 r1 w1 ds vs ha c.2 I1 (q.tail.kp k1)).imp (fun _ w2 r2 h2 ⟨k2, I2, l2, f2⟩ => ⟨k1.trans k2, I2, l2.trans l1, fun j hj => ?_⟩) fun _ z => k1.trans z
      rw [slotsGs, List.mem_append, not_or] at hj
      exact (f2 j hj.2).trans (f1 j hj.1)
mutual
theorem slots_out {C : Ck} : ∀ (g : TG), chG g C = true → ∀ i, i ∈ slotsG g → i ∉ C.O
  | .name i, c, j, hj => by
    simp only [slotsG, List.mem_singleton] at hj
    subst hj
    exact not_mem_of (by simpa only [chG] using c)
  | .tup ts, c, j, hj => slotss_out ts (by simpa only [chG] using c) j (by simpa only [slotsG] using hj)
  | .sub o i, c, j, hj => by simp [slotsG] at hj
theorem slotss_out {C : Ck} : ∀ (g : TGs), chGs g C = true → ∀ i, i ∈ slotsGs g → i ∉ C.O
  | .nil, c, j, hj => by simp [slotsGs] at hj
  | .cons t ts, c, j, hj => by
    simp only [chGs, Bool.and_eq_true] at c
    rw [slotsGs, List.mem_append] at hj
    exact hj.elim (slots_out t c.1 j) (slotss_out ts c.2 j)
end
end
end PV
end
section
set_option autoImplicit false
set_option maxRecDepth 100000
/-! Comprehensions, calls, and all expressions together (own work). -/
namespace PV
open PySem PI
open L2 (Key)
section
variable {Fv : FnsV} {F : Fns} {an : Nat → An}
theorem wipe_again {r r' : PI.Env} {is : List Nat} (hl : r'.length = r.length) (h : ∀ i, i ∉ is → r'[i]? = r[i]?) : wipeE r' is = wipeE r is := by
  refine List.ext_getElem? fun i => ?_
  rw [wipeE_get, wipeE_get, hl]
  split
  · rfl
  · rename_i q; exact h i q
theorem wipeE_wipeE {r : PI.Env} {is : List Nat} : wipeE (wipeE r is) is = wipeE r is := wipe_again (wipeE_len is) fun i hi => by rw [wipeE_get, if_neg hi]
theorem addK {N K : Nat → Prop} {h h' : VH} {m : Nat} (k : Keep N (add K m) h h') : Keep N K h h' := k.weak (fun n _ z => .inl z) fun n _ z => .inr (.inl z)
/-- the loop of a list comprehension -/
theorem loopA_ok {C : Ck} {L : Nat} {B N K : Nat → Prop} {r : PI.Env} {is : List Nat} {src : VH → Bool} {tv : Vv → VE → Rv (Option Vv)} {t : D → VH → Res (Option D)} {m : Nat} {h1 : VH} (hm : N m) (hk : ¬ K m)
    (hsrc : ∀ h2, Keep N K h1 h2 → src h2 = true)
    (hO : ∀ i, i ∈ C.O → ∀ n, (wipeE r is)[i]? = some (some (.ref n)) → n ≠ m)
    (step : ∀ (d : D) (v : Vv) (h : VH) (w : VE), Rd h N d v → Inv C L B N (add K m) h (wipeE r is) (wipeW w is) → Ac (tv v w) (t d h) (fun o w' o' h' => OR (Rd h' N) o' o ∧ Keep N (add K m) h h' ∧ Inv C L B N (add K m) h' (wipeE r is) (wipeW w' is)) (fun _ => True)) :
    ∀ (xs : List Vv) (ds : List D) (acc : List Vv) (dacc : List D) (h : VH) (w : VE), A2 (Rd h N) ds xs → h[m]? = some (.lst dacc) → A2 (Rd h N) dacc acc → Keep N K h1 h → Inv C L B N (add K m) h (wipeE r is) (wipeW w is) →
      Ac (loopA tv xs acc w) (loopC src t m ds h) (fun ys w' _ h' => ∃ dys, h'[m]? = some (.lst dys) ∧ A2 (Rd h' N) dys ys ∧ Keep N K h1 h' ∧ Inv C L B N (add K m) h' (wipeE r is) (wipeW w' is)) (fun _ => False)
  | [], ds, acc, dacc, h, w, qx, em, qa, k, I => by
    have : ds = [] := List.eq_nil_of_length_eq_zero qx.1
    subst this
    unfold loopA loopC
    rw [hsrc h k]
    exact Ac.ok ⟨dacc, em, qa, k, I⟩
  | x :: xs, ds, acc, dacc, h, w, qx, em, qa, k, I => by
    cases ds with
    | nil => have := qx.1; simp at this
    | cons d ds =>
      unfold loopA loopC
      rw [hsrc h k]
      show Ac _ (bndN (t d h) _) _ _
      refine (step d x h w qx.head I).bindN fun o w1 o' h2 ⟨q, k2, I2⟩ => ?_
      have em2 : h2[m]? = some (.lst dacc) := (k2.2 m (List.getElem?_eq_some_iff.mp em).1 (.inr (.inr rfl))).trans em
      cases o with
      | none =>
        cases o' with
        | some _ => exact q.elim
        | none => exact loopA_ok hm hk hsrc hO step xs ds acc dacc h2 w1 (qx.tail.kp k2) em2 (qa.kp k2) (k.trans (addK k2)) I2
      | some y =>
        cases o' with
        | none => exact q.elim
        | some e =>
          have q : Rd h2 N e y := q
          refine Ac.g1 fun hl => ?_
          have hl' : dacc.length < PI.lim := by rw [qa.1, lm_eq]; exact hl
          simp only [asL, em2, decide_eq_true hl', grd]
          have ks : Keep N K h2 (h2.set m (.lst (dacc ++ [e]))) := .set hm hk
          have I3 : Inv C L B N (add K m) (h2.set m (.lst (dacc ++ [e]))) (wipeE r is) (wipeW w1 is) := I2.go ks fun i hi n en => List.getElem?_set_ne fun z => hO i hi n en z.symm
          exact loopA_ok hm hk hsrc hO step xs ds (acc ++ [y]) (dacc ++ [e]) _ w1 ((qx.tail.kp k2).kp ks) (by rw [List.getElem?_set_self (List.getElem?_eq_some_iff.mp em2).1]) (((qa.kp k2).append (A2.nil.cons q)).kp ks) ((k.trans (addK k2)).trans ks) I3
theorem loopD_ok {C : Ck} {L : Nat} {B N K : Nat → Prop} {r : PI.Env} {is : List Nat} {src : VH → Bool} {tv : Vv → VE → Rv (Vv × Vv)} {t : D → VH → Res (D × D)} {m : Nat} {h1 : VH} (hm : N m) (hk : ¬ K m)
    (hsrc : ∀ h2, Keep N K h1 h2 → src h2 = true)
    (hO : ∀ i, i ∈ C.O → ∀ n, (wipeE r is)[i]? = some (some (.ref n)) → n ≠ m)
    (step : ∀ (d : D) (v : Vv) (h : VH) (w : VE), Rd h N d v → Inv C L B N (add K m) h (wipeE r is) (wipeW w is) → Ac (tv v w) (t d h) (fun o w' o' h' => (Rd h' N o'.1 o.1 ∧ Rd h' N o'.2 o.2) ∧ Keep N (add K m) h h' ∧ Inv C L B N (add K m) h' (wipeE r is) (wipeW w' is)) (fun _ => True)) :
    ∀ (xs : List Vv) (ds : List D) (acc : List (Key × Vv)) (dacc : List (Key × D)) (h : VH) (w : VE), A2 (Rd h N) ds xs → h[m]? = some (.dK false dacc) → A2 (KR (Rd h N)) dacc acc → Keep N K h1 h → Inv C L B N (add K m) h (wipeE r is) (wipeW w is) →
      Ac (loopD tv xs acc w) (loopK src t m ds h) (fun ys w' _ h' => ∃ dys, h'[m]? = some (.dK false dys) ∧ A2 (KR (Rd h' N)) dys ys ∧ Keep N K h1 h' ∧ Inv C L B N (add K m) h' (wipeE r is) (wipeW w' is)) (fun _ => False)
  | [], ds, acc, dacc, h, w, qx, em, qa, k, I => by
    have : ds = [] := List.eq_nil_of_length_eq_zero qx.1
    subst this
    unfold loopD loopK
    rw [hsrc h k]
    exact Ac.ok ⟨dacc, em, qa, k, I⟩
  | x :: xs, ds, acc, dacc, h, w, qx, em, qa, k, I => by
    cases ds with
    | nil => have := qx.1; simp at this
    | cons d ds =>
      unfold loopD loopK
      rw [hsrc h k]
      show Ac _ (bndN (t d h) _) _ _
      refine (step d x h w qx.head I).bindN fun o w1 o' h2 ⟨⟨q1, q2⟩, k2, I2⟩ => ?_
      have em2 : h2[m]? = some (.dK false dacc) := (k2.2 m (List.getElem?_eq_some_iff.mp em).1 (.inr (.inr rfl))).trans em
      refine Ac.op fun kk ek => Ac.g1 fun hl => ?_
      have ek' : keyD o'.1 = some kk := by rw [keyD_ok q1]; exact ek
      have hl' : dacc.length < PI.lim := by rw [qa.1, lm_eq]; exact hl
      simp only [em2, ek', decide_eq_true hl', grd]
      have ks : Keep N K h2 (h2.set m (.dK false (putD dacc kk o'.2))) := .set hm hk
      have I3 : Inv C L B N (add K m) (h2.set m (.dK false (putD dacc kk o'.2))) (wipeE r is) (wipeW w1 is) := I2.go ks fun i hi n en => List.getElem?_set_ne fun z => hO i hi n en z.symm
      have qa2 : A2 (KR (Rd h2 N)) dacc acc := qa.imp fun _ _ z => ⟨z.1, z.2.kp k2⟩
      exact loopD_ok hm hk hsrc hO step xs ds (putV acc kk o.2) (putD dacc kk o'.2) _ w1 ((qx.tail.kp k2).kp ks) (by rw [List.getElem?_set_self (List.getElem?_eq_some_iff.mp em2).1]) ((putD_ok qa2 kk q2).imp fun _ _ z => ⟨z.1, z.2.kp ks⟩) ((k.trans (addK k2)).trans ks) I3
/-- the names behind a comprehension -/
theorem Inv.back {C : Ck} {L : Nat} {B N N' K K' : Nat → Prop} {h1 h2 : VH} {r : PI.Env} {w1 w2 : VE} {is : List Nat} (I1 : Inv C L B N K h1 r w1) (I2 : Inv C L B N' K' h2 (wipeE r is) (wipeW w2 is)) (up : ∀ d v, Rd h1 N d v → Rd h2 N' d v) (hs : ∀ i, i ∈ is → i ∉ C.O)
    (hK : ∀ n, K n → K' n) (hN : ∀ n, N' n → N n ∨ h1.length ≤ n) : Inv C L B N' K h2 r (backW w1 w2 is) := by
  have off : ∀ i, i ∉ is → (wipeE r is)[i]? = r[i]? := fun i hi => by rw [wipeE_get, if_neg hi]
  have offO : ∀ i, i ∈ C.O → (wipeE r is)[i]? = r[i]? := fun i hi => off i fun z => hs i z hi
  have hl : w2.length = r.length := by
    have := I2.len
    rw [wipeE_len, wipeW_len] at this
    exact this.symm
  exact {
    len := by rw [backW_len, hl]
    sl := fun i o u e1 e2 => by
      rw [backW_get] at e2
      split at e2
      · rename_i q
        split at e2
        · cases e2
          have hi : i < w1.length := by rw [← I1.len]; exact (List.getElem?_eq_some_iff.mp e1).1
          have := I1.sl i o _ e1 (List.getElem?_eq_getElem hi)
          have eg : getW w1 i = w1[i] := by unfold getW; rw [List.getElem?_eq_getElem hi]; rfl
          rw [eg]
          have hn := I1.rd i (hs i q)
          cases o with
          | none =>
            cases hu : w1[i] with
            | none => trivial
            | some v => rw [hu] at this; exact this.elim
          | some d =>
            cases hu : w1[i] with
            | none => rw [hu] at this; exact this.elim
            | some v =>
              rw [hu] at this
              have s : Sl h1 N d v := this
              exact (up d v (s.rd fun n z => hn n (by rw [e1, z]))).sl
        · cases e2
      · rename_i q
        exact I2.sl i o u (by rw [off i q]; exact e1) (by rw [wipeW_get, if_neg q]; exact e2)
    rd := fun i hi n e => by
      by_cases q : i ∈ is
      · intro z
        rcases hN n z with z | z
        · exact I1.rd i hi n e z
        · exact absurd (I1.lt e) (by omega)
      · exact I2.rd i hi n (by rw [off i q]; exact e)
    mu := fun i hi n e => by
      obtain ⟨m1, m2, m3⟩ := I2.mu i hi n (by rw [offO i (I1.MO i hi)]; exact e)
      exact ⟨m1, fun z => m2 (hK n z), fun j hj hne e' => m3 j hj hne (by rw [offO j hj]; exact e')⟩
    MO := I1.MO
    bN := I2.bN
    bK := fun n z => I2.bK n (hK n z)
    BN := I2.BN
    BL := I1.BL
    loc := fun i hi hp n e => I1.loc i hi hp n e
    prm := fun i hi hp n e => I1.prm i hi hp n e
    hL := I2.hL }
theorem frzI_O {C : Ck} {it : CI} {i : Nat} (hi : i ∈ frzI C it) : i ∈ C.O := by
  cases it <;> first | exact frz_O hi | (simp [frzI] at hi; done) | skip
  rename_i a b
  rcases List.mem_append.mp (show i ∈ frz C a ++ frz C b from hi) with z | z
  · exact frz_O z
  · exact frz_O z
/-- what a comprehension asks of its block -/
theorem comp_step {C : Ck} {L : Nat} {B N K : Nat → Prop} {h : VH} {r : PI.Env} {w : VE} {g : TG} {d : D} {v : Vv} (H : GOK Fv F an g) (ha : C.an = an) (c : chG g C = true) (q : Rd h N d v) (I : Inv C L B N K h (wipeE r (slotsG g)) (wipeW w (slotsG g)))
    {α β : Type} {k : VE → Rv α} {k' : PI.Env → VH → Res β} {R : α → β → VH → Prop}
    (f : ∀ r1 w1 h1, Inv C L B N K h1 r1 w1 → Ac (k w1) (k' r1 h1) (fun a w2 b h2 => R a b h2 ∧ Keep N K h1 h2 ∧ Inv C L B N K h2 r1 w2) (fun _ => True)) :
    Ac (bd (aG Fv g v (wipeW w (slotsG g))) fun _ w => k w) (bnd (asgG F g d (wipeE r (slotsG g)) h) fun r' h => k' r' h) (fun a w' b h' => R a b h' ∧ Keep N K h h' ∧ Inv C L B N K h' (wipeE r (slotsG g)) (wipeW w' (slotsG g))) (fun _ => True) := by
  refine (H C L B N K h _ _ d v ha c I q).bind (fun _ w1 r1 h1 ⟨k1, I1, l1, f1⟩ => ?_) fun _ _ => trivial
  refine (f r1 w1 h1 I1).imp (fun a w2 b h2 ⟨q2, k2, I2⟩ => ⟨q2, k1.trans k2, ?_⟩) fun _ z => z
  have e : wipeE r1 (slotsG g) = wipeE r (slotsG g) := by
    rw [← wipeE_wipeE (r := r)]
    exact wipe_again l1 f1
  have I3 := I2.wipe (is := slotsG g) (slots_out g c)
  rw [e] at I3
  exact I3
end
end PV
end
section
set_option autoImplicit false
set_option maxRecDepth 100000
/-! Comprehensions and calls as expressions; all expressions together (own work). -/
namespace PV
open PySem PI
open L2 (Key)
section
variable {Fv : FnsV} {F : Fns} {an : Nat → An}
theorem Inv.addK {C : Ck} {L : Nat} {B N K : Nat → Prop} {h : VH} {r : PI.Env} {w : VE} (I : Inv C L B N K h r w) {m : Nat} (hm : m < h.length) (a : ∀ i, i ∈ C.O → ∀ n, r[i]? = some (some (.ref n)) → n ≠ m) : Inv C L B N (add K m) h r w where
  len := I.len
  sl := I.sl
  rd := I.rd
  mu := fun i hi n e => ⟨(I.mu i hi n e).1, fun z => z.elim (I.mu i hi n e).2.1 (a i (I.MO i hi) n e), (I.mu i hi n e).2.2⟩
  MO := I.MO
  bN := I.bN
  bK := fun n z => z.elim (I.bK n) fun z => by subst z; exact hm
  BN := I.BN
  BL := I.BL
  loc := I.loc
  prm := I.prm
  hL := I.hL
section
variable {C : Ck} {L : Nat} {B N K : Nat → Prop} {h h1 : VH} {r : PI.Env} {w1 : VE} {g : TG} {it : CI}
/-- behind the alloc of a comprehension's own object -/
theorem comp_start (I1 : Inv C L B N K h1 r w1) (c1 : ∀ i, i ∈ slotsG g → i ∉ C.O) (o : VO) :
    Inv (C.drop (frzI C it)) L B (add N h1.length) (add (frK r (frzI C it) K) h1.length) (h1 ++ [o]) (wipeE r (slotsG g)) (wipeW w1 (slotsG g)) := by
  have I1' := I1.freeze (js := frzI C it) fun j hj => frzI_O hj
  refine ((I1'.alloc o).wipe (is := slotsG g) c1).addK (by simp) fun i hi n e => ?_
  rw [wipeE_get] at e
  split at e
  · split at e <;> cases e
  · have := I1.lt e
    omega
theorem comp_src {s : List D × (VH → Bool)} (hs : ∀ h2, Keep N (frK r (frzI C it) K) h1 h2 → s.2 h2 = true) (o : VO) (h2 : VH) (k : Keep (add N h1.length) (frK r (frzI C it) K) (h1 ++ [o]) h2) : Keep N (frK r (frzI C it) K) h1 h2 ∧ s.2 h2 = true := by
  have : Keep N (frK r (frzI C it) K) h1 h2 := (Keep.app (g := [o])).next k fun n z => z.imp id fun z => by omega
  exact ⟨this, hs h2 this⟩
theorem comp_end {h2 : VH} {w' : VE} {o : VO} {u : Vv} {fr : Bool} (k0 : Keep N K h h1) (I1 : Inv C L B N K h1 r w1) (c1 : ∀ i, i ∈ slotsG g → i ∉ C.O)
    (k : Keep N (frK r (frzI C it) K) h1 h2) (I4 : Inv (C.drop (frzI C it)) L B (add N h1.length) (add (frK r (frzI C it) K) h1.length) h2 (wipeE r (slotsG g)) (wipeW w' (slotsG g)))
    (eo : h2[h1.length]? = some o) (ro : RdO (Rd h2 (add N h1.length)) o u) : Good C L B N K h r fr (.ref h1.length) u h2 (backW w1 w' (slotsG g)) := by
  have I1' := I1.freeze (js := frzI C it) fun j hj => frzI_O hj
  have I5 := I1'.back (is := slotsG g) I4 (fun d v q => q.up (Nat.le_refl _) k) c1 (fun n z => .inl z) (fun n z => z.imp id fun z => by omega)
  have I6 := I5.thaw I1 (fun _ z => .inl z) (fun _ z => .inl z) .refl
  have s : Sl h2 (add N h1.length) (.ref h1.length) u := .ob eo ro
  refine ⟨(s.anti fun _ z => .inl z).rd fun n e z => ?_, k0.trans (k.weak (fun n _ z => .inl z) fun n _ z => .inr (.inl z)), I6.anti I1 fun _ z => .inl z, fun _ n e => ?_⟩
  · cases e; exact absurd (I1.bN _ z) (by omega)
  · cases e; exact ⟨k0.1, I6, s⟩
theorem pure_step {e : CE} (H : EOK Fv F an e) (ha : C.an = an) (c : chE e C = true) {w : VE} (I : Inv C L B N K h r w) : Ac (bd (vE Fv e w) fun y w => Rv.ok (some y) w) (bnd (evE F e r h) fun y h => Res.ok (some y) h) (fun a w2 b h2 => OR (Rd h2 N) b a ∧ Keep N K h h2 ∧ Inv C L B N K h2 r w2) (fun _ => True) :=
  (H C L B N K h r w ha c I).bind (fun v w1 d h1 g => Ac.ok ⟨g.rd, g.kp, g.iv⟩) fun _ _ => trivial
end
theorem lc_core {g : TG} {it : CI} (HG : GOK Fv F an g) (HI : IOK Fv F an it) {C : Ck} {L : Nat} {B N K : Nat → Prop} {h : VH} {r : PI.Env} {w : VE} (ha : C.an = an) (c1 : (slotsG g).all (fun i => !C.O.contains i) = true) (c2 : chI it C = true) (c3 : chG g (C.drop (frzI C it)) = true) (I : Inv C L B N K h r w) {fr : Bool}
    {tv : VE → Rv (Option Vv)} {t : PI.Env → VH → Res (Option D)} (f : ∀ (N K : Nat → Prop) r1 w1 h1, Inv (C.drop (frzI C it)) L B N K h1 r1 w1 → Ac (tv w1) (t r1 h1) (fun o w2 o' h2 => OR (Rd h2 N) o' o ∧ Keep N K h1 h2 ∧ Inv (C.drop (frzI C it)) L B N K h2 r1 w2) (fun _ => True)) :
    Ac (bd (vI Fv it w) fun s w => bd (loopA (fun x w => bd (aG Fv g x (wipeW w (slotsG g))) fun _ w => tv w) s [] w) fun ys w' => Rv.ok (Vv.lst ys) (backW w w' (slotsG g)))
      (bnd (evI F it r h) fun s h => bnd (loopC s.2 (fun x h => bnd (asgG F g x (wipeE r (slotsG g)) h) fun r' h => t r' h) h.length s.1 (h ++ [.lst []])) fun _ h' => Res.ok (D.ref h.length) h')
      (fun v w' d h' => Good C L B N K h r fr d v h' w') (fun h' => Keep N K h h') := by
  have c1 : ∀ i, i ∈ slotsG g → i ∉ C.O := fun i hi => not_mem_of (List.all_eq_true.mp c1 i hi)
  refine (HI C L B N K h r w ha c2 I).bind (fun xs w1 s h1 ⟨q, k1, I1, hs⟩ => ?_) fun _ z => z
  have I2 := comp_start (it := it) I1 c1 (.lst [])
  refine (loopA_ok (C := C.drop (frzI C it)) (L := L) (B := B) (N := add N h1.length) (K := frK r (frzI C it) K) (r := r) (is := slotsG g) (m := h1.length) (h1 := h1 ++ [.lst []]) (.inr rfl) (fun z => absurd ((I1.freeze (js := frzI C it) fun j hj => frzI_O hj).bK _ z) (by omega)) (fun h2 k => (comp_src hs _ h2 k).2) ?hO ?step xs s.1 [] [] _ w1 (q.imp fun _ _ z => z.up (Nat.le_refl _) (Keep.app (K := K))) (by simp) .nil .refl I2).bind ?fin (fun _ z => z.elim)
  case hO =>
    intro i hi n e
    rw [wipeE_get] at e
    split at e
    · split at e <;> cases e
    · have := I1.lt e
      omega
  case step =>
    intro d v h2 w2 q2 I3
    exact comp_step (C := C.drop (frzI C it)) HG ha c3 q2 I3 (R := fun (o : Option Vv) (o' : Option D) h' => OR (Rd h' (add N h1.length)) o' o) fun r3 w3 h3 I4 => f _ _ r3 w3 h3 I4
  case fin =>
    rintro ys w' _ h2 ⟨dys, em, qy, k2, I4⟩
    obtain ⟨k3, _⟩ := comp_src hs _ h2 k2
    exact Ac.ok (comp_end k1 I1 c1 k3 I4 em qy)
theorem o_lc0 {g : TG} {it : CI} {e : CE} (HG : GOK Fv F an g) (HI : IOK Fv F an it) (HE : EOK Fv F an e) : EOK Fv F an (.lc g it .none e) := by
  intro C L B N K h r w ha c I
  simp only [chE, Bool.and_eq_true, Bool.and_true] at c
  obtain ⟨⟨⟨c1, c2⟩, c3⟩, c5⟩ := c
  simp only [vE, evE]
  exact lc_core HG HI ha c1 c2 c3 I fun N K r1 w1 h1 I1 => pure_step (C := C.drop (frzI C it)) HE ha c5 I1
theorem o_lc1 {g : TG} {it : CI} {cc e : CE} (HG : GOK Fv F an g) (HI : IOK Fv F an it) (HC : EOK Fv F an cc) (HE : EOK Fv F an e) : EOK Fv F an (.lc g it (.some cc) e) := by
  intro C L B N K h r w ha c I
  simp only [chE, Bool.and_eq_true] at c
  obtain ⟨⟨⟨⟨c1, c2⟩, c3⟩, c4⟩, c5⟩ := c
  simp only [vE, evE]
  refine lc_core HG HI ha c1 c2 c3 I fun N K r1 w1 h1 I1 => ?_
  refine (HC (C.drop (frzI C it)) L B _ _ h1 r1 w1 ha c4 I1).bind (fun b w4 db h4 g4 => ?_) fun _ _ => trivial
  refine Ac.op fun k ek => opt_ac (tru_ok g4.rd.sl ek) ?_
  refine Ac.cond (fun _ => ?_) fun _ => Ac.ok ⟨trivial, g4.kp, g4.iv⟩
  exact (pure_step (C := C.drop (frzI C it)) HE ha c5 g4.iv).imp (fun a w b h ⟨z1, z2, z3⟩ => ⟨z1, g4.kp.trans z2, z3⟩) fun _ z => z
theorem o_dc {g : TG} {it : CI} {kx vx : CE} (HG : GOK Fv F an g) (HI : IOK Fv F an it) (HK : EOK Fv F an kx) (HV : EOK Fv F an vx) : EOK Fv F an (.dc g it kx vx) := by
  intro C L B N K h r w ha c I
  simp only [chE, Bool.and_eq_true, List.all_eq_true] at c
  obtain ⟨⟨⟨⟨c1, c2⟩, c3⟩, c4⟩, c5⟩ := c
  have c1 : ∀ i, i ∈ slotsG g → i ∉ C.O := fun i hi => not_mem_of (c1 i hi)
  simp only [vE, evE]
  refine (HI C L B N K h r w ha c2 I).bind (fun xs w1 s h1 ⟨q, k1, I1, hs⟩ => ?_) fun _ z => z
  have I2 := comp_start (it := it) I1 c1 (.dK false [])
  refine (loopD_ok (C := C.drop (frzI C it)) (L := L) (B := B) (N := add N h1.length) (K := frK r (frzI C it) K) (r := r) (is := slotsG g) (m := h1.length) (h1 := h1 ++ [.dK false []]) (.inr rfl) (fun z => absurd ((I1.freeze (js := frzI C it) fun j hj => frzI_O hj).bK _ z) (by omega)) (fun h2 k => (comp_src hs _ h2 k).2) ?hO ?step xs s.1 [] [] _ w1 (q.imp fun _ _ z => z.up (Nat.le_refl _) (Keep.app (K := K))) (by simp) .nil .refl I2).bind ?fin (fun _ z => z.elim)
  case hO =>
    intro i hi n e
    rw [wipeE_get] at e
    split at e
    · split at e <;> cases e
    · have := I1.lt e
      omega
  case step =>
    intro d v h2 w2 q2 I3
    refine (comp_step (C := C.drop (frzI C it)) HG ha c3 q2 I3 (R := fun (o : Vv × Vv) (o' : D × D) h' => Rd h' (add N h1.length) o'.1 o.1 ∧ Rd h' (add N h1.length) o'.2 o.2) fun r3 w3 h3 I4 => ?_)
    refine (HK (C.drop (frzI C it)) L B _ _ h3 r3 w3 ha c4 I4).bind (fun b w4 db h4 g4 => ?_) fun _ _ => trivial
    refine (HV (C.drop (frzI C it)) L B _ _ h4 r3 w4 ha c5 g4.iv).bind (fun b w5 db h5 g5 => ?_) fun _ _ => trivial
    exact Ac.ok ⟨⟨g4.rd.kp g5.kp, g5.rd⟩, g4.kp.trans g5.kp, g5.iv⟩
  case fin =>
    rintro ys w' _ h2 ⟨dys, em, qy, k2, I4⟩
    obtain ⟨k3, _⟩ := comp_src hs _ h2 k2
    exact Ac.ok (comp_end k1 I1 c1 k3 I4 em qy)
/-! ### arguments -/
theorem a_nil : AsOK Fv F an .nil := by
  intro C L B N K h r w M io ne p ha c hM hf I
  simp only [vEs, evEs]
  exact Ac.ok ⟨⟨rfl, rfl⟩, .refl, I⟩
theorem ArgR.kp {C : Ck} {io ne : List Nat} {r : PI.Env} {N K : Nat → Prop} {h h' : VH} (k : Keep N K h h') : ∀ (es : CEs) (p : Nat) (ds : List D) (vs : List Vv), ArgR C io ne r N K h p es ds vs → ArgR C io ne r N K h' p es ds vs
  | .nil, p, ds, vs, q => q
  | .cons e es, p, ds, vs, q => by
    obtain ⟨d, ds', v, vs', e1, e2, s, a, b, c, q⟩ := q
    exact ⟨d, ds', v, vs', e1, e2, s.kp k a, a, b, c, ArgR.kp k es _ _ _ q⟩
theorem evE_slot {e : CE} {j : Nat} (hj : slotOf e = some j) {C : Ck} {L : Nat} {B N K : Nat → Prop} {h h' : VH} {r : PI.Env} {w w' : VE} {v : Vv} {d : D} (ev : vE Fv e w = .ok v w') (ed : evE F e r h = .ok d h') : r[j]? = some (some d) := by
  have := slot_var hj
  subst this
  simp only [evE] at ed
  cases hr : (r[j]?).bind id with
  | none => rw [hr] at ed; cases ed
  | some d' =>
    rw [hr] at ed
    cases ed
    obtain ⟨o, e1, e2⟩ := Option.bind_eq_some_iff.mp hr
    rw [e1]
    exact congrArg some e2
theorem a_cons {e : CE} {es : CEs} (H : EOK Fv F an e) (H' : AsOK Fv F an es) : AsOK Fv F an (.cons e es) := by
  intro C L B N K h r w M io ne p ha c hM hf I
  simp only [chAs, Bool.and_eq_true] at c
  obtain ⟨c1, c2⟩ := c
  simp only [vEs, evEs]
  have cv : (isVar e || chE e C) = true := by
    split at c1
    · split at c1
      · rename_i z; simp [isVar, z]
      · cases c1
    · split at c1
      · exact c1
      · rw [c1]; simp
  have hO : (p ∈ io ∨ p ∈ ne) ∨ chE e C = true := by
    split at c1
    · rename_i z; exact .inl (.inl (mem_of z))
    · split at c1
      · rename_i z; exact .inl (.inr (mem_of z))
      · exact .inr c1
  have hf1 : ∀ i, i ∈ frz C e → (p ∈ io ∨ p ∈ ne) → ∀ n, r[i]? = some (some (.ref n)) → K n := fun i hi hp => hf i (by
    unfold bares
    have : (io.contains p || ne.contains p) = true := by simpa using hp
    rw [this]
    exact List.mem_append.mpr (.inl hi))
  have hf2 : ∀ i, i ∈ bares C io ne (p + 1) es → ∀ n, r[i]? = some (some (.ref n)) → K n := fun i hi => hf i (by
    unfold bares
    exact List.mem_append.mpr (.inr hi))
  have h0 := aok H ha cv I
  cases em : vE Fv e w with
  | stuck => exact trivial
  | exc k =>
    rw [em] at h0
    obtain ⟨h1, e1, z⟩ := h0
    rw [e1]
    exact ⟨h1, rfl, z⟩
  | ok v w1 =>
    rw [em] at h0
    obtain ⟨d, h1, e1, s, k1, I1, z, q⟩ := h0
    rw [e1]
    show Ac (bd (vEs Fv es w1) _) (bnd (evEs F es r h1) _) _ _
    refine (H' C L B N K h1 r w1 M io ne (p + 1) ha c2 hM hf2 I1).bind (fun vs w2 ds h2 ⟨A, k2, I2⟩ => ?_) fun _ z => k1.trans z
    refine Ac.ok ⟨⟨d, ds, v, vs, rfl, rfl, ?_, ?_, ?_, fun j hj => evE_slot hj (C := C) (L := L) (B := B) (N := N) (K := K) em e1, A⟩, k1.trans k2, I2⟩
    · by_cases hc : chE e C = true
      · exact ((q hc).kp k2).sl
      · refine s.kp k2 fun n en => (z n en).imp id fun zz => zz.elim id fun ⟨j, hj, ej⟩ => hf1 j hj (hO.elim id fun y => (hc y).elim) n ej
    · intro n en
      by_cases hc : chE e C = true
      · have := q hc
        subst en
        exact .inl this.not
      · exact (z n en).imp id fun zz => zz.elim id fun ⟨j, hj, ej⟩ => hf1 j hj (hO.elim id fun y => (hc y).elim) n ej
    · by_cases hc : chE e C = true
      · refine .inl fun n en => ?_
        have := q hc
        subst en
        exact this.not
      · refine .inr ⟨hO.elim id fun y => (hc y).elim, ?_⟩
        have hv : isVar e = true := by simpa [hc] using cv
        unfold isVar at hv
        obtain ⟨j, hj⟩ := Option.isSome_iff_exists.mp hv
        have := slot_var hj
        subst this
        exact ⟨j, rfl, by simpa [chE] using hc⟩
/-! ### calls -/
def getEs : CEs → Nat → Option CE
  | .nil, _ => none
  | .cons e _, 0 => some e
  | .cons _ es, i + 1 => getEs es i
theorem ArgR.at {C : Ck} {io ne : List Nat} {r : PI.Env} {N K : Nat → Prop} {h : VH} : ∀ (es : CEs) (p : Nat) (ds : List D) (vs : List Vv), ArgR C io ne r N K h p es ds vs →
    ds.length = vs.length ∧ ∀ (i : Nat) d, ds[i]? = some d → ∃ e v, getEs es i = some e ∧ vs[i]? = some v ∧ Sl h N d v ∧ ((∀ n, d = .ref n → ¬ N n) ∨ ((p + i ∈ io ∨ p + i ∈ ne) ∧ ∃ j, slotOf e = some j ∧ j ∈ C.O)) ∧ (∀ j, slotOf e = some j → r[j]? = some (some d))
  | .nil, p, ds, vs, q => by
    obtain ⟨rfl, rfl⟩ := q
    exact ⟨rfl, fun i d e => by simp at e⟩
  | .cons e es, p, ds, vs, q => by
    obtain ⟨d, ds', v, vs', rfl, rfl, s, a, b, c, q⟩ := q
    obtain ⟨l, f⟩ := ArgR.at es (p + 1) ds' vs' q
    refine ⟨by simp [l], fun i x ex => ?_⟩
    cases i with
    | zero => simp at ex; subst ex; exact ⟨e, v, rfl, rfl, s, b, c⟩
    | succ i =>
      obtain ⟨e', v', g1, g2, g3, g4, g5⟩ := f i x (by simpa using ex)
      refine ⟨e', v', g1, by simpa using g2, g3, ?_, g5⟩
      rw [show p + (i + 1) = p + 1 + i by omega]
      exact g4
theorem ArgR.some {C : Ck} {io ne : List Nat} {r : PI.Env} {N K : Nat → Prop} {h : VH} : ∀ (es : CEs) (p : Nat) (ds : List D) (vs : List Vv), ArgR C io ne r N K h p es ds vs → ∀ i e, getEs es i = some e → ∃ d, ds[i]? = some d
  | .nil, p, ds, vs, q, i, e, g => by cases g
  | .cons e es, p, ds, vs, q, i, e', g => by
    obtain ⟨d, ds', v, vs', rfl, rfl, s, a, b, c, q⟩ := q
    cases i with
    | zero => exact ⟨d, rfl⟩
    | succ i =>
      obtain ⟨d', e1⟩ := ArgR.some es (p + 1) ds' vs' q i e' g
      exact ⟨d', by simpa using e1⟩
theorem bares_mem {C : Ck} {io ne : List Nat} : ∀ (es : CEs) (p i : Nat) (e : CE) (j : Nat), getEs es i = some e → (p + i ∈ io ∨ p + i ∈ ne) → slotOf e = some j → j ∈ C.O → j ∈ bares C io ne p es
  | .nil, p, i, e, j, g, _, _, _ => by cases g
  | .cons e es, p, 0, e', j, g, hp, hs, hj => by
    cases g
    unfold bares
    have : (io.contains p || ne.contains p) = true := by simpa using hp
    rw [this]
    refine List.mem_append.mpr (.inl ?_)
    unfold frz
    simp [hs, hj]
  | .cons e es, p, i + 1, e', j, g, hp, hs, hj => by
    unfold bares
    exact List.mem_append.mpr (.inr (bares_mem es (p + 1) i e' j g (by rw [show p + 1 + i = p + (i + 1) by omega]; exact hp) hs hj))
theorem bares_nodup {C : Ck} {io ne : List Nat} : ∀ (es : CEs) (p i i' : Nat) (e e' : CE) (j : Nat), (bares C io ne p es).Nodup → getEs es i = some e → getEs es i' = some e' → (p + i ∈ io ∨ p + i ∈ ne) → (p + i' ∈ io ∨ p + i' ∈ ne) → slotOf e = some j → slotOf e' = some j → j ∈ C.O → i = i'
  | .nil, p, i, i', e, e', j, nd, g, _, _, _, _, _, _ => by cases g
  | .cons x es, p, i, i', e, e', j, nd, g, g', hp, hp', hs, hs', hj => by
    have nd' := nd
    unfold bares at nd
    obtain ⟨n1, n2, n3⟩ := List.nodup_append.mp nd
    have head : ∀ {y : CE}, x = y → (p ∈ io ∨ p ∈ ne) → slotOf y = some j → j ∈ (if (io.contains p || ne.contains p) = true then frz C x else []) := fun {y} ey hp hs => by
      subst ey
      have : (io.contains p || ne.contains p) = true := by simpa using hp
      rw [this, if_pos rfl]
      unfold frz
      simp [hs, hj]
    cases i with
    | zero =>
      cases i' with
      | zero => rfl
      | succ i' =>
        cases g
        have m1 := head rfl hp hs
        have m2 := bares_mem (C := C) (io := io) (ne := ne) es (p + 1) i' e' j g' (by rw [show p + 1 + i' = p + (i' + 1) by omega]; exact hp') hs' hj
        exact (n3 j m1 j m2 rfl).elim
    | succ i =>
      cases i' with
      | zero =>
        cases g'
        have m1 := head rfl hp' hs'
        have m2 := bares_mem (C := C) (io := io) (ne := ne) es (p + 1) i e j g (by rw [show p + 1 + i = p + (i + 1) by omega]; exact hp) hs hj
        exact (n3 j m1 j m2 rfl).elim
      | succ i' =>
        have := bares_nodup es (p + 1) i i' e e' j n2 g g' (by rw [show p + 1 + i = p + (i + 1) by omega]; exact hp) (by rw [show p + 1 + i' = p + (i' + 1) by omega]; exact hp') hs hs' hj
        omega
theorem chAs_io {C : Ck} {M io ne : List Nat} : ∀ (es : CEs) (p i : Nat) (e : CE), chAs es C M io ne p = true → getEs es i = some e → p + i ∈ io → ∃ j, slotOf e = some j ∧ j ∈ M
  | .nil, p, i, e, c, g, _ => by cases g
  | .cons x es, p, i, e, c, g, hp => by
    simp only [chAs, Bool.and_eq_true] at c
    cases i with
    | zero =>
      cases g
      have : io.contains p = true := by simpa using hp
      rw [this, if_pos rfl] at c
      cases hs : slotOf x with
      | none => rw [hs] at c; cases c.1
      | some j => rw [hs] at c; exact ⟨j, rfl, mem_of c.1⟩
    | succ i => exact chAs_io es (p + 1) i e c.2 g (by rw [show p + 1 + i = p + (i + 1) by omega]; exact hp)
theorem bares_O {C C' : Ck} (hO : C.O = C'.O) (io ne : List Nat) : ∀ (es : CEs) (p : Nat), bares C io ne p es = bares C' io ne p es
  | .nil, p => rfl
  | .cons e es, p => by
    unfold bares
    rw [bares_O hO io ne es]
    unfold frz
    rw [hO]
theorem bares_in {C : Ck} {io ne : List Nat} : ∀ (es : CEs) (p : Nat) (j : Nat), j ∈ bares C io ne p es → j ∈ C.O
  | .nil, p, j, h => by simp [bares] at h
  | .cons e es, p, j, h => by
    unfold bares at h
    rcases List.mem_append.mp h with z | z
    · split at z
      · exact frz_O z
      · simp at z
    · exact bares_in es (p + 1) j z
def hit : CEs → VE → Nat → Option Vv
  | .cons e es, o :: os, i => (match hit es os i with
    | some v => some v
    | none => if slotOf e = some i then o else none)
  | _, _, _ => none
theorem wbs_len : ∀ (es : CEs) (os w : VE), (wbs es os w).length = w.length
  | .nil, os, w => by unfold wbs; rfl
  | .cons e es, [], w => by unfold wbs; rfl
  | .cons e es, o :: os, w => by
    unfold wbs
    rw [wbs_len es os]
    split
    · exact List.length_set ..
    · rfl
theorem wbs_get : ∀ (es : CEs) (os w : VE) (i : Nat), i < w.length → (wbs es os w)[i]? = (match hit es os i with | some v => some (some v) | none => w[i]?)
  | .nil, os, w, i, hi => by unfold wbs hit; rfl
  | .cons e es, [], w, i, hi => by unfold wbs hit; rfl
  | .cons e es, o :: os, w, i, hi => by
    unfold wbs hit
    rw [wbs_get es os _ i (by split <;> simp [hi])]
    cases hit es os i with
    | some v => rfl
    | none =>
      dsimp only
      cases o with
      | none =>
        cases slotOf e <;> simp
      | some v =>
        cases hs : slotOf e with
        | none =>
          rw [if_neg (by simp)]
        | some j =>
          dsimp only
          by_cases hj : j = i
          · subst hj
            rw [if_pos rfl]
            rw [List.getElem?_set_self hi]
          · rw [if_neg fun z => hj (Option.some.inj z), List.getElem?_set_ne hj]
theorem hit_some : ∀ (es : CEs) (os : VE) (i : Nat) (v : Vv), hit es os i = some v → ∃ p e, getEs es p = some e ∧ slotOf e = some i ∧ os[p]? = some (some v)
  | .nil, os, i, v, h => by unfold hit at h; cases h
  | .cons e es, [], i, v, h => by unfold hit at h; cases h
  | .cons e es, o :: os, i, v, h => by
    unfold hit at h
    cases z : hit es os i with
    | some u =>
      rw [z] at h
      cases h
      obtain ⟨p, e', g1, g2, g3⟩ := hit_some es os i v z
      exact ⟨p + 1, e', g1, g2, by simpa using g3⟩
    | none =>
      rw [z] at h
      dsimp only at h
      split at h
      · rename_i hs
        subst h
        exact ⟨0, e, rfl, hs, rfl⟩
      · cases h
theorem hit_none : ∀ (es : CEs) (os : VE) (i : Nat), hit es os i = none → ∀ p e, getEs es p = some e → slotOf e = some i → getW os p = none
  | .nil, os, i, h, p, e, g, _ => by cases g
  | .cons x es, [], i, h, p, e, g, _ => rfl
  | .cons x es, o :: os, i, h, p, e, g, hs => by
    unfold hit at h
    cases z : hit es os i with
    | some u => rw [z] at h; cases h
    | none =>
      rw [z] at h
      dsimp only at h
      cases p with
      | zero =>
        cases g
        rw [if_pos hs] at h
        subst h
        rfl
      | succ p =>
        have := hit_none es os i z p e g hs
        unfold getW at this ⊢
        simpa using this
theorem Ac.back {β : Type} {es : CEs} {w : VE} {m : Rv Vv} {m' : Res β} {Q Q' : Vv → VE → β → VH → Prop} {E E' : VH → Prop} (x : Ac m m' Q E) (f : ∀ v os d h, Q v os d h → Q' v (wbs es os w) d h) (g : ∀ h, E h → E' h) : Ac (PV.back es w m) m' Q' E' := by
  cases m with
  | ok v os =>
    obtain ⟨d, h, e, q⟩ := x
    exact ⟨d, h, e, f _ _ _ _ q⟩
  | exc c =>
    obtain ⟨h, e, q⟩ := x
    exact ⟨h, e, g h q⟩
  | stuck => trivial
theorem Inv.anti2 {C : Ck} {L : Nat} {B N N' K : Nat → Prop} {h' : VH} {r : PI.Env} {w' : VE} (I' : Inv C L B N' K h' r w') (s : ∀ n, N n → N' n) (m : ∀ i, i ∈ C.M → ∀ n, r[i]? = some (some (.ref n)) → N n) (b : ∀ n, B n → N n) : Inv C L B N K h' r w' where
  len := I'.len
  sl := fun i o u e1 e2 => by
    have := I'.sl i o u e1 e2
    cases o with
    | none => cases u with
      | none => trivial
      | some v => exact this.elim
    | some d => cases u with
      | none => exact this.elim
      | some v => exact Sl.anti s this
  rd := fun i hi n e z => I'.rd i hi n e (s n z)
  mu := fun i hi n e => ⟨m i hi n e, (I'.mu i hi n e).2⟩
  MO := I'.MO
  bN := fun n z => I'.bN n (s n z)
  bK := I'.bK
  BN := b
  BL := I'.BL
  loc := I'.loc
  prm := I'.prm
  hL := I'.hL
theorem lits_ev {r : PI.Env} {h : VH} {w : VE} : ∀ (es : CEs) (ls : List Lit), litsOf es = some ls → vEs Fv es w = .ok (ls.map Lv) w ∧ evEs F es r h = .ok (ls.map Lit.d) h ∧ ∀ os, wbs es os w = w
  | .nil, ls, e => by
    cases e
    refine ⟨by simp only [vEs]; rfl, by simp only [evEs]; rfl, fun os => by unfold wbs; rfl⟩
  | .cons (.lit l) es, ls, e => by
    unfold litsOf at e
    obtain ⟨ls', e1, rfl⟩ := Option.map_eq_some_iff.mp e
    obtain ⟨h1, h2, h3⟩ := lits_ev (r := r) (h := h) (w := w) es ls' e1
    refine ⟨by simp only [vEs, vE, h1, bd]; rfl, by simp only [evEs, evE, h2, bnd]; rfl, fun os => ?_⟩
    cases os with
    | nil => unfold wbs; rfl
    | cons o os =>
      unfold wbs
      rw [show slotOf (.lit l) = none from rfl]
      cases o <;> exact h3 os
  | .cons (.var _) _, _, e | .cons (.glob _ _) _, _, e | .cons (.tup _) _, _, e | .cons (.lst _) _, _, e | .cons .dnK _, _, e | .cons .dnT _, _, e | .cons (.call _ _) _, _, e | .cons (.b1 _ _) _, _, e | .cons (.b2 _ _ _) _, _, e | .cons (.isi _ _) _, _, e | .cons (.bin _ _ _) _, _, e | .cons (.neg _) _, _, e | .cons (.cmp _ _ _) _, _, e | .cons (.chain _ _ _ _ _) _, _, e | .cons (.isN _) _, _, e | .cons (.notN _) _, _, e | .cons (.isB _ _) _, _, e | .cons (.notB _ _) _, _, e | .cons (.and_ _ _) _, _, e | .cons (.or_ _ _) _, _, e | .cons (.not_ _) _, _, e | .cons (.ix _ _) _, _, e | .cons (.sl _ _ _) _, _, e | .cons (.rvs _) _, _, e | .cons (.lc _ _ _ _) _, _, e | .cons (.dc _ _ _ _) _, _, e | .cons (.app _ _) _, _, e | .cons (.ext _ _) _, _, e | .cons (.pop _) _, _, e | .cons (.idx _ _) _, _, e | .cons (.idxT _ _) _, _, e | .cons (.get2 _ _ _) _, _, e | .cons (.lrg _) _, _, e => by cases e
def FsOK (Fv : FnsV) (F : Fns) (an : Nat → An) (es : CEs) : Prop := ∀ e es', es = .cons e es' → EOK Fv F an e
theorem lit_sl {h : VH} {N : Nat → Prop} (l : Lit) : Sl h N l.d (Lv l) := by cases l <;> constructor
theorem lit_ref {l : Lit} {n : Nat} : l.d ≠ .ref n := by cases l <;> exact nofun
/-- what is new goes to a callee who may change it -/
theorem o_callF (HF : FOK Fv F an) {f : Nat} {es : CEs} (HE : FsOK Fv F an es) : ∀ (C : Ck) (L : Nat) (B N K : Nat → Prop) (h : VH) (r : PI.Env) (w : VE), C.an = an → (C.an f).io = [0] → chF es C = true → Inv C L B N K h r w →
    Ac (vE Fv (.call f es) w) (evE F (.call f es) r h) (fun v w' d h' => Good C L B N K h r (freshE C (.call f es)) d v h' w') (fun h' => Keep N K h h') := by
  intro C L B N K h r w ha hio c I
  cases es with
  | nil => cases c
  | cons e es =>
  simp only [chF, Bool.and_eq_true, Bool.not_eq_true'] at c
  obtain ⟨⟨⟨cv, cf⟩, ce⟩, cl⟩ := c
  obtain ⟨ls, hls⟩ := Option.isSome_iff_exists.mp cl
  have hs : slotOf e = none := by
    unfold isVar at cv
    cases z : slotOf e with
    | none => rfl
    | some i => rw [z] at cv; cases cv
  simp only [vE, evE, vEs, evEs]
  have HE := HE e es rfl
  have hin : Ac (bd (vE Fv e w) fun d w => bd (vEs Fv es w) fun ds w => .ok (d :: ds) w) (bnd (evE F e r h) fun d h => bnd (evEs F es r h) fun ds h => .ok (d :: ds) h)
      (fun vs w1 ds h1 => ∃ v d, vs = v :: ls.map Lv ∧ ds = d :: ls.map Lit.d ∧ (∀ os, wbs es os w1 = w1) ∧ Good C L B N K h r (freshE C e) d v h1 w1) (fun h' => Keep N K h h') := by
    refine (HE C L B N K h r w ha ce I).bind (fun v w1 d h1 g => ?_) fun _ z => z
    obtain ⟨e1, e2, e3⟩ := lits_ev (Fv := Fv) (F := F) (r := r) (h := h1) (w := w1) es ls hls
    rw [e1, e2]
    exact Ac.ok ⟨v, d, rfl, rfl, e3, g⟩
  refine hin.bind (fun vs w1 ds h1 ⟨v, d, evs, eds, hw, g⟩ => ?_) fun _ z => z
  subst evs eds
  have wb : ∀ os, wbs (.cons e es) os w1 = w1 := fun os => by
    cases os with
    | nil => unfold wbs; rfl
    | cons o os =>
      unfold wbs
      rw [hs]
      cases o <;> exact hw os
  -- the objects that the callee sees
  obtain ⟨N', s1, s2, I', sl', own⟩ : ∃ N' : Nat → Prop, (∀ n, N n → N' n) ∧ (∀ n, N' n → N n ∨ h.length ≤ n) ∧ Inv C L B N' K h1 r w1 ∧ Sl h1 N' d v ∧ ∀ n, d = .ref n → N' n ∧ h.length ≤ n := by
    by_cases hd : ∃ n, d = .ref n
    · obtain ⟨n, hd⟩ := hd
      obtain ⟨z1, z2, z3⟩ := g.fr cf n hd
      refine ⟨add N n, fun _ z => .inl z, fun m z => z.imp id fun z => by omega, z2, z3, fun m hm => ?_⟩
      rw [hd] at hm
      cases hm
      exact ⟨.inr rfl, z1⟩
    · exact ⟨N, fun _ z => z, fun _ z => .inl z, g.iv, g.rd.sl, fun n hn => (hd ⟨n, hn⟩).elim⟩
  have litN : ∀ {p : Nat} {x : D}, (ls.map Lit.d)[p]? = some x → ∀ n, x ≠ .ref n := fun {p x} e n => by
    rw [List.getElem?_map] at e
    obtain ⟨l, _, rfl⟩ := Option.map_eq_some_iff.mp e
    exact lit_ref
  have pre : Pre (C.an f) N' (fun n => n < h1.length ∧ d ≠ .ref n) h1 (d :: ls.map Lit.d) (v :: ls.map Lv) := {
    len := by simp
    sl := fun p x y e1 e2 => by
      cases p with
      | zero => simp at e1 e2; subst e1; subst e2; exact sl'
      | succ p =>
        simp at e1 e2
        obtain ⟨l, hl, rfl⟩ := e1
        obtain ⟨l', hl', rfl⟩ := e2
        rw [hl] at hl'
        cases hl'
        exact lit_sl l
    pl := fun p n hp _ e => by
      rw [hio] at hp
      cases p with
      | zero => exact (hp (by simp)).elim
      | succ p => exact (litN (by simpa using e) n rfl).elim
    io := fun p hp n e => by
      rw [hio] at hp
      have : p = 0 := by simpa using hp
      subst this
      have hd : d = .ref n := by simpa using e
      refine ⟨(own n hd).1, fun z => z.2 hd, fun q _ hq e' => ?_⟩
      cases q with
      | zero => exact hq rfl
      | succ q => exact litN (by simpa using e') n rfl
    bN := I'.bN
    bK := fun n z => z.1 }
  refine Ac.back (by rw [← ha] at HF; exact HF f N' _ h1 _ _ pre) (fun v2 os d2 h2 P => ?_) fun h2 k2 => ?_
  · have kk : Keep N' K h1 h2 := P.kp.weak (fun n _ z => .inl z) fun n ln z => .inr ⟨ln, fun hd => absurd (I.bK n z) (by have := (own n hd).2; omega)⟩
    have hold : ∀ n, n < h.length → h2[n]? = h1[n]? := fun n ln => P.kp.2 n (Nat.lt_of_lt_of_le ln g.kp.1) (.inr ⟨Nat.lt_of_lt_of_le ln g.kp.1, fun hd => absurd ln (by have := (own n hd).2; omega)⟩)
    have own2 : ∀ i, i ∈ C.O → ∀ n, r[i]? = some (some (.ref n)) → h2[n]? = h1[n]? := fun i hi n e => hold n (I.lt e)
    have I2 : Inv C L B N' K h2 r w1 := I'.go kk own2
    rw [wb os]
    refine ⟨P.rd.anti s1, ⟨Nat.le_trans g.kp.1 P.kp.1, fun n ln z => (hold n ln).trans (g.kp.2 n ln z)⟩, I2.anti2 s1 (fun i hi n e => (I.mu i hi n e).1) I.BN, fun hfr n en => ?_⟩
    obtain ⟨z1, z2, z3⟩ := P.fr hfr n en
    have hn2 : n < h2.length := by subst en; exact z2.lt
    have I3 : Inv C L B (add N' n) K h2 r w1 := I'.more z1 hn2 kk I2 own2
    exact ⟨Nat.le_trans g.kp.1 z1, I3.anti2 (fun m z => z.imp (s1 m) id) (fun i hi m e => .inl (I.mu i hi m e).1) (fun m z => .inl (I.BN m z)), z2.anti fun m z => z.imp (s1 m) id⟩
  · exact ⟨Nat.le_trans g.kp.1 k2.1, fun n ln z => (k2.2 n (Nat.lt_of_lt_of_le ln g.kp.1) (.inr ⟨Nat.lt_of_lt_of_le ln g.kp.1, fun hd => absurd ln (by have := (own n hd).2; omega)⟩)).trans (g.kp.2 n ln z)⟩
theorem o_call (HF : FOK Fv F an) {f : Nat} {es : CEs} (HA : AsOK Fv F an es) (HE : FsOK Fv F an es) : EOK Fv F an (.call f es) := by
  intro C L B N K h r w ha c I
  simp only [chE, Bool.or_eq_true, Bool.and_eq_true, decide_eq_true_eq] at c
  rcases c with c | ⟨c1, c2⟩
  case inr => exact o_callF HF HE C L B N K h r w ha c1 c2 I
  obtain ⟨nd, cA⟩ := c
  simp only [vE, evE]
  generalize hjs : bares C (C.an f).io (C.an f).ne 0 es = js at nd cA
  have jsO : ∀ j, j ∈ js → j ∈ C.O := fun j hj => bares_in es 0 j (hjs ▸ hj)
  have I' := I.freeze (js := js) jsO
  have wk : ∀ {h2 h3 : VH}, Keep N (frK r js K) h2 h3 → Keep N K h2 h3 := fun k => k.weak (fun n _ z => .inl z) fun n _ z => .inr (.inl z)
  refine (HA (C.drop js) L B N (frK r js K) h r w C.M (C.an f).io (C.an f).ne 0 ha cA I.MO (fun i hi n e => .inr ⟨i, ?_, e⟩) I').bind (fun vs w1 ds h1 ⟨A, k1, I1⟩ => ?_) fun _ z => wk z
  · rw [bares_O (C := C.drop js) (C' := C) rfl, hjs] at hi; exact hi
  obtain ⟨hl, hat⟩ := ArgR.at es 0 ds vs A
  have hsm := ArgR.some es 0 ds vs A
  -- the objects that the callee may change
  have ioj : ∀ p n, p ∈ (C.an f).io → ds[p]? = some (.ref n) → ∃ e j, getEs es p = some e ∧ slotOf e = some j ∧ j ∈ C.M ∧ r[j]? = some (some (.ref n)) := fun p n hp e => by
    obtain ⟨x, v, g1, g2, g3, g4, g5⟩ := hat p _ e
    obtain ⟨j, hj, hM⟩ := chAs_io es 0 p x cA g1 (by simpa using hp)
    exact ⟨x, j, g1, hj, hM, g5 j hj⟩
  have I1t := I1.thaw I (fun _ z => z) (fun _ z => .inl z) .refl
  have pre : Pre (C.an f) N (fun n => n < h1.length ∧ ¬ ∃ p, p ∈ (C.an f).io ∧ ds[p]? = some (.ref n)) h1 ds vs := {
    len := hl
    sl := fun p d v e1 e2 => by
      obtain ⟨x, v', g1, g2, g3, _⟩ := hat p d e1
      rw [g2] at e2
      cases e2
      exact g3
    pl := fun p n h1 h2 e => by
      obtain ⟨x, v', g1, g2, g3, g4, _⟩ := hat p _ e
      rcases g4 with g4 | ⟨z, _⟩
      · exact g4 n rfl
      · rw [Nat.zero_add] at z
        exact (z.elim h1 h2).elim
    io := fun p hp n e => by
      obtain ⟨x, j, g1, g2, g3, g4⟩ := ioj p n hp e
      obtain ⟨m1, m2, m3⟩ := I.mu j g3 n g4
      refine ⟨m1, fun z => z.2 ⟨p, hp, e⟩, fun q hq hne e' => ?_⟩
      obtain ⟨x', v', y1, y2, y3, y4, y5⟩ := hat q _ e'
      rcases y4 with y4 | ⟨_, j', hj', hO'⟩
      · exact y4 n rfl m1
      · have : j' ≠ j := fun z => by
          subst z
          exact hne (bares_nodup (C := C) es 0 q p x' x j' (by rw [hjs]; exact nd) y1 g1 (by simpa using hq) (by simpa using Or.inl hp) hj' g2 hO')
        exact m3 j' hO' this (y5 j' hj')
    bN := I1.bN
    bK := fun n z => z.1 }
  refine Ac.back (by rw [← ha] at HF; exact HF f N _ h1 ds vs pre) (fun v os d h2 P => ?_) fun h2 k2 => ?_
  · -- the names behind the call
    have kk : Keep N K h1 h2 := P.kp.weak (fun n _ z => .inl z) fun n ln z => .inr ⟨ln, fun ⟨p, hp, e⟩ => by
      obtain ⟨x, j, g1, g2, g3, g4⟩ := ioj p n hp e
      exact (I.mu j g3 n g4).2.1 z⟩
    have inv : ∀ N2 : Nat → Prop, (∀ n, N n → N2 n) → (∀ n, N2 n → N n ∨ h1.length ≤ n) → (∀ n, N2 n → n < h2.length) → OutR (C.an f).io N2 h2 ds os → Inv C L B N2 K h2 r (wbs es os w1) := fun N2 s1 s2 s3 O => {
      len := by rw [wbs_len]; exact I1.len
      sl := fun i o u e1 e2 => by
        have hi : i < w1.length := by rw [← I1.len]; exact (List.getElem?_eq_some_iff.mp e1).1
        rw [wbs_get es os w1 i hi] at e2
        cases hh : hit es os i with
        | some v' =>
          rw [hh] at e2
          cases e2
          obtain ⟨p, x, g1, g2, g3⟩ := hit_some es os i v' hh
          obtain ⟨d', ed⟩ := hsm p x g1
          obtain ⟨x', v2, y1, y2, y3, y4, y5⟩ := hat p d' ed
          rw [g1] at y1
          cases y1
          have er := y5 i g2
          rw [e1] at er
          cases er
          by_cases hp : p ∈ (C.an f).io
          · obtain ⟨v3, z1, z2⟩ := O.1 p d' hp ed
            rw [g3] at z1
            cases z1
            exact z2
          · have := O.2 p hp
            unfold getW at this
            rw [g3] at this
            cases this
        | none =>
          rw [hh] at e2
          have := I1t.sl i o u e1 e2
          cases o with
          | none => cases u with
            | none => trivial
            | some v => exact this.elim
          | some d0 => cases u with
            | none => exact this.elim
            | some v0 =>
              have s : Sl h1 N d0 v0 := this
              refine s.to (fun _ _ z => (z.old s2).keep fun n a ln => P.kp.2 n ln (.inl fun y => a (s1 n y))) fun n o' en eo => ?_
              subst en
              have ln := (List.getElem?_eq_some_iff.mp eo).1
              refine (P.kp.2 n ln (.inr ⟨ln, fun ⟨p, hp, e⟩ => ?_⟩)).trans eo
              obtain ⟨x, j, g1, g2, g3, g4⟩ := ioj p n hp e
              obtain ⟨m1, m2, m3⟩ := I.mu j g3 n g4
              by_cases hij : i = j
              · subst hij
                have hn := hit_none es os i hh p x g1 g2
                obtain ⟨v3, z1, z2⟩ := O.1 p _ hp e
                unfold getW at hn
                rw [z1] at hn
                cases hn
              · by_cases hO : i ∈ C.O
                · exact m3 i hO hij e1
                · exact I1t.rd i hO n e1 m1
      rd := fun i hi n e z => (s2 n z).elim (I1t.rd i hi n e) fun z => absurd (I1t.lt e) (by omega)
      mu := fun i hi n e => by
        obtain ⟨m1, m2, m3⟩ := I1t.mu i hi n e
        exact ⟨s1 n m1, m2, m3⟩
      MO := I1t.MO
      bN := s3
      bK := fun n z => Nat.lt_of_lt_of_le (I1t.bK n z) P.kp.1
      BN := fun n z => s1 n (I1t.BN n z)
      BL := I1t.BL
      loc := I1t.loc
      prm := I1t.prm
      hL := Nat.le_trans I1t.hL P.kp.1 }
    refine ⟨P.rd, (wk k1).trans kk, inv N (fun _ z => z) (fun _ z => .inl z) (fun n z => Nat.lt_of_lt_of_le (I1.bN n z) P.kp.1) P.out, fun hfr n en => ?_⟩
    obtain ⟨z1, z2, z3⟩ := P.fr hfr n en
    have hn2 : n < h2.length := by subst en; exact z2.lt
    exact ⟨Nat.le_trans k1.1 z1, inv (add N n) (fun _ z => .inl z) (fun m z => z.imp id fun z => by omega) (fun m z => z.elim (fun z => Nat.lt_of_lt_of_le (I1.bN m z) P.kp.1) fun z => by omega) z3, z2⟩
  · refine (wk k1).trans (k2.weak (fun n _ z => .inl z) fun n ln z => .inr ⟨ln, fun ⟨p, hp, e⟩ => ?_⟩)
    obtain ⟨x, j, g1, g2, g3, g4⟩ := ioj p n hp e
    exact (I.mu j g3 n g4).2.1 z
end
section
variable {Fv : FnsV} {F : Fns} {an : Nat → An} (HF : FOK Fv F an)
include HF
mutual
theorem oE : ∀ e : CE, EOK Fv F an e
  | .var i => o_var
  | .lit l => o_lit
  | .glob x l => o_glob
  | .tup es => o_tup (oEs es)
  | .lst es => o_lst (oEs es)
  | .dnK => o_dnK
  | .dnT => o_dnT
  | .call f es => o_call HF (oAs es) (oFs es)
  | .b1 b a => o_b1 (oE a)
  | .b2 b a c => o_b2 (oE a) (oE c)
  | .isi a t => o_isi (oE a)
  | .bin o a b => o_bin (oE a) (oE b)
  | .neg a => o_neg (oE a)
  | .cmp o a b => o_cmp (oE a) (oE b)
  | .chain o o' a b c => o_chain (oE a) (oE b) (oE c)
  | .isN a => o_isN (oE a)
  | .notN a => o_notN (oE a)
  | .isB k a => o_isB (oE a)
  | .notB k a => o_notB (oE a)
  | .and_ a b => o_and (oE a) (oE b)
  | .or_ a b => o_or (oE a) (oE b)
  | .not_ a => o_not (oE a)
  | .ix a i => o_ix (oE a) (oE i)
  | .sl a lo hi => o_sl (oE a) (oO lo) (oO hi)
  | .rvs a => o_rvs (oE a)
  | .lc g it .none e => o_lc0 (oG g) (oI it) (oE e)
  | .lc g it (.some c) e => o_lc1 (oG g) (oI it) (oE c) (oE e)
  | .dc g it k v => o_dc (oG g) (oI it) (oE k) (oE v)
  | .app o e => o_app (oE e)
  | .ext o e => o_ext (oE e)
  | .pop o => o_pop
  | .idx o e => o_idx (oE o) (oE e)
  | .idxT o e => fun _ _ _ _ _ _ _ _ _ c _ => by simp only [vE]; exact trivial
  | .get2 o k d => o_get2 (oE o) (oE k) (oE d)
  | .lrg e => o_lrg (oE e)
theorem oFs : ∀ e : CEs, FsOK Fv F an e
  | .nil => fun _ _ z => by cases z
  | .cons e es => fun e' es' z => by
    have h := oE e
    cases z
    exact h
theorem oO : ∀ e : CO, OOK Fv F an e
  | .none => o_onone
  | .some e => o_osome (oE e)
theorem oEs : ∀ e : CEs, EsOK Fv F an e
  | .nil => o_enil
  | .cons e es => o_econs (oE e) (oEs es)
theorem oAs : ∀ e : CEs, AsOK Fv F an e
  | .nil => a_nil
  | .cons e es => a_cons (oE e) (oAs es)
theorem oI : ∀ e : CI, IOK Fv F an e
  | .seq e => i_seq (oE e)
  | .rng1 e => i_rng1 (oE e)
  | .rng2 a b => i_rng2 (oE a) (oE b)
  | .enum e => i_enum (oE e)
  | .zip a b => i_zip (oE a) (oE b)
  | .rev e => i_rev (oE e)
  | .revrng e => i_revrng (oE e)
  | .keys e => i_keys
theorem oG : ∀ g : TG, GOK Fv F an g
  | .name i => g_name
  | .tup ts => g_tup (oGs ts)
  | .sub o i => g_sub (oE i)
theorem oGs : ∀ g : TGs, GsOK Fv F an g
  | .nil => g_nil
  | .cons t ts => g_cons (oG t) (oGs ts)
end
end
end PV
end
section
set_option autoImplicit false
set_option maxRecDepth 100000
/-! Statements and defs over values (own work). -/
namespace PV
open PySem PI
open L2 (Key)
def Ck.ret (C : Ck) : Ck := ⟨C.P, C.M.filter fun m => C.P.contains m, C.P, C.an⟩
section
variable (io : List Nat) (fr : Bool)
mutual
def chS : CS → Ck → Bool
  | .expr e, C => chE e C
  | .asg t e, C => (match t with
    | .name i => cond (C.O.contains i) (C.M.contains i && !C.P.contains i && freshE C e && chE e C) (chE e C)
    | _ => chE e C && chG t C)
  | .ret e, C => cond fr (freshE C e && chE e C || (match slotOf e with | some i => C.M.contains i && !C.P.contains i | none => false)) (chE e C || chE e C.ret)
  | .retN, _ => true
  | .if_ c a b, C => (isVar c || chE c C) && chSs a C && chSs b C
  | .for_ t it body, C => chI it C && chG t (C.drop (frzI C it)) && chSs body (C.drop (frzI C it))
  | .while_ c body, C => (isVar c || chE c C) && chSs body C
  | .raise _, _ => true
  | .try_ body _ _, C => io.isEmpty && chSs body C
  | .pass, _ => true
  | .brk, _ => true
  | .cnt, _ => true
def chSs : CSs → Ck → Bool
  | .nil, _ => true
  | .cons s ss, C => chS s C && chSs ss C
end
end
def RetO (io : List Nat) (B : Nat → Prop) (r : PI.Env) (w' : VE) (h' : VH) : Prop := ∀ p, p ∈ io → ∀ d0, r[p]? = some (some d0) → ∃ u, w'[p]? = some (some u) ∧ Sl h' B d0 u
def RetQ (L : Nat) (B : Nat → Prop) (io : List Nat) (fr : Bool) (r : PI.Env) (v : Vv) (w' : VE) (d : D) (h' : VH) : Prop :=
  Rd h' B d v ∧ RetO io B r w' h' ∧ (fr = true → ∀ n, d = .ref n → L ≤ n ∧ Sl h' (add B n) d v ∧ RetO io (add B n) r w' h')
/-- names and store behind a statement that goes on -/
def Nx (C : Ck) (L : Nat) (B N K : Nat → Prop) (h : VH) (r : PI.Env) (w' : VE) (r' : PI.Env) (h' : VH) : Prop := ∃ N', (∀ n, N n → N' n) ∧ (∀ n, N' n → N n ∨ h.length ≤ n) ∧ Keep N K h h' ∧ Inv C L B N' K h' r' w' ∧ Fix C r r'
def SQ (C : Ck) (L : Nat) (B : Nat → Prop) (io : List Nat) (fr : Bool) (N K : Nat → Prop) (h : VH) (r : PI.Env) (f : PV.Fv) (w' : VE) (f' : Fl) (h' : VH) : Prop := match f, f' with
  | .nx, .nx r' => Nx C L B N K h r w' r' h'
  | .bk, .bk r' => Nx C L B N K h r w' r' h'
  | .ct, .ct r' => Nx C L B N K h r w' r' h'
  | .rt v, .rt d => Keep N K h h' ∧ RetQ L B io fr r v w' d h'
  | _, _ => False
section
variable {C : Ck} {L : Nat} {B N N' K : Nat → Prop} {h h1 h' : VH} {r r1 : PI.Env} {w w' : VE} {io : List Nat} {fr : Bool}
theorem Nx.next {r' : PI.Env} (s : ∀ n, N n → N' n) (t : ∀ n, N' n → N n ∨ h.length ≤ n) (k : Keep N K h h1) (f : Fix C r r1) (x : Nx C L B N' K h1 r1 w' r' h') : Nx C L B N K h r w' r' h' := by
  obtain ⟨N2, a, b, k2, I, f2⟩ := x
  exact ⟨N2, fun n z => a n (s n z), fun n z => (b n z).elim (t n) fun z => .inr (Nat.le_trans k.1 z), k.next k2 t, I, f.trans f2⟩
theorem RetO.to {r' : PI.Env} (x : RetO io B r1 w' h') (e : ∀ p, p ∈ io → r1[p]? = r[p]?) : RetO io B r w' h' := fun p hp d0 e0 => x p hp d0 (by rw [e p hp]; exact e0)
theorem SQ.next {f : Fv} {f' : Fl} (hio : ∀ p, p ∈ io → p ∈ C.O ∧ p ∈ C.P) (s : ∀ n, N n → N' n) (t : ∀ n, N' n → N n ∨ h.length ≤ n) (k : Keep N K h h1) (fx : Fix C r r1) (x : SQ C L B io fr N' K h1 r1 f w' f' h') : SQ C L B io fr N K h r f w' f' h' := by
  cases f <;> cases f' <;> first | exact x.elim | skip
  · exact Nx.next s t k fx x
  · obtain ⟨k2, q1, q2, q3⟩ := x
    have e : ∀ p, p ∈ io → r1[p]? = r[p]? := fun p hp => fx p (hio p hp).1 (.inr (hio p hp).2)
    exact ⟨k.next k2 t, q1, RetO.to (r' := r) q2 e, fun z n en => ⟨(q3 z n en).1, (q3 z n en).2.1, RetO.to (r' := r) (q3 z n en).2.2 e⟩⟩
  · exact Nx.next s t k fx x
  · exact Nx.next s t k fx x
theorem Nx.of (k : Keep N K h h') (I : Inv C L B N K h' r w') : Nx C L B N K h r w' r h' := ⟨N, fun _ z => z, fun _ z => .inl z, k, I, .refl⟩
theorem RetO.of (I : Inv C L B N K h' r w') (s : ∀ n, N' n → N n) : RetO io N' r w' h' := fun p hp d0 e0 => by
  have hi : p < w'.length := by rw [← I.len]; exact (List.getElem?_eq_some_iff.mp e0).1
  have := I.sl p _ _ e0 (List.getElem?_eq_getElem hi)
  cases hu : w'[p] with
  | none => rw [hu] at this; exact this.elim
  | some v =>
    rw [hu] at this
    exact ⟨v, by rw [List.getElem?_eq_getElem hi, hu], Sl.anti s this⟩
theorem Inv.ret (I : Inv C L B N K h r w) (hP : ∀ p, p ∈ C.P → p ∈ C.O) : Inv C.ret L B B K h r w where
  len := I.len
  sl := fun i o u e1 e2 => by
    have := I.sl i o u e1 e2
    cases o with
    | none => cases u with
      | none => trivial
      | some v => exact this.elim
    | some d => cases u with
      | none => exact this.elim
      | some v => exact Sl.anti I.BN this
  rd := fun i hi n e z => by
    by_cases hO : i ∈ C.O
    · have := I.loc i hO hi n e
      have := I.BL n z
      omega
    · exact I.rd i hO n e (I.BN n z)
  mu := fun i hi n e => by
    have hi : i ∈ C.M.filter fun m => C.P.contains m := hi
    rw [List.mem_filter] at hi
    obtain ⟨m1, m2, m3⟩ := I.mu i hi.1 n e
    exact ⟨I.prm i hi.1 (by simpa using hi.2) n e, m2, fun j hj hne => m3 j (hP j hj) hne⟩
  MO := fun i hi => by
    have hi : i ∈ C.M.filter fun m => C.P.contains m := hi
    rw [List.mem_filter] at hi
    exact (by simpa using hi.2 : i ∈ C.P)
  bN := fun n z => I.bN n (I.BN n z)
  bK := I.bK
  BN := fun _ z => z
  BL := I.BL
  loc := fun i hi hp => (hp hi).elim
  prm := fun i hi hp n e => by
    have hi : i ∈ C.M.filter fun m => C.P.contains m := hi
    rw [List.mem_filter] at hi
    exact I.prm i hi.1 hp n e
  hL := I.hL
/-- an owning name is bound anew -/
theorem Inv.setO (I : Inv C L B N K h r w) {i : Nat} (hi : i ∈ C.O) (hp : i ∉ C.P) {d : D} {v : Vv} (s : Sl h N d v) (a : ∀ n, d = .ref n → N n ∧ ¬ K n ∧ L ≤ n ∧ ∀ j, j ∈ C.O → r[j]? ≠ some (some (.ref n))) : Inv C L B N K h (r.set i (some d)) (w.set i (some v)) := by
  have ref : ∀ (j : Nat) (o : Option D), j ≠ i → (r.set i (some d))[j]? = some o → r[j]? = some o := fun j o hj e => by
    rw [List.getElem?_set_ne fun z => hj z.symm] at e; exact e
  have at_i : ∀ {o : Option D}, (r.set i (some d))[i]? = some o → o = some d := fun {o} e => by
    rw [List.getElem?_set] at e
    simp only [if_true] at e
    split at e
    · cases e; rfl
    · cases e
  exact {
    len := by rw [List.length_set, List.length_set]; exact I.len
    sl := fun j o u e1 e2 => by
      by_cases hj : j = i
      · subst hj
        rw [at_i e1]
        rw [List.getElem?_set] at e2
        simp only [if_true] at e2
        split at e2
        · cases e2; exact s
        · cases e2
      · rw [List.getElem?_set_ne fun z => hj z.symm] at e1 e2
        exact I.sl j o u e1 e2
    rd := fun j hj n e => I.rd j hj n (ref j _ (fun z => hj (z ▸ hi)) e)
    mu := fun j hj n e => by
      by_cases hji : j = i
      · subst hji
        obtain ⟨m1, m2, _, m3⟩ := a n (Option.some.inj (at_i e)).symm
        exact ⟨m1, m2, fun k hk hne e' => m3 k hk (ref k _ hne e')⟩
      · obtain ⟨m1, m2, m3⟩ := I.mu j hj n (ref j _ hji e)
        refine ⟨m1, m2, fun k hk hne e' => ?_⟩
        by_cases hki : k = i
        · subst hki
          obtain ⟨_, _, _, m4⟩ := a n (Option.some.inj (at_i e')).symm
          exact m4 j (I.MO j hj) (ref j _ hji e)
        · exact m3 k hk hne (ref k _ hki e')
    MO := I.MO, bN := I.bN, bK := I.bK, BN := I.BN, BL := I.BL
    loc := fun j hj hp' n e => by
      by_cases hji : j = i
      · subst hji
        exact (a n (Option.some.inj (at_i e)).symm).2.2.1
      · exact I.loc j hj hp' n (ref j _ hji e)
    prm := fun j hj hp' n e => by
      by_cases hji : j = i
      · subst hji; exact (hp hp').elim
      · exact I.prm j hj hp' n (ref j _ hji e)
    hL := I.hL }
end
section
variable {Fv : FnsV} {F : Fns} {an : Nat → An} (HF : FOK Fv F an) (sub : Subs) (io : List Nat) (fr : Bool)
def SOK (Fv : FnsV) (F : Fns) (an : Nat → An) (sub : Subs) (io : List Nat) (fr : Bool) (s : CS) : Prop := ∀ (C : Ck) (L : Nat) (B N K : Nat → Prop) (h : VH) (r : PI.Env) (w : VE), C.an = an → (∀ p, p ∈ io → p ∈ C.O ∧ p ∈ C.P) → (∀ p, p ∈ C.P → p ∈ C.O) → chS io fr s C = true → Inv C L B N K h r w →
  Ac (vS Fv sub s w) (evS F sub s r h) (SQ C L B io fr N K h r) (fun h' => Keep N K h h')
def SsOK (Fv : FnsV) (F : Fns) (an : Nat → An) (sub : Subs) (io : List Nat) (fr : Bool) (s : CSs) : Prop := ∀ (C : Ck) (L : Nat) (B N K : Nat → Prop) (h : VH) (r : PI.Env) (w : VE), C.an = an → (∀ p, p ∈ io → p ∈ C.O ∧ p ∈ C.P) → (∀ p, p ∈ C.P → p ∈ C.O) → chSs io fr s C = true → Inv C L B N K h r w →
  Ac (vSs Fv sub s w) (evSs F sub s r h) (SQ C L B io fr N K h r) (fun h' => Keep N K h h')
end
section
variable {Fv : FnsV} {F : Fns} {an : Nat → An} {sub : Subs} {io : List Nat} {fr : Bool}
theorem t_expr (HF : FOK Fv F an) {e : CE} : SOK Fv F an sub io fr (.expr e) := by
  intro C L B N K h r w ha hio hP c I
  simp only [chS] at c
  simp only [vS, evS]
  exact (oE HF e C L B N K h r w ha c I).bind (fun v w1 d h1 g => Ac.ok (Nx.of g.kp g.iv)) fun _ z => z
theorem t_asg (HF : FOK Fv F an) {t : TG} {e : CE} : SOK Fv F an sub io fr (.asg t e) := by
  intro C L B N K h r w ha hio hP c I
  simp only [vS, evS]
  have plain : chE e C = true → chG t C = true → Ac (bd (vE Fv e w) fun d w => bd (aG Fv t d w) fun _ w => .ok .nx w) (bnd (evE F e r h) fun d h => bnd (asgG F t d r h) fun r h => .ok (.nx r) h) (SQ C L B io fr N K h r) (fun h' => Keep N K h h') := by
    intro c1 c2
    refine (oE HF e C L B N K h r w ha c1 I).bind (fun v w1 d h1 g => ?_) fun _ z => z
    refine (oG HF t C L B N K h1 r w1 d v ha c2 g.iv g.rd).bind (fun _ w2 r2 h2 ⟨k, I2, l, f⟩ => ?_) fun _ z => g.kp.trans z
    exact Ac.ok ⟨N, fun _ z => z, fun _ z => .inl z, g.kp.trans k, I2, fun i hi _ => f i fun z => slots_out t c2 i z hi⟩
  cases t with
  | name i =>
    simp only [chS] at c
    by_cases hO : C.O.contains i = true
    · rw [hO] at c
      simp only [cond_true, Bool.and_eq_true] at c
      obtain ⟨⟨⟨c1, c2⟩, c3⟩, c4⟩ := c
      have hi : i ∈ C.O := mem_of hO
      have hM : i ∈ C.M := mem_of c1
      have hp : i ∉ C.P := not_mem_of c2
      refine (oE HF e C L B N K h r w ha c4 I).bind (fun v w1 d h1 g => ?_) fun _ z => z
      simp only [aG, asgG]
      have fx : Fix C r (r.set i (some d)) := fun j hj hm => List.getElem?_set_ne fun z => by
        subst z
        exact hm.elim (fun z => z hM) hp
      by_cases hd : ∃ n, d = .ref n
      · obtain ⟨n, en⟩ := hd
        obtain ⟨g1, g2, g3⟩ := g.fr c3 n en
        refine Ac.ok ⟨add N n, fun _ z => .inl z, fun m z => z.imp id fun z => by omega, g.kp, g2.setO hi hp g3 fun m em => ?_, fx⟩
        rw [en] at em
        cases em
        exact ⟨.inr rfl, fun z => absurd (I.bK _ z) (by omega), Nat.le_trans I.hL g1, fun j hj ej => absurd (I.lt ej) (by omega)⟩
      · exact Ac.ok ⟨N, fun _ z => z, fun _ z => .inl z, g.kp, g.iv.setO hi hp g.rd.sl fun m em => (hd ⟨m, em⟩).elim, fx⟩
    · have hO' : C.O.contains i = false := by simpa using hO
      rw [hO'] at c
      exact plain c (by simp only [chG, hO']; rfl)
  | tup ts =>
    simp only [chS, Bool.and_eq_true] at c
    exact plain c.1 c.2
  | sub o i =>
    simp only [chS, Bool.and_eq_true] at c
    exact plain c.1 c.2
theorem t_ret (HF : FOK Fv F an) {e : CE} : SOK Fv F an sub io fr (.ret e) := by
  intro C L B N K h r w ha hio hP c I
  simp only [vS, evS]
  have old : ∀ {v : Vv} {w1 : VE} {d : D} {h1 : VH} {f : Bool}, Good C L B N K h r f d v h1 w1 → (fr = true → f = true) → SQ C L B io fr N K h r (.rt v) w1 (.rt d) h1 := fun {v w1 d h1 f} g hf =>
    ⟨g.kp, g.rd.anti I.BN, .of g.iv I.BN, fun z n en => by
      obtain ⟨g1, g2, g3⟩ := g.fr (hf z) n en
      exact ⟨Nat.le_trans I.hL g1, g3.anti fun m y => y.imp (I.BN m) id, .of g2 fun m y => y.imp (I.BN m) id⟩⟩
  by_cases hfr : fr = true
  · simp only [chS, hfr, cond_true] at c
    rcases (Bool.or_eq_true _ _).mp c with c' | c'
    · rw [Bool.and_eq_true] at c'
      exact (oE HF e C L B N K h r w ha c'.2 I).bind (fun v w1 d h1 g => Ac.ok (old g fun _ => c'.1)) fun _ z => z
    · clear c
      cases hs : slotOf e with
      | none => rw [hs] at c'; cases c'
      | some i =>
        rw [hs] at c'
        simp only [Bool.and_eq_true] at c'
        have := slot_var hs
        subst this
        have hM := mem_of c'.1
        have hp := not_mem_of c'.2
        simp only [vE]
        cases hg : getW w i with
        | none => exact trivial
        | some v =>
          obtain ⟨d, er, s⟩ := I.get hg
          rw [evE_var er]
          show Ac (Rv.ok (PV.Fv.rt v) w) (Res.ok (PI.Fl.rt d) h) _ _
          refine Ac.ok ⟨.refl, (s.anti I.BN).rd fun n en => ?_, .of I I.BN, fun _ n en => ?_⟩
          · subst en
            intro z
            have := I.loc i (I.MO i hM) hp n er
            have := I.BL n z
            omega
          · subst en
            obtain ⟨m1, m2, m3⟩ := I.mu i hM n er
            have s1 : ∀ m, add B n m → N m := fun m y => y.elim (I.BN m) fun y => by subst y; exact m1
            exact ⟨I.loc i (I.MO i hM) hp n er, s.anti s1, .of I s1⟩
  · have hfr : fr = false := by simpa using hfr
    simp only [chS, hfr, cond_false] at c
    rcases (Bool.or_eq_true _ _).mp c with c | c
    · exact (oE HF e C L B N K h r w ha c I).bind (fun v w1 d h1 g => Ac.ok (old g fun z => by rw [hfr] at z; cases z)) fun _ z => z
    · refine (oE HF e C.ret L B B K h r w ha c (I.ret hP)).bind (fun v w1 d h1 g => Ac.ok ⟨g.kp.weak (fun n _ z => .inl fun y => z (I.BN n y)) fun n _ z => .inr z, g.rd, .of g.iv fun _ z => z, fun z => by rw [hfr] at z; cases z⟩) fun _ z => z.weak (fun n _ z => .inl fun y => z (I.BN n y)) fun n _ z => .inr z
theorem t_retN : SOK Fv F an sub io fr .retN := by
  intro C L B N K h r w ha hio hP c I
  simp only [vS, evS]
  exact Ac.ok ⟨.refl, .non, .of I I.BN, fun _ n en => by cases en⟩
theorem t_if (HF : FOK Fv F an) {e : CE} {a b : CSs} (HA : SsOK Fv F an sub io fr a) (HB : SsOK Fv F an sub io fr b) : SOK Fv F an sub io fr (.if_ e a b) := by
  intro C L B N K h r w ha hio hP c I
  simp only [chS, Bool.and_eq_true] at c
  obtain ⟨⟨c1, c2⟩, c3⟩ := c
  simp only [vS, evS]
  refine (aok (oE HF e) ha c1 I).bind (fun v w1 d h1 ⟨s, k, I1, _, _⟩ => ?_) fun _ z => z
  refine Ac.op fun b eb => opt_ac (tru_ok s eb) ?_
  refine Ac.cond (fun _ => ?_) fun _ => ?_
  · exact (HA C L B N K h1 r w1 ha hio hP c2 I1).imp (fun f w2 f' h2 q => q.next hio (fun _ z => z) (fun _ z => .inl z) k .refl) fun _ z => k.trans z
  · exact (HB C L B N K h1 r w1 ha hio hP c3 I1).imp (fun f w2 f' h2 q => q.next hio (fun _ z => z) (fun _ z => .inl z) k .refl) fun _ z => k.trans z
/-- a loop's turns -/
theorem loop_ok {C : Ck} {L : Nat} {B N0 K : Nat → Prop} {h0 : VH} {r0 : PI.Env} {src : VH → Bool} {tv : Vv → VE → Rv PV.Fv} {t : D → PI.Env → VH → Res Fl} (hio : ∀ p, p ∈ io → p ∈ C.O ∧ p ∈ C.P)
    (hsrc : ∀ h2, Keep N0 K h0 h2 → src h2 = true)
    (step : ∀ (N : Nat → Prop) (d : D) (v : Vv) (h : VH) (r : PI.Env) (w : VE), Rd h N d v → Inv C L B N K h r w → Ac (tv v w) (t d r h) (SQ C L B io fr N K h r) (fun h' => Keep N K h h')) :
    ∀ (xs : List Vv) (ds : List D) (N : Nat → Prop) (h : VH) (r : PI.Env) (w : VE), A2 (Rd h N) ds xs → (∀ n, N0 n → N n) → (∀ n, N n → N0 n ∨ h0.length ≤ n) → Keep N0 K h0 h → Fix C r0 r → Inv C L B N K h r w →
      Ac (loopF tv xs w) (loopL src t ds r h) (SQ C L B io fr N0 K h0 r0) (fun h' => Keep N0 K h0 h')
  | [], ds, N, h, r, w, q, s1, s2, k, fx, I => by
    have : ds = [] := List.eq_nil_of_length_eq_zero q.1
    subst this
    unfold loopF loopL
    rw [hsrc h k]
    exact Ac.ok ⟨N, s1, s2, k, I, fx⟩
  | x :: xs, ds, N, h, r, w, q, s1, s2, k, fx, I => by
    cases ds with
    | nil => have := q.1; simp at this
    | cons d ds =>
      unfold loopF loopL
      rw [hsrc h k]
      show Ac _ (bnd (t d r h) _) _ _
      refine (step N d x h r w q.head I).bind (fun f w1 f' h1 sq => ?_) fun _ z => k.next z s2
      have go : ∀ r', Nx C L B N K h r w1 r' h1 → Ac (loopF tv xs w1) (loopL src t ds r' h1) (SQ C L B io fr N0 K h0 r0) (fun h' => Keep N0 K h0 h') := fun r' x => by
        obtain ⟨N', a, b, k2, I', f2⟩ := x
        refine loop_ok hio hsrc step xs ds N' h1 r' w1 (q.tail.imp fun _ _ z => ?_) (fun n z => a n (s1 n z)) (fun n z => (b n z).elim (s2 n) fun z => .inr (Nat.le_trans k.1 z)) (k.next k2 s2) (fx.trans f2) I'
        exact (z.old b).keep fun n an ln => k2.2 n ln (.inl fun y => an (a n y))
      cases f <;> cases f' <;> first | exact sq.elim | skip
      · exact go _ sq
      · exact Ac.ok (SQ.next (f := .rt _) (f' := .rt _) hio s1 s2 k fx sq)
      · exact Ac.ok (Nx.next s1 s2 k fx sq)
      · exact go _ sq
theorem t_for (HF : FOK Fv F an) {t : TG} {it : CI} {body : CSs} (HB : SsOK Fv F an sub io fr body) : SOK Fv F an sub io fr (.for_ t it body) := by
  intro C L B N K h r w ha hio hP c I
  simp only [chS, Bool.and_eq_true] at c
  obtain ⟨⟨c1, c2⟩, c3⟩ := c
  simp only [vS, evS]
  refine (oI HF it C L B N K h r w ha c1 I).bind (fun xs w1 s h1 ⟨q, k1, I1, hs⟩ => ?_) fun _ z => z
  have I1' := I1.freeze (js := frzI C it) fun j hj => frzI_O hj
  have wk : ∀ {h2 h3 : VH}, Keep N (frK r (frzI C it) K) h2 h3 → Keep N K h2 h3 := fun k => k.weak (fun n _ z => .inl z) fun n _ z => .inr (.inl z)
  refine (loop_ok (C := C.drop (frzI C it)) (L := L) (B := B) (io := io) (fr := fr) (N0 := N) (K := frK r (frzI C it) K) (h0 := h1) (r0 := r) hio hs ?step xs s.1 N h1 r w1 q (fun _ z => z) (fun _ z => .inl z) .refl .refl I1').imp ?fin fun _ z => k1.trans (wk z)
  case step =>
    intro N2 d v h2 r2 w2 q2 I2
    refine (oG HF t (C.drop (frzI C it)) L B N2 _ h2 r2 w2 d v ha c2 I2 q2).bind (fun _ w3 r3 h3 ⟨k3, I3, l3, f3⟩ => ?_) fun _ z => z
    refine (HB (C.drop (frzI C it)) L B N2 _ h3 r3 w3 ha hio hP c3 I3).imp (fun f w4 f' h4 sq => ?_) fun _ z => k3.trans z
    exact sq.next hio (fun _ z => z) (fun _ z => .inl z) k3 fun i hi _ => f3 i fun z => slots_out t c2 i z hi
  case fin =>
    intro f w2 f' h2 sq
    refine SQ.next (N' := N) (h1 := h1) (r1 := r) hio (fun _ z => z) (fun _ z => .inl z) k1 .refl ?_
    have nx : ∀ r', Nx (C.drop (frzI C it)) L B N (frK r (frzI C it) K) h1 r w2 r' h2 → Nx C L B N K h1 r w2 r' h2 := fun r' x => by
      obtain ⟨N', a, b, k2, I', f2⟩ := x
      exact ⟨N', a, b, wk k2, I'.thaw I1 a (fun _ z => .inl z) f2, f2.drop⟩
    cases f <;> cases f' <;> first | exact sq.elim | skip
    · exact nx _ sq
    · exact ⟨wk sq.1, sq.2⟩
    · exact nx _ sq
    · exact nx _ sq
theorem while_ok {C : Ck} {L : Nat} {B N0 K : Nat → Prop} {h0 : VH} {r0 : PI.Env} {cv : VE → Rv Bool} {cn : PI.Env → VH → Res Bool} {tv : VE → Rv PV.Fv} {t : PI.Env → VH → Res Fl} (hio : ∀ p, p ∈ io → p ∈ C.O ∧ p ∈ C.P)
    (hc : ∀ (N : Nat → Prop) (h : VH) (r : PI.Env) (w : VE), Inv C L B N K h r w → Ac (cv w) (cn r h) (fun b w' b' h' => b = b' ∧ Keep N K h h' ∧ Inv C L B N K h' r w') (fun h' => Keep N K h h'))
    (step : ∀ (N : Nat → Prop) (h : VH) (r : PI.Env) (w : VE), Inv C L B N K h r w → Ac (tv w) (t r h) (SQ C L B io fr N K h r) (fun h' => Keep N K h h')) :
    ∀ (k : Nat) (N : Nat → Prop) (h : VH) (r : PI.Env) (w : VE), (∀ n, N0 n → N n) → (∀ n, N n → N0 n ∨ h0.length ≤ n) → Keep N0 K h0 h → Fix C r0 r → Inv C L B N K h r w →
      Ac (whileF cv tv k w) (whileL cn t k r h) (SQ C L B io fr N0 K h0 r0) (fun h' => Keep N0 K h0 h')
  | 0, N, h, r, w, s1, s2, k, fx, I => trivial
  | m + 1, N, h, r, w, s1, s2, k, fx, I => by
    unfold whileF whileL
    refine (hc N h r w I).bind (fun b w1 b' h1 ⟨e, k1, I1⟩ => ?_) fun _ z => k.next z s2
    subst e
    have k01 := k.next k1 s2
    refine Ac.cond (fun _ => ?_) fun _ => Ac.ok ⟨N, s1, s2, k01, I1, fx⟩
    refine (step N h1 r w1 I1).bind (fun f w2 f' h2 sq => ?_) fun _ z => k01.next z (fun n z => (s2 n z))
    have go : ∀ r', Nx C L B N K h1 r w2 r' h2 → Ac (whileF cv tv m w2) (whileL cn t m r' h2) (SQ C L B io fr N0 K h0 r0) (fun h' => Keep N0 K h0 h') := fun r' x => by
      obtain ⟨N', a, b, k2, I', f2⟩ := x
      exact while_ok hio hc step m N' h2 r' w2 (fun n z => a n (s1 n z)) (fun n z => (b n z).elim (s2 n) fun z => .inr (Nat.le_trans k01.1 z)) (k01.next k2 s2) (fx.trans f2) I'
    cases f <;> cases f' <;> first | exact sq.elim | skip
    · exact go _ sq
    · exact Ac.ok (SQ.next (f := .rt _) (f' := .rt _) hio s1 s2 k01 fx sq)
    · exact Ac.ok (Nx.next s1 s2 k01 fx sq)
    · exact go _ sq
theorem t_while (HF : FOK Fv F an) {e : CE} {body : CSs} (HB : SsOK Fv F an sub io fr body) : SOK Fv F an sub io fr (.while_ e body) := by
  intro C L B N K h r w ha hio hP c I
  simp only [chS, Bool.and_eq_true] at c
  simp only [vS, evS]
  refine while_ok (C := C) (L := L) (B := B) (io := io) (fr := fr) hio (fun N2 h2 r2 w2 I2 => ?_) (fun N2 h2 r2 w2 I2 => HB C L B N2 K h2 r2 w2 ha hio hP c.2 I2) turns N h r w (fun _ z => z) (fun _ z => .inl z) .refl .refl I
  refine (aok (oE HF e) ha c.1 I2).bind (fun v w1 d h1 ⟨s, k, I1, _, _⟩ => ?_) fun _ z => z
  exact Ac.op fun b eb => opt_ac (tru_ok s eb) (Ac.ok ⟨rfl, k, I1⟩)
theorem sb_ok {k : Nat} {s : SB} {v : Vv} (e : SBv sub k s = some v) : ∃ d, s.d sub k = some d ∧ (∀ h N, Rd h N d v) ∧ ∀ n, d ≠ .ref n := by
  have go : ∀ {o : Option Bool}, o.map Vv.bl = some v → ∃ d, o.map D.bl = some d ∧ (∀ h N, Rd h N d v) ∧ ∀ n, d ≠ .ref n := fun {o} e => by
    obtain ⟨b, e1, e2⟩ := Option.map_eq_some_iff.mp e
    subst e2
    exact ⟨.bl b, by rw [e1]; rfl, fun _ _ => .bl b, nofun⟩
  cases s with
  | lit l => cases e; exact ⟨l.d, rfl, fun _ _ => lit_rd l, lit_flat l⟩
  | isE c => exact go e
  | isVE => exact go e
  | and_ a b => exact go e
  | not_ a => exact go e
theorem t_try {body : CSs} {c0 : Nat} {s : SB} (HB : SsOK Fv F an sub io fr body) : SOK Fv F an sub io fr (.try_ body c0 s) := by
  intro C L B N K h r w ha hio hP c I
  simp only [chS, Bool.and_eq_true] at c
  have hi : io = [] := by simpa using c.1
  have x := HB C L B N K h r w ha hio hP c.2 I
  simp only [vS, evS]
  cases em : vSs Fv sub body w with
  | stuck => exact trivial
  | ok f w1 =>
    rw [em] at x
    obtain ⟨f', h', e, q⟩ := x
    rw [e]
    exact ⟨f', h', rfl, q⟩
  | exc k =>
    rw [em] at x
    obtain ⟨h', e, q⟩ := x
    rw [e]
    dsimp only
    refine Ac.op fun b eb => opt_ac eb ?_
    cases b with
    | false => exact ⟨h', rfl, q⟩
    | true =>
      refine Ac.op fun v ev => ?_
      obtain ⟨d, ed, rd, nr⟩ := sb_ok ev
      refine opt_ac ed (Ac.ok ⟨q, rd h' B, fun p hp => ?_, fun _ n en => (nr n en).elim⟩)
      rw [hi] at hp
      simp at hp
theorem t_nil : SsOK Fv F an sub io fr .nil := by
  intro C L B N K h r w ha hio hP c I
  simp only [vSs, evSs]
  exact Ac.ok (Nx.of .refl I)
theorem t_cons {s : CS} {ss : CSs} (H : SOK Fv F an sub io fr s) (H' : SsOK Fv F an sub io fr ss) : SsOK Fv F an sub io fr (.cons s ss) := by
  intro C L B N K h r w ha hio hP c I
  simp only [chSs, Bool.and_eq_true] at c
  simp only [vSs, evSs]
  refine (H C L B N K h r w ha hio hP c.1 I).bind (fun f w1 f' h1 sq => ?_) fun _ z => z
  cases f <;> cases f' <;> first | exact sq.elim | skip
  · obtain ⟨N', a, b, k2, I', f2⟩ := sq
    exact (H' C L B N' K h1 _ w1 ha hio hP c.2 I').imp (fun f w2 f' h2 q => q.next hio a b k2 f2) fun _ z => k2.next z b
  · exact Ac.ok sq
  · exact Ac.ok sq
  · exact Ac.ok sq
end
section
variable {Fv : FnsV} {F : Fns} {an : Nat → An} (HF : FOK Fv F an) (sub : Subs) (io : List Nat) (fr : Bool)
include HF
mutual
theorem oS : ∀ s : CS, SOK Fv F an sub io fr s
  | .expr e => t_expr HF
  | .asg t e => t_asg HF
  | .ret e => t_ret HF
  | .retN => t_retN
  | .if_ c a b => t_if HF (oSs a) (oSs b)
  | .for_ t it body => t_for HF (oSs body)
  | .while_ c body => t_while HF (oSs body)
  | .raise c => fun C L B N K h r w ha hio hP c I => by
    simp only [vS, evS]
    exact ⟨h, rfl, .refl⟩
  | .try_ body c s => t_try (oSs body)
  | .pass => fun C L B N K h r w ha hio hP c I => by
    simp only [vS, evS]
    exact Ac.ok (Nx.of .refl I)
  | .brk => fun C L B N K h r w ha hio hP c I => by
    simp only [vS, evS]
    exact Ac.ok (Nx.of .refl I)
  | .cnt => fun C L B N K h r w ha hio hP c I => by
    simp only [vS, evS]
    exact Ac.ok (Nx.of .refl I)
theorem oSs : ∀ s : CSs, SsOK Fv F an sub io fr s
  | .nil => t_nil
  | .cons s ss => t_cons (oS s) (oSs ss)
end
end
/-! ### defs -/
def FnV.ck (f : FnV) (an : Nat → An) : Ck := ⟨f.an.io ++ f.an.ne ++ f.an.mu, f.an.io ++ f.an.mu, f.an.io ++ f.an.ne, an⟩
def FnV.ok (f : FnV) (an : Nat → An) : Bool := chSs f.an.io f.an.fr f.fn.body (f.ck an) && ((f.an.io ++ f.an.ne).all fun p => decide (p < f.fn.pars)) && (f.an.mu.all fun p => decide (f.fn.pars ≤ p))
def PrV.an (P : PrV) (f : Nat) : An := match P.fns[f]? with
  | some x => x.an
  | none => ⟨[], [], [], false⟩
def PrV.ok (P : PrV) : Bool := P.fns.all fun f => f.ok P.an
def PrV.pr (P : PrV) : Prog := ⟨P.fns.map FnV.fn, P.sub⟩
theorem outsAt_get {io : List Nat} : ∀ (w : VE) (k q : Nat), (outsAt io k w)[q]? = if q < w.length then some (if io.contains (k + q) then (w[q]?).bind id else none) else none
  | [], k, q => by simp [outsAt]
  | o :: os, k, q => by
    unfold outsAt
    cases q with
    | zero => simp
    | succ q =>
      rw [List.getElem?_cons_succ, outsAt_get os (k + 1) q]
      simp only [List.length_cons, Nat.add_lt_add_iff_right, List.getElem?_cons_succ]
      rw [show k + 1 + q = k + (q + 1) by omega]
theorem outs_ok {io : List Nat} {pars : Nat} {N : Nat → Prop} {h' : VH} {r : PI.Env} {ds : List D} {w' : VE} (hr : ∀ (p : Nat) (d : D), ds[p]? = some d → r[p]? = some (some d)) (hp : ∀ p, p ∈ io → p < pars) (x : RetO io N r w' h') : OutR io N h' ds (outs io pars w') := by
  have get : ∀ q, io.isEmpty = false → (outs io pars w')[q]? = if q < (w'.take pars).length then some (if io.contains q then ((w'.take pars)[q]?).bind id else none) else none := fun q he => by
    unfold outs
    rw [he]
    have := outsAt_get (io := io) (w'.take pars) 0 q
    rw [Nat.zero_add] at this
    exact this
  refine ⟨fun p d hp' e => ?_, fun p hp' => ?_⟩
  · obtain ⟨u, e1, s⟩ := x p hp' d (hr p d e)
    refine ⟨u, ?_, s⟩
    have he : io.isEmpty = false := by
      cases io with
      | nil => simp at hp'
      | cons => rfl
    have hlt := hp p hp'
    have hl := (List.getElem?_eq_some_iff.mp e1).1
    rw [get p he, if_pos (by rw [List.length_take]; omega), if_pos (by simpa using hp'), List.getElem?_take, if_pos hlt, e1]
    rfl
  · unfold getW
    by_cases he : io.isEmpty = true
    · unfold outs
      rw [if_pos he]
      rfl
    · have he : io.isEmpty = false := by simpa using he
      rw [get p he]
      split
      · rw [if_neg (by simpa using hp')]
        rfl
      · rfl
theorem start_get {α : Type} {n : Nat} {ds : List α} {i : Nat} {o : Option α} (e : (ds.map some ++ List.replicate (n - ds.length) none)[i]? = some o) : (∃ d, ds[i]? = some d ∧ o = some d) ∨ (ds.length ≤ i ∧ o = none) := by
  by_cases hi : i < ds.length
  · rw [List.getElem?_append_left (by simpa using hi), List.getElem?_map] at e
    obtain ⟨d, e1, e2⟩ := Option.map_eq_some_iff.mp e
    exact .inl ⟨d, e1, e2.symm⟩
  · rw [List.getElem?_append_right (by simpa using hi), List.getElem?_replicate] at e
    split at e
    · exact .inr ⟨by omega, (Option.some.inj e).symm⟩
    · cases e
theorem fok (P : PrV) (hok : P.ok = true) : ∀ k, FOK (callV P k) (callN P.pr k) P.an
  | 0 => fun f N K h ds vs pre => trivial
  | k + 1 => fun f N K h ds vs pre => by
    unfold callV callN
    show Ac _ (match (P.fns.map FnV.fn)[f]? with | none => _ | some fn => _) _ _
    rw [List.getElem?_map]
    cases hf : P.fns[f]? with
    | none => exact trivial
    | some x =>
      have ean : P.an f = x.an := by unfold PrV.an; rw [hf]
      rw [ean] at pre ⊢
      have hx : x.ok P.an = true := List.all_eq_true.mp hok x (List.mem_of_getElem? hf)
      unfold FnV.ok at hx
      simp only [Bool.and_eq_true, List.all_eq_true, decide_eq_true_eq] at hx
      obtain ⟨⟨c1, c2⟩, c3⟩ := hx
      refine Ac.g1 fun hl => ?_
      have hl' : decide (ds.length = x.fn.pars) = true := decide_eq_true (pre.len.trans hl)
      simp only [Option.map_some, hl', grd]
      have dlen : ds.length = x.fn.pars := pre.len.trans hl
      have iop : ∀ p, p ∈ x.an.io → p < x.fn.pars := fun p hp => c2 p (List.mem_append.mpr (.inl hp))
      have hio : ∀ p, p ∈ x.an.io → p ∈ (x.ck P.an).O ∧ p ∈ (x.ck P.an).P := fun p hp => ⟨by simp [FnV.ck, hp], by simp [FnV.ck, hp]⟩
      have hP : ∀ p, p ∈ (x.ck P.an).P → p ∈ (x.ck P.an).O := fun p hp => List.mem_append.mpr (.inl hp)
      have mem_O : ∀ p, p ∈ (x.ck P.an).O → p < x.fn.pars → p ∈ x.an.io ∨ p ∈ x.an.ne := fun p hp hlt => by
        rcases List.mem_append.mp hp with z | z
        · exact List.mem_append.mp z
        · have := c3 p z; omega
      have st : ∀ i n, (startE x.fn.names ds)[i]? = some (some (.ref n)) → ds[i]? = some (.ref n) ∧ i < x.fn.pars := fun i n e => by
        rcases start_get e with ⟨d, e1, e2⟩ | ⟨_, e2⟩
        · cases e2
          exact ⟨e1, by rw [← dlen]; exact (List.getElem?_eq_some_iff.mp e1).1⟩
        · cases e2
      have I : Inv (x.ck P.an) h.length N N K h (startE x.fn.names ds) (startV x.fn.names vs) := {
        len := by simp [startE, startV, pre.len]
        sl := fun i o u e1 e2 => by
          rcases start_get e1 with ⟨d, e3, rfl⟩ | ⟨e3, rfl⟩
          · rcases start_get e2 with ⟨v, e4, rfl⟩ | ⟨e4, rfl⟩
            · exact pre.sl i d v e3 e4
            · have := (List.getElem?_eq_some_iff.mp e3).1
              rw [pre.len] at this
              omega
          · rcases start_get e2 with ⟨v, e4, rfl⟩ | ⟨e4, rfl⟩
            · have := (List.getElem?_eq_some_iff.mp e4).1
              rw [← pre.len] at this
              omega
            · trivial
        rd := fun i hi n e => by
          obtain ⟨e1, hlt⟩ := st i n e
          exact pre.pl i n (fun z => hi (hio i z).1) (fun z => hi (by simp [FnV.ck, z])) e1
        mu := fun i hi n e => by
          obtain ⟨e1, hlt⟩ := st i n e
          rcases List.mem_append.mp (show i ∈ x.an.io ++ x.an.mu from hi) with z | z
          · obtain ⟨m1, m2, m3⟩ := pre.io i z n e1
            refine ⟨m1, m2, fun j hj hne ej => ?_⟩
            obtain ⟨e2, hlt2⟩ := st j n ej
            exact m3 j (mem_O j hj hlt2) hne e2
          · have := c3 i z; omega
        MO := fun i hi => by
          rcases List.mem_append.mp (show i ∈ x.an.io ++ x.an.mu from hi) with z | z
          · exact (hio i z).1
          · simp [FnV.ck, z]
        bN := pre.bN
        bK := pre.bK
        BN := fun _ z => z
        BL := pre.bN
        loc := fun i hi hp n e => by
          obtain ⟨e1, hlt⟩ := st i n e
          rcases mem_O i hi hlt with z | z
          · exact (hp (hio i z).2).elim
          · exact (hp (by simp [FnV.ck, z])).elim
        prm := fun i hi hp n e => by
          obtain ⟨e1, hlt⟩ := st i n e
          rcases List.mem_append.mp (show i ∈ x.an.io ++ x.an.mu from hi) with z | z
          · exact (pre.io i z n e1).1
          · have := c3 i z; omega
        hL := Nat.le_refl _ }
      have sr : ∀ p d, ds[p]? = some d → (startE x.fn.names ds)[p]? = some (some d) := fun p d e => by
        unfold startE
        rw [List.getElem?_append_left (by simpa using (List.getElem?_eq_some_iff.mp e).1), List.getElem?_map, e]
        rfl
      have X := oSs (fok P hok k) P.sub x.an.io x.an.fr x.fn.body (x.ck P.an) h.length N N K h _ _ rfl hio hP c1 I
      show Ac (fin x.an.io x.fn.pars x.an.fr (vSs (callV P k) P.sub x.fn.body (startV x.fn.names vs))) (bnd (evSs (callN P.pr k) P.sub x.fn.body (startE x.fn.names ds) h) _) _ _
      cases em : vSs (callV P k) P.sub x.fn.body (startV x.fn.names vs) with
      | stuck => exact trivial
      | exc c =>
        rw [em] at X
        obtain ⟨h', e, q⟩ := X
        rw [e]
        unfold fin
        cases x.an.io.isEmpty with
        | true => exact ⟨h', rfl, q⟩
        | false => exact trivial
      | ok f w' =>
        rw [em] at X
        obtain ⟨f', h', e, sq⟩ := X
        rw [e]
        cases f <;> cases f' <;> first | exact sq.elim | exact trivial | skip
        · show Ac (cond x.an.fr Rv.stuck (Rv.ok Vv.non (outs x.an.io x.fn.pars w'))) (Res.ok D.non h') _ _
          cases hfr : x.an.fr with
          | true => exact trivial
          | false =>
            obtain ⟨N', a, b, k2, I', f2⟩ := sq
            refine Ac.ok ⟨.non, k2, outs_ok (r := startE x.fn.names ds) sr iop ?_, fun z => by rw [hfr] at z; cases z⟩
            exact RetO.to (r' := startE x.fn.names ds) (RetO.of I' a) fun p hp => f2 p (hio p hp).1 (.inr (hio p hp).2)
        · obtain ⟨k2, q1, q2, q3⟩ := sq
          refine Ac.ok (b := _) (h := h') ⟨q1, k2, outs_ok (r := startE x.fn.names ds) sr iop q2, fun z n en => ?_⟩
          obtain ⟨z1, z2, z3⟩ := q3 z n en
          exact ⟨z1, z2, outs_ok (r := startE x.fn.names ds) sr iop z3⟩
/-- a run over values is a run over the store -/
theorem run_ok (P : PrV) (hok : P.ok = true) {k f : Nat} {ns : List Int} (hio : (P.an f).io = []) {os : VE} (e : callV P k f [.ro (ns.map .int)] = .ok (.bl true) os) (b : Bool) : ∃ h, callN P.pr k f [.ref 0] [.ro b (ns.map .int)] = .ok (.bl true) h := by
  have X := fok P hok k f (fun _ => False) (fun _ => False) [.ro b (ns.map .int)] [.ref 0] [.ro (ns.map .int)] {
    len := rfl
    sl := fun p d v e1 e2 => by
      cases p with
      | zero =>
        cases e1
        cases e2
        exact .ro (k := b) (ds := ns.map .int) rfl (.same ns fun i => .int i)
      | succ p => cases e1
    pl := fun _ _ _ _ _ z => z
    io := fun p hp => by rw [hio] at hp; simp at hp
    bN := fun _ z => z.elim
    bK := fun _ z => z.elim }
  rw [e] at X
  obtain ⟨d, h', e', P'⟩ := X
  have := P'.rd
  cases this
  exact ⟨h', e'⟩
end PV
end
section
set_option autoImplicit false
set_option maxRecDepth 100000
/-! A calculus of runs over values (own work). -/
namespace PV
open PySem PI
open L2 (Key)
section
variable {α β : Type} {w : VE}
@[simp] theorem g1_pos {c : Prop} [Decidable c] {a : α} (h : c) : g1 c a = some a := if_pos h
@[simp] theorem lm_lit : lm = 16777216 := rfl
@[simp] theorem bd_ok {a : α} {f : α → VE → Rv β} : bd (.ok a w) f = f a w := rfl
@[simp] theorem bd_exc {c : Nat} {f : α → VE → Rv β} : bd (.exc c : Rv α) f = .exc c := rfl
@[simp] theorem bdN_ok {a : α} {f : α → VE → Rv β} : bdN (.ok a w) f = f a w := rfl
@[simp] theorem op_some {a : α} {f : α → Rv β} : op (some a) f = f a := rfl
@[simp] theorem op_map {γ : Type} {o : Option α} {g : α → γ} {f : γ → Rv β} : op (o.map g) f = op o fun a => f (g a) := by cases o <;> rfl
@[simp] theorem isI_int {i : Int} {f : Int → Rv β} : isI (.int i) f = f i := rfl
@[simp] theorem isB_bl {i : Bool} {f : Bool → Rv β} : isB (.bl i) f = f i := rfl
@[simp] theorem isT_tup {i : List Vv} {f : List Vv → Rv β} : isT (.tup i) f = f i := rfl
@[simp] theorem isL_lst {i : List Vv} {f : List Vv → Rv β} : isL (.lst i) f = f i := rfl
@[simp] theorem Lv_non : Lv .non = .non := rfl
@[simp] theorem Lv_bl {b : Bool} : Lv (.bl b) = .bl b := rfl
@[simp] theorem Lv_int {b : Int} : Lv (.int b) = .int b := rfl
@[simp] theorem Lv_str {b : Str} : Lv (.str b) = .str b := rfl
@[simp] theorem tru_non : truV .non = some false := rfl
@[simp] theorem tru_bl {b : Bool} : truV (.bl b) = some b := rfl
@[simp] theorem tru_int {i : Int} : truV (.int i) = some (i != 0) := rfl
@[simp] theorem tru_tup {xs : List Vv} : truV (.tup xs) = some (!xs.isEmpty) := rfl
@[simp] theorem tru_lst {xs : List Vv} : truV (.lst xs) = some (!xs.isEmpty) := rfl
@[simp] theorem itV_tup {xs : List Vv} : itV (.tup xs) = some xs := rfl
@[simp] theorem itV_lst {xs : List Vv} : itV (.lst xs) = some xs := rfl
@[simp] theorem itS_tup {xs : List Vv} : itS (.tup xs) = some xs := rfl
@[simp] theorem itS_lst {xs : List Vv} : itS (.lst xs) = some xs := rfl
@[simp] theorem itS_str {x : Str} : itS (.str x) = some (x.cps.toList.map fun c => .str ⟨#[c]⟩) := rfl
@[simp] theorem itL_lst {xs : List Vv} : itL (.lst xs) = some xs := rfl
@[simp] theorem isNon_non : isNonV .non = true := rfl
@[simp] theorem isNon_bl {b : Bool} : isNonV (.bl b) = false := rfl
@[simp] theorem isNon_int {b : Int} : isNonV (.int b) = false := rfl
@[simp] theorem isNon_str {b : Str} : isNonV (.str b) = false := rfl
@[simp] theorem isNon_tup {b : List Vv} : isNonV (.tup b) = false := rfl
@[simp] theorem isNon_lst {b : List Vv} : isNonV (.lst b) = false := rfl
@[simp] theorem isNon_ro {b : List Vv} : isNonV (.ro b) = false := rfl
@[simp] theorem isNon_dK {b : List (Key × Vv)} : isNonV (.dK b) = false := rfl
@[simp] theorem isNon_dT {b : List (List Key × Vv)} : isNonV (.dT b) = false := rfl
@[simp] theorem ix_tup {xs : List Vv} {k : Int} : ixV (.tup xs) (.int k) = L2.atI xs k := rfl
@[simp] theorem ix_lst {xs : List Vv} {k : Int} : ixV (.lst xs) (.int k) = L2.atI xs k := rfl
@[simp] theorem ix_ro {xs : List Vv} {k : Int} : ixV (.ro xs) (.int k) = L2.atI xs k := rfl
@[simp] theorem ix_dKi {kvs : List (Key × Vv)} {k : Int} : ixV (.dK kvs) (.int k) = getV kvs (.inl k) := by
  unfold ixV lookV
  simp [keyV]
@[simp] theorem ix_dKs {kvs : List (Key × Vv)} {k : Str} : ixV (.dK kvs) (.str k) = getV kvs (.inr k) := by
  unfold ixV lookV
  simp [keyV]
@[simp] theorem in_dKi {kvs : List (Key × Vv)} {k : Int} : inV (.int k) (.dK kvs) = some (getV kvs (.inl k)).isSome := by
  unfold inV lookV
  simp [keyV]
@[simp] theorem in_dKs {kvs : List (Key × Vv)} {k : Str} : inV (.str k) (.dK kvs) = some (getV kvs (.inr k)).isSome := by
  unfold inV lookV
  simp [keyV]
@[simp] theorem in_chr {c : Nat} {z : Str} : inV (.str ⟨#[c]⟩) (.str z) = some (decide (c ∈ z.cps.toList)) := by
  unfold inV
  dsimp only
  exact if_pos (show (⟨#[c]⟩ : Str).length = 1 from rfl)
theorem at_nat {xs : List α} {i : Nat} : L2.atI xs (i : Int) = xs[i]? := by
  unfold L2.atI L2.ixN
  rw [if_pos (Int.natCast_nonneg i)]
  by_cases e : i < xs.length
  · rw [if_pos (by omega)]; simp
  · rw [if_neg (by omega), List.getElem?_eq_none (by omega)]; rfl
@[simp] theorem at_0 {xs : List α} : L2.atI xs 0 = xs[0]? := at_nat (i := 0)
@[simp] theorem at_1 {xs : List α} : L2.atI xs 1 = xs[1]? := at_nat (i := 1)
@[simp] theorem at_2 {xs : List α} : L2.atI xs 2 = xs[2]? := at_nat (i := 2)
@[simp] theorem at_3 {xs : List α} : L2.atI xs 3 = xs[3]? := at_nat (i := 3)
@[simp] theorem at_last {xs : List α} {x : α} : L2.atI (xs ++ [x]) (-1) = some x := by
  unfold L2.atI L2.ixN
  rw [if_neg (by omega), if_pos (by simp; omega)]
  have : ((-1 : Int) + ((xs ++ [x]).length : Nat)).toNat = xs.length := by simp; omega
  simp only [Option.bind_some, this]
  simp
theorem ixN_nat {n i : Nat} (h : i < n) : L2.ixN n (i : Int) = some i := by
  unfold L2.ixN
  rw [if_pos (Int.natCast_nonneg i), if_pos (by omega)]
  simp
@[simp] theorem bin_add {i j : Int} : binV .add (.int i) (.int j) = some (.int (i + j)) := rfl
@[simp] theorem bin_adds {i j : Str} : binV .add (.str i) (.str j) = g1 (i.length + j.length ≤ lm) (.str (i ++ j)) := rfl
@[simp] theorem bin_addt {i j : List Vv} : binV .add (.tup i) (.tup j) = g1 (i.length + j.length ≤ lm) (.tup (i ++ j)) := rfl
@[simp] theorem bin_addl {i j : List Vv} : binV .add (.lst i) (.lst j) = g1 (i.length + j.length ≤ lm) (.lst (i ++ j)) := rfl
@[simp] theorem bin_sub {i j : Int} : binV .sub (.int i) (.int j) = some (.int (i - j)) := rfl
@[simp] theorem bin_mul {i j : Int} : binV .mul (.int i) (.int j) = g1 (mulOk i j = true) (.int (i * j)) := rfl
@[simp] theorem bin_mod {i j : Int} : binV .mod (.int i) (.int j) = g1 (0 < j) (.int (i % j)) := rfl
@[simp] theorem bin_fdiv {i j : Int} : binV .fdiv (.int i) (.int j) = g1 (0 < j ∧ j.natAbs.log2 < 9000) (.int (i / j)) := rfl
@[simp] theorem bin_xor {i j : Int} : binV .bxor (.int i) (.int j) = some (.int (Builtin.bitXor i j)) := rfl
@[simp] theorem bin_and {i j : Int} : binV .band (.int i) (.int j) = some (.int (Builtin.bitAnd i j)) := rfl
@[simp] theorem bin_mult {i : List Vv} {k : Int} : binV .mul (.tup i) (.int k) = g1 (i.isEmpty = false ∧ 2 ≤ k ∧ k ≤ 1000 ∧ i.length ≤ 1000) (.tup (List.replicate k.toNat i).flatten) := rfl
@[simp] theorem b1_int {i : Int} : b1V .int (.int i) = some (.int i) := rfl
@[simp] theorem b1_intb {b : Bool} : b1V .int (.bl b) = some (.int (if b then 1 else 0)) := rfl
@[simp] theorem b1_boolb {b : Bool} : b1V .bool (.bl b) = some (.bl b) := rfl
@[simp] theorem b1_booli {b : Int} : b1V .bool (.int b) = some (.bl (b != 0)) := rfl
@[simp] theorem b1_abs {i : Int} : b1V .abs (.int i) = some (.int (if i < 0 then -i else i)) := rfl
@[simp] theorem b1_lens {x : Str} : b1V .len (.str x) = g1 (x.length ≤ lm) (.int x.length) := rfl
@[simp] theorem b1_lent {xs : List Vv} : b1V .len (.tup xs) = some (.int xs.length) := rfl
@[simp] theorem b1_lenl {xs : List Vv} : b1V .len (.lst xs) = some (.int xs.length) := rfl
@[simp] theorem b1_lenr {xs : List Vv} : b1V .len (.ro xs) = some (.int xs.length) := rfl
@[simp] theorem b1_lenk {xs : List (Key × Vv)} : b1V .len (.dK xs) = some (.int xs.length) := rfl
@[simp] theorem b1_tupt {xs : List Vv} : b1V .tuple (.tup xs) = some (.tup xs) := rfl
@[simp] theorem b1_tupl {xs : List Vv} : b1V .tuple (.lst xs) = g1 (xs.length ≤ lm) (.tup xs) := rfl
@[simp] theorem b1_listt {xs : List Vv} : b1V .list (.tup xs) = g1 (xs.length ≤ lm) (.lst xs) := rfl
@[simp] theorem b1_listl {xs : List Vv} : b1V .list (.lst xs) = g1 (xs.length ≤ lm) (.lst xs) := rfl
@[simp] theorem b2_max {i j : Int} : b2V .max (.int i) (.int j) = some (.int (if j > i then j else i)) := rfl
@[simp] theorem b2_min {i j : Int} : b2V .min (.int i) (.int j) = some (.int (if j < i then j else i)) := rfl
@[simp] theorem b2_gcd {i j : Int} : b2V .gcd (.int i) (.int j) = some (.int ((Nat.gcd i.natAbs j.natAbs : Nat) : Int)) := rfl
theorem ints_map : ∀ ns : List Int, intsV (ns.map .int) = some ns
  | [] => rfl
  | n :: ns => by simp [intsV, ints_map ns]
@[simp] theorem b1_sum {ns : List Int} : b1V .sum (.lst (ns.map .int)) = some (.int ns.sum) := by
  show ((itL (.lst (ns.map Vv.int))).bind intsV).map (fun ns => Vv.int ns.sum) = _
  simp [ints_map]
@[simp] theorem sl_tup {xs : List Vv} {lo hi : Option Int} : slV (.tup xs) lo hi = some (.tup (cutL xs lo hi)) := rfl
@[simp] theorem sl_lst {xs : List Vv} {lo hi : Option Int} : slV (.lst xs) lo hi = g1 ((cutL xs lo hi).length ≤ lm) (.lst (cutL xs lo hi)) := rfl
@[simp] theorem sl_str {xs : Str} {lo hi : Option Int} : slV (.str xs) lo hi = g1 (xs.length ≤ lm) (.str ⟨(cutL xs.cps.toList lo hi).toArray⟩) := rfl
@[simp] theorem set_lst {xs : List Vv} {k : Int} {v : Vv} : setV (.lst xs) (.int k) v = (L2.ixN xs.length k).map fun j => .lst (xs.set j v) := rfl
@[simp] theorem set_dKi {kvs : List (Key × Vv)} {k : Int} {v : Vv} : setV (.dK kvs) (.int k) v = g1 (kvs.length < lm) (.dK (putV kvs (.inl k) v)) := rfl
@[simp] theorem set_dKs {kvs : List (Key × Vv)} {k : Str} {v : Vv} : setV (.dK kvs) (.str k) v = g1 (kvs.length < lm) (.dK (putV kvs (.inr k) v)) := rfl
@[simp] theorem isi_int {v : Vv} : isiV v .int = (match v with | .int _ => true | .bl _ => true | _ => false) := by cases v <;> rfl
@[simp] theorem isi_bool {v : Vv} : isiV v .bool = (match v with | .bl _ => true | _ => false) := by cases v <;> rfl
@[simp] theorem isi_str {v : Vv} : isiV v .str = (match v with | .str _ => true | _ => false) := by cases v <;> rfl
@[simp] theorem isi_tup {v : Vv} : isiV v .tuple = (match v with | .tup _ => true | _ => false) := by cases v <;> rfl
@[simp] theorem lt_int {i j : Int} : ltV (.int i) (.int j) = some (decide (i < j)) := rfl
@[simp] theorem eq_int {i j : Int} : eqV (.int i) (.int j) = some (decide (i = j)) := by
  have : (i == j) = decide (i = j) := by by_cases e : i = j <;> simp [e]
  simp [eqV, toQ, SeqAt.shaped, PyData.canLay0, PyData.depth, PyData.eqv, this]
@[simp] theorem eq_bl {i j : Bool} : eqV (.bl i) (.bl j) = some (decide (i = j)) := by cases i <;> cases j <;> rfl
theorem eq_str {i j : Str} (hi : PyData.strOk i = true) (hj : PyData.strOk j = true) : eqV (.str i) (.str j) = some (decide (i = j)) := by
  have : (i == j) = decide (i = j) := by by_cases e : i = j <;> simp [e]
  simp [eqV, toQ, SeqAt.shaped, PyData.canLay0, PyData.depth, PyData.eqv, hi, hj, this]
@[simp] theorem cmp_eq {a b : Vv} : cmpV .eq a b = eqV a b := rfl
@[simp] theorem cmp_ne {a b : Vv} : cmpV .ne a b = (eqV a b).map (!·) := rfl
theorem not_lt' {a b : Int} : (!decide (a < b)) = decide (b ≤ a) := by
  by_cases h : a < b
  · have : ¬ b ≤ a := by omega
    simp [h, this]
  · have : b ≤ a := by omega
    simp [h, this]
@[simp] theorem cmp_lt {i j : Int} : cmpV .lt (.int i) (.int j) = some (decide (i < j)) := rfl
@[simp] theorem cmp_gt {i j : Int} : cmpV .gt (.int i) (.int j) = some (decide (j < i)) := rfl
@[simp] theorem cmp_le {i j : Int} : cmpV .le (.int i) (.int j) = some (decide (i ≤ j)) := congrArg some not_lt'
@[simp] theorem cmp_ge {i j : Int} : cmpV .ge (.int i) (.int j) = some (decide (j ≤ i)) := congrArg some not_lt'
@[simp] theorem cmp_in {a b : Vv} : cmpV .isin a b = inV a b := rfl
@[simp] theorem cmp_ni {a b : Vv} : cmpV .notin a b = (inV a b).map (!·) := rfl
@[simp] theorem onF_nx {k : VE → Rv Fv} : onF .nx w k = k w := rfl
@[simp] theorem onF_rt {k : VE → Rv Fv} {v : Vv} : onF (.rt v) w k = .ok (.rt v) w := rfl
@[simp] theorem onF_bk {k : VE → Rv Fv} : onF .bk w k = .ok .bk w := rfl
@[simp] theorem onF_ct {k : VE → Rv Fv} : onF .ct w k = .ok .ct w := rfl
@[simp] theorem onL_nx {k : VE → Rv Fv} : onL .nx w k = k w := rfl
@[simp] theorem onL_ct {k : VE → Rv Fv} : onL .ct w k = k w := rfl
@[simp] theorem onL_bk {k : VE → Rv Fv} : onL .bk w k = .ok .nx w := rfl
@[simp] theorem onL_rt {k : VE → Rv Fv} {v : Vv} : onL (.rt v) w k = .ok (.rt v) w := rfl
theorem loopF_nil {tn : Vv → VE → Rv Fv} : loopF tn [] w = .ok .nx w := rfl
theorem loopF_cons {tn : Vv → VE → Rv Fv} {x : Vv} {xs : List Vv} : loopF tn (x :: xs) w = bd (tn x w) fun f w' => onL f w' fun w' => loopF tn xs w' := rfl
@[simp] theorem slot_var' {i : Nat} : slotOf (.var i) = some i := rfl
@[simp] theorem getW_eq {i : Nat} : getW w i = (w[i]?).bind id := rfl
@[simp] theorem lstW_eq {i : Nat} : lstW w i = (match (w[i]?).bind id with | some (.lst xs) => some xs | _ => none) := rfl
@[simp] theorem wbs_nil {es : CEs} : wbs es [] w = w := by cases es <;> rfl
@[simp] theorem wbs_end {os : VE} : wbs .nil os w = w := by unfold wbs; rfl
@[simp] theorem wbs_some {j : Nat} {es : CEs} {v : Vv} {os : VE} : wbs (.cons (.var j) es) (some v :: os) w = wbs es os (w.set j (some v)) := rfl
@[simp] theorem wbs_none {e : CE} {es : CEs} {os : VE} : wbs (.cons e es) (none :: os) w = wbs es os w := by simp only [wbs]
@[simp] theorem back_ok {es : CEs} {v : Vv} {os : VE} : back es w (.ok v os) = .ok v (wbs es os w) := rfl
@[simp] theorem back_exc {es : CEs} {c : Nat} : back es w (.exc c) = .exc c := rfl
@[simp] theorem slotsG_name {i : Nat} : slotsG (.name i) = [i] := by simp only [slotsG]
@[simp] theorem slotsG_tup {ts : TGs} : slotsG (.tup ts) = slotsGs ts := by simp only [slotsG]
@[simp] theorem slotsGs_nil : slotsGs .nil = [] := by simp only [slotsGs]
@[simp] theorem slotsGs_cons {t : TG} {ts : TGs} : slotsGs (.cons t ts) = slotsG t ++ slotsGs ts := by simp only [slotsGs]
@[simp] theorem lenGs_nil : lenGs .nil = 0 := rfl
@[simp] theorem lenGs_cons {t : TG} {ts : TGs} : lenGs (.cons t ts) = lenGs ts + 1 := rfl
@[simp] theorem wipe_nil : wipeW w [] = w := rfl
@[simp] theorem wipe_cons {i : Nat} {is : List Nat} : wipeW w (i :: is) = (wipeW w is).set i none := rfl
@[simp] theorem bk_nil {w0 : VE} : backW w0 w [] = w := rfl
@[simp] theorem bk_cons {w0 : VE} {i : Nat} {is : List Nat} : backW w0 w (i :: is) = (backW w0 w is).set i ((w0[i]?).bind id) := rfl
end
section
variable {F : FnsV} {sub : Subs} {w : VE}
@[simp] theorem e_var {i : Nat} : vE F (.var i) w = op (getW w i) fun d => .ok d w := by simp only [vE]
@[simp] theorem e_lit {l : Lit} : vE F (.lit l) w = .ok (Lv l) w := by simp only [vE]
@[simp] theorem e_glob {x : Str} {l : Lit} : vE F (.glob x l) w = .ok (Lv l) w := by simp only [vE]
@[simp] theorem e_tup {es : CEs} : vE F (.tup es) w = bd (vEs F es w) fun vs w => .ok (.tup vs) w := by simp only [vE]
@[simp] theorem e_lst {es : CEs} : vE F (.lst es) w = bd (vEs F es w) fun vs w => .ok (.lst vs) w := by simp only [vE]
@[simp] theorem e_dnK : vE F .dnK w = .ok (.dK []) w := by simp only [vE]
@[simp] theorem e_dnT : vE F .dnT w = .ok (.dT []) w := by simp only [vE]
@[simp] theorem e_call {f : Nat} {es : CEs} : vE F (.call f es) w = bd (vEs F es w) fun vs w => back es w (F f vs) := by simp only [vE]
@[simp] theorem e_b1 {b : B1} {a : CE} : vE F (.b1 b a) w = bd (vE F a w) fun d w => op (b1V b d) fun d => .ok d w := by simp only [vE]
@[simp] theorem e_b2 {b : B2} {a c : CE} : vE F (.b2 b a c) w = bd (vE F a w) fun x w => bd (vE F c w) fun y w => op (b2V b x y) fun d => .ok d w := by simp only [vE]
@[simp] theorem e_isi {a : CE} {t : Ty} : vE F (.isi a t) w = bd (vE F a w) fun d w => .ok (.bl (isiV d t)) w := by simp only [vE]
@[simp] theorem e_bin {o : Op} {a b : CE} : vE F (.bin o a b) w = bd (vE F a w) fun x w => bd (vE F b w) fun y w => op (binV o x y) fun d => .ok d w := by simp only [vE]
@[simp] theorem e_neg {a : CE} : vE F (.neg a) w = bd (vE F a w) fun d w => isI d fun i => .ok (.int (-i)) w := by simp only [vE]
@[simp] theorem e_cmp {o : Cp} {a b : CE} : vE F (.cmp o a b) w = bd (vE F a w) fun x w => bd (vE F b w) fun y w => op (cmpV o x y) fun k => .ok (.bl k) w := by simp only [vE]
@[simp] theorem e_chain {o o' : Cp} {a b c : CE} : vE F (.chain o o' a b c) w = bd (vE F a w) fun x w => bd (vE F b w) fun y w => op (cmpV o x y) fun k => cond k (bd (vE F c w) fun z w => op (cmpV o' y z) fun k => .ok (.bl k) w) (.ok (.bl false) w) := by simp only [vE]
@[simp] theorem e_isN {a : CE} : vE F (.isN a) w = bd (vE F a w) fun d w => .ok (.bl (isNonV d)) w := by simp only [vE]
@[simp] theorem e_notN {a : CE} : vE F (.notN a) w = bd (vE F a w) fun d w => .ok (.bl (!isNonV d)) w := by simp only [vE]
@[simp] theorem e_isB {k : Bool} {a : CE} : vE F (.isB k a) w = bd (vE F a w) fun d w => isB d fun b => .ok (.bl (decide (b = k))) w := by simp only [vE]
@[simp] theorem e_notB {k : Bool} {a : CE} : vE F (.notB k a) w = bd (vE F a w) fun d w => isB d fun b => .ok (.bl (!decide (b = k))) w := by simp only [vE]
@[simp] theorem e_and {a b : CE} : vE F (.and_ a b) w = bd (vE F a w) fun d w => isB d fun k => cond k (vE F b w) (.ok (.bl false) w) := by simp only [vE]
@[simp] theorem e_or {a b : CE} : vE F (.or_ a b) w = bd (vE F a w) fun d w => isB d fun k => cond k (.ok (.bl true) w) (vE F b w) := by simp only [vE]
@[simp] theorem e_not {a : CE} : vE F (.not_ a) w = bd (vE F a w) fun d w => op (truV d) fun k => .ok (.bl (!k)) w := by simp only [vE]
@[simp] theorem e_ix {a i : CE} : vE F (.ix a i) w = bd (vE F a w) fun x w => bd (vE F i w) fun y w => op (ixV x y) fun d => .ok d w := by simp only [vE]
@[simp] theorem e_sl {a : CE} {lo hi : CO} : vE F (.sl a lo hi) w = bd (vE F a w) fun x w => bd (vO F lo w) fun l w => bd (vO F hi w) fun u w => op (slV x l u) fun d => .ok d w := by simp only [vE]
@[simp] theorem e_rvs {a : CE} : vE F (.rvs a) w = bd (vE F a w) fun d w => isT d fun xs => .ok (.tup xs.reverse) w := by simp only [vE]
@[simp] theorem e_lc0 {g : TG} {it : CI} {e : CE} : vE F (.lc g it .none e) w = bd (vI F it w) fun s w => bd (loopA (fun x w => bd (aG F g x (wipeW w (slotsG g))) fun _ w => bd (vE F e w) fun y w => .ok (some y) w) s [] w) fun ys w' => .ok (.lst ys) (backW w w' (slotsG g)) := by simp only [vE]
@[simp] theorem e_lc1 {g : TG} {it : CI} {c e : CE} : vE F (.lc g it (.some c) e) w = bd (vI F it w) fun s w => bd (loopA (fun x w => bd (aG F g x (wipeW w (slotsG g))) fun _ w => bd (vE F c w) fun d w => op (truV d) fun k => cond k (bd (vE F e w) fun y w => .ok (some y) w) (.ok none w)) s [] w) fun ys w' => .ok (.lst ys) (backW w w' (slotsG g)) := by simp only [vE]
@[simp] theorem e_dc {g : TG} {it : CI} {k v : CE} : vE F (.dc g it k v) w = bd (vI F it w) fun s w => bd (loopD (fun x w => bd (aG F g x (wipeW w (slotsG g))) fun _ w => bd (vE F k w) fun y w => bd (vE F v w) fun z w => .ok (y, z) w) s [] w) fun ys w' => .ok (.dK ys) (backW w w' (slotsG g)) := by simp only [vE]
@[simp] theorem e_app {i : Nat} {e : CE} : vE F (.app (.var i) e) w = op (lstW w i) fun _ => bd (vE F e w) fun y w => op (lstW w i) fun xs => op (g1 (xs.length < lm) ()) fun _ => .ok .non (w.set i (some (.lst (xs ++ [y])))) := by simp only [vE]; rfl
@[simp] theorem e_ext {i : Nat} {e : CE} : vE F (.ext (.var i) e) w = op (lstW w i) fun _ => bd (vE F e w) fun y w => op (lstW w i) fun xs => isL y fun ys => op (g1 (xs.length + ys.length ≤ lm) ()) fun _ => .ok .non (w.set i (some (.lst (xs ++ ys)))) := by simp only [vE]; rfl
@[simp] theorem e_pop {i : Nat} : vE F (.pop (.var i)) w = op (lstW w i) fun xs => op (xs[xs.length - 1]?) fun y => .ok y (w.set i (some (.lst xs.dropLast))) := by simp only [vE]; rfl
@[simp] theorem e_idx {o e : CE} : vE F (.idx o e) w = bd (vE F o w) fun x w => op (itL x) fun xs => bd (vE F e w) fun y w => op (idxFV xs y) fun j => .ok (.int (j : Nat)) w := by simp only [vE]
@[simp] theorem e_get2 {o k d : CE} : vE F (.get2 o k d) w = bd (vE F o w) fun x w => op (g1 (isDicV x = true) ()) fun _ => bd (vE F k w) fun y w => bd (vE F d w) fun z w => op (lookV x y) fun q => .ok (q.getD z) w := by simp only [vE]
@[simp] theorem e_lrg {e : CE} : vE F (.lrg e) w = bd (vE F e w) fun d w => isI d fun j => op (g1 (j.natAbs ≤ lm) ()) fun _ => .ok (.lst (rngV 0 j.toNat)) w := by simp only [vE]
@[simp] theorem o_none : vO F .none w = .ok none w := by simp only [vO]
@[simp] theorem o_some {e : CE} : vO F (.some e) w = bd (vE F e w) fun d w => isI d fun i => .ok (some i) w := by simp only [vO]
@[simp] theorem es_nil : vEs F .nil w = .ok [] w := by simp only [vEs]
@[simp] theorem es_cons {e : CE} {es : CEs} : vEs F (.cons e es) w = bd (vE F e w) fun d w => bd (vEs F es w) fun ds w => .ok (d :: ds) w := by simp only [vEs]
@[simp] theorem it_seq {e : CE} : vI F (.seq e) w = bd (vE F e w) fun d w => op (itS d) fun xs => .ok xs w := by simp only [vI]
@[simp] theorem it_rng1 {e : CE} : vI F (.rng1 e) w = bd (vE F e w) fun d w => isI d fun j => op (g1 (isr j = true) ()) fun _ => .ok (rngV 0 j.toNat) w := by simp only [vI]
@[simp] theorem it_rng2 {a b : CE} : vI F (.rng2 a b) w = bd (vE F a w) fun x w => bd (vE F b w) fun y w => isI x fun i => isI y fun j => op (g1 (isr i = true ∧ isr j = true) ()) fun _ => .ok (rngV i (j - i).toNat) w := by simp only [vI]
@[simp] theorem it_enum {e : CE} : vI F (.enum e) w = bd (vE F e w) fun d w => op (itV d) fun xs => .ok (enumV xs) w := by simp only [vI]
@[simp] theorem it_zip {a b : CE} : vI F (.zip a b) w = bd (vE F a w) fun x w => bd (vE F b w) fun y w => (match x, y with
    | .tup xs, .tup ys => .ok (zipV xs ys) w
    | .tup _, _ => .stuck
    | _, .tup _ => .stuck
    | x, y => op (itL x) fun xs => op (itL y) fun ys => .ok (zipV xs ys) w) := by simp only [vI] <;> rfl
@[simp] theorem it_rev {e : CE} : vI F (.rev e) w = bd (vE F e w) fun d w => op (itV d) fun xs => .ok xs.reverse w := by simp only [vI]
@[simp] theorem it_revrng {e : CE} : vI F (.revrng e) w = bd (vE F e w) fun d w => isI d fun j => op (g1 (isr j = true) ()) fun _ => .ok (rngV 0 j.toNat).reverse w := by simp only [vI]
@[simp] theorem g_nm {i : Nat} {d : Vv} : aG F (.name i) d w = .ok () (w.set i (some d)) := by simp only [aG]
@[simp] theorem g_tp {ts : TGs} {d : Vv} : aG F (.tup ts) d w = isT d fun xs => op (g1 (xs.length = lenGs ts) ()) fun _ => aGs F ts xs w := by simp only [aG]
@[simp] theorem g_sb {s : Nat} {i : CE} {d : Vv} : aG F (.sub (.var s) i) d w = op (getW w s) fun _ => bd (vE F i w) fun y w => op (getW w s) fun x => op (setV x y d) fun x => .ok () (w.set s (some x)) := by simp only [aG]; rfl
@[simp] theorem gs_nil : aGs F .nil [] w = .ok () w := by simp only [aGs]
@[simp] theorem gs_cons {t : TG} {ts : TGs} {d : Vv} {ds : List Vv} : aGs F (.cons t ts) (d :: ds) w = bd (aG F t d w) fun _ w => aGs F ts ds w := by simp only [aGs]
@[simp] theorem s_expr {e : CE} : vS F sub (.expr e) w = bd (vE F e w) fun _ w => .ok .nx w := by simp only [vS]
@[simp] theorem s_asg {t : TG} {e : CE} : vS F sub (.asg t e) w = bd (vE F e w) fun d w => bd (aG F t d w) fun _ w => .ok .nx w := by simp only [vS]
@[simp] theorem s_ret {e : CE} : vS F sub (.ret e) w = bd (vE F e w) fun d w => .ok (.rt d) w := by simp only [vS]
@[simp] theorem s_retN : vS F sub .retN w = .ok (.rt .non) w := by simp only [vS]
@[simp] theorem s_if {c : CE} {a b : CSs} : vS F sub (.if_ c a b) w = bd (vE F c w) fun d w => op (truV d) fun k => cond k (vSs F sub a w) (vSs F sub b w) := by simp only [vS]
@[simp] theorem s_for {t : TG} {it : CI} {body : CSs} : vS F sub (.for_ t it body) w = bd (vI F it w) fun s w => loopF (fun x w => bd (aG F t x w) fun _ w => vSs F sub body w) s w := by simp only [vS]
@[simp] theorem s_while {c : CE} {body : CSs} : vS F sub (.while_ c body) w = whileF (fun w => bd (vE F c w) fun d w => op (truV d) fun k => .ok k w) (fun w => vSs F sub body w) turns w := by simp only [vS]
@[simp] theorem s_raise {c : Nat} : vS F sub (.raise c) w = .exc c := by simp only [vS]
@[simp] theorem s_pass : vS F sub .pass w = .ok .nx w := by simp only [vS]
@[simp] theorem s_brk : vS F sub .brk w = .ok .bk w := by simp only [vS]
@[simp] theorem s_cnt : vS F sub .cnt w = .ok .ct w := by simp only [vS]
@[simp] theorem ss_nil : vSs F sub .nil w = .ok .nx w := by simp only [vSs]
theorem ss_cons {s : CS} {ss : CSs} : vSs F sub (.cons s ss) w = bd (vS F sub s w) fun f w => onF f w fun w => vSs F sub ss w := by simp only [vSs]
@[simp] theorem ss_one {s : CS} : vSs F sub (.cons s .nil) w = bd (vS F sub s w) fun f w => onF f w fun w => .ok .nx w := by simp only [vSs]
end
/-! ### what a run gives -/
def W {α : Type} (m : Rv α) (Q : α → VE → Prop) (E : Nat → Prop) : Prop := match m with
  | .ok a w => Q a w
  | .exc c => E c
  | .stuck => False
abbrev noE : Nat → Prop := fun _ => False
section
variable {α β : Type} {Q : α → VE → Prop} {E : Nat → Prop}
@[simp] theorem W_ok {a : α} {w : VE} : W (.ok a w) Q E ↔ Q a w := Iff.rfl
@[simp] theorem W_exc {c : Nat} : W (.exc c) Q E ↔ E c := Iff.rfl
@[simp] theorem W_stuck : W (.stuck) Q E ↔ False := Iff.rfl
@[simp] theorem W_bd {m : Rv β} {f : β → VE → Rv α} : W (bd m f) Q E ↔ W m (fun a w => W (f a w) Q E) E := by cases m <;> exact Iff.rfl
@[simp] theorem W_bdN {m : Rv β} {f : β → VE → Rv α} : W (bdN m f) Q E ↔ W m (fun a w => W (f a w) Q E) (fun _ => False) := by cases m <;> exact Iff.rfl
@[simp] theorem W_g1 {c : Prop} [Decidable c] {b : β} {f : β → Rv α} : W (op (g1 c b) f) Q E ↔ c ∧ W (f b) Q E := by
  unfold g1
  by_cases h : c <;> simp [h, op]
@[simp] theorem W_none {f : β → Rv α} : W (op none f) Q E ↔ False := Iff.rfl
@[simp] theorem W_back {es : CEs} {w : VE} {m : Rv Vv} {Q : Vv → VE → Prop} : W (back es w m) Q E ↔ W m (fun v os => Q v (wbs es os w)) E := by cases m <;> exact Iff.rfl
theorem W_cond {b : Bool} {m m' : Rv α} : W (cond b m m') Q E ↔ (b = true → W m Q E) ∧ (b = false → W m' Q E) := by cases b <;> simp
theorem W_op {o : Option β} {f : β → Rv α} : W (op o f) Q E ↔ ∃ a, o = some a ∧ W (f a) Q E := by cases o <;> simp
theorem W.imp {Q' : α → VE → Prop} {E' : Nat → Prop} {m : Rv α} (x : W m Q E) (f : ∀ a w, Q a w → Q' a w) (g : ∀ c, E c → E' c) : W m Q' E' := by
  cases m with
  | ok a w => exact f a w x
  | exc c => exact g c x
  | stuck => exact x
theorem W.eq {m : Rv α} (x : W m Q noE) : ∃ a w, m = .ok a w ∧ Q a w := by
  cases m with
  | ok a w => exact ⟨a, w, rfl, x⟩
  | exc c => exact x.elim
  | stuck => exact x.elim
theorem W.of {m : Rv α} {a : α} {w : VE} (e : m = .ok a w) (q : Q a w) : W m Q E := by rw [e]; exact q
theorem W.exc {m : Rv α} {c : Nat} (e : m = .exc c) (q : E c) : W m Q E := by rw [e]; exact q
theorem W.is {m : Rv α} {a : α} {w : VE} (x : W m (fun a' w' => a' = a ∧ w' = w) noE) : m = .ok a w := by
  obtain ⟨a', w', e, rfl, rfl⟩ := x.eq
  exact e
theorem W.isE {m : Rv α} {c : Nat} (x : W m (fun _ _ => False) (fun c' => c' = c)) : m = .exc c := by
  cases m with
  | ok a w => exact x.elim
  | exc c' => cases x; rfl
  | stuck => exact x.elim
end
theorem W_cons {F : FnsV} {sub : Subs} {s : CS} {ss : CSs} {w : VE} {Q : Fv → VE → Prop} {E : Nat → Prop} (x : W (vS F sub s w) (fun f w' => W (onF f w' fun w => vSs F sub ss w) Q E) E) : W (vSs F sub (.cons s ss) w) Q E := by
  rw [ss_cons, W_bd]
  exact x
theorem W_step {F : FnsV} {sub : Subs} {s : CS} {ss : CSs} {w : VE} {Q : Fv → VE → Prop} {E : Nat → Prop} (w' : VE) (e : vS F sub s w = .ok .nx w') (k : W (vSs F sub ss w') Q E) : W (vSs F sub (.cons s ss) w) Q E := by
  refine W_cons ?_
  rw [e]
  exact k
@[simp] theorem outs_nil {p : Nat} {w : VE} : outs [] p w = [] := rfl
/-- the call of a def -/
theorem W_call {P : PrV} {n f : Nat} {fn : FnV} {ds : List Vv} {Q : Vv → VE → Prop} {E : Nat → Prop} (hf : P.fns[f]? = some fn) (hl : ds.length = fn.fn.pars)
    (x : W (vSs (callV P n) P.sub fn.fn.body (startV fn.fn.names ds)) (fun fl w => match fl with | .nx => fn.an.fr = false ∧ Q .non (outs fn.an.io fn.fn.pars w) | .rt d => Q d (outs fn.an.io fn.fn.pars w) | _ => False) (fun c => fn.an.io = [] ∧ E c)) : W (callV P (n + 1) f ds) Q E := by
  unfold callV
  rw [hf]
  simp only [W_g1]
  refine ⟨hl, ?_⟩
  cases em : vSs (callV P n) P.sub fn.fn.body (startV fn.fn.names ds) with
  | stuck => rw [em] at x; exact x.elim
  | exc c =>
    rw [em] at x
    obtain ⟨x1, x2⟩ := x
    unfold fin
    rw [x1]
    exact x2
  | ok fl w =>
    rw [em] at x
    unfold fin
    cases fl with
    | nx =>
      obtain ⟨x1, x2⟩ := x
      rw [x1]
      exact x2
    | rt d => exact x
    | bk => exact x.elim
    | ct => exact x.elim
/-- a def that changes no parameter: an equation -/
theorem call_is {P : PrV} {n f : Nat} {fn : FnV} {ds : List Vv} {v : Vv} (hf : P.fns[f]? = some fn) (hl : ds.length = fn.fn.pars) (hio : fn.an.io = [])
    (x : W (vSs (callV P n) P.sub fn.fn.body (startV fn.fn.names ds)) (fun fl _ => match fl with | .nx => fn.an.fr = false ∧ v = .non | .rt d => d = v | _ => False) noE) : callV P (n + 1) f ds = .ok v [] := by
  refine W.is (W_call hf hl (x.imp (fun fl w q => ?_) fun c z => z.elim))
  cases fl with
  | nx => exact ⟨q.1, q.2.symm, by rw [hio]; rfl⟩
  | rt d => exact ⟨q, by rw [hio]; rfl⟩
  | bk => exact q
  | ct => exact q
theorem call_exc {P : PrV} {n f : Nat} {fn : FnV} {ds : List Vv} {c : Nat} (hf : P.fns[f]? = some fn) (hl : ds.length = fn.fn.pars) (hio : fn.an.io = [])
    (x : W (vSs (callV P n) P.sub fn.fn.body (startV fn.fn.names ds)) (fun _ _ => False) (fun c' => c' = c)) : callV P (n + 1) f ds = .exc c := by
  refine W.isE (W_call hf hl (x.imp (fun fl w q => q.elim) fun c z => ⟨hio, z⟩))
/-- a spec holds from a fuel on -/
def Sp (P : PrV) (f : Nat) (d : Nat) (S : FnsV → Nat → Prop) : Prop := ∀ n, d ≤ n → S (callV P n) f
theorem Sp.mk {P : PrV} {f d : Nat} {S : FnsV → Nat → Prop} (h : ∀ n, d ≤ n → S (callV P (n + 1)) f) : Sp P f (d + 1) S := fun n hn => by
  obtain ⟨m, rfl⟩ : ∃ m, n = m + 1 := ⟨n - 1, by omega⟩
  exact h m (by omega)
/-! ### loops -/
def lpQ (f : Fv) (w : VE) (I : VE → Prop) (Q : Fv → VE → Prop) : Prop := match f with
  | .nx => I w
  | .ct => I w
  | .bk => Q .nx w
  | .rt d => Q (.rt d) w
section
variable {I : VE → Prop} {Q : Fv → VE → Prop} {w : VE}
@[simp] theorem lpQ_nx : lpQ .nx w I Q = I w := rfl
@[simp] theorem lpQ_ct : lpQ .ct w I Q = I w := rfl
@[simp] theorem lpQ_bk : lpQ .bk w I Q = Q .nx w := rfl
@[simp] theorem lpQ_rt {d : Vv} : lpQ (.rt d) w I Q = Q (.rt d) w := rfl
end
/-- a loop over things that are written by enc -/
theorem W_for {α : Type} {enc : α → Vv} {tn : Vv → VE → Rv Fv} {xs : List α} {w : VE} {Q : Fv → VE → Prop} {E : Nat → Prop} (I : Nat → VE → Prop) (h0 : I 0 w)
    (hs : ∀ i x w, xs[i]? = some x → I i w → W (tn (enc x) w) (fun f w' => lpQ f w' (I (i + 1)) Q) E)
    (he : ∀ w, I xs.length w → Q .nx w) : W (loopF tn (xs.map enc) w) Q E := by
  suffices ∀ (ys : List α) (i : Nat), xs.drop i = ys → i ≤ xs.length → ∀ w, I i w → W (loopF tn (ys.map enc) w) Q E from this xs 0 rfl (Nat.zero_le _) w h0
  intro ys
  induction ys with
  | nil =>
    intro i e hi w q
    have : i = xs.length := by
      have := congrArg List.length e
      rw [List.length_drop] at this
      simp at this; omega
    subst this
    exact he w q
  | cons y ys ih =>
    intro i e hi w q
    have hlt : i < xs.length := by
      have := congrArg List.length e
      rw [List.length_drop] at this
      simp at this; omega
    have ex : xs[i]? = some y := by
      have := congrArg (fun l => l[0]?) e
      simpa using this
    have ed : xs.drop (i + 1) = ys := by
      have := congrArg List.tail e
      simpa using this
    rw [List.map_cons]
    unfold loopF
    rw [W_bd]
    refine (hs i y w ex q).imp (fun f w' q => ?_) fun _ z => z
    cases f with
    | nx => exact ih (i + 1) ed hlt w' q
    | ct => exact ih (i + 1) ed hlt w' q
    | bk => exact q
    | rt d => exact q
theorem W_forV {tn : Vv → VE → Rv Fv} {xs : List Vv} {w : VE} {Q : Fv → VE → Prop} {E : Nat → Prop} (I : Nat → VE → Prop) (h0 : I 0 w)
    (hs : ∀ i x w, xs[i]? = some x → I i w → W (tn x w) (fun f w' => lpQ f w' (I (i + 1)) Q) E)
    (he : ∀ w, I xs.length w → Q .nx w) : W (loopF tn xs w) Q E := by
  have := W_for (enc := id) (xs := xs) (tn := tn) (w := w) (Q := Q) (E := E) I h0 hs he
  rwa [List.map_id] at this
/-- a loop that asks each item and returns, or raises, at the first that is not right -/
theorem W_ask {α : Type} {enc : α → Vv} {tn : Vv → VE → Rv Fv} {xs : List α} {w : VE} {Q : Fv → VE → Prop} {E : Nat → Prop} (p : α → Bool) (J : VE → Prop) (h0 : J w)
    (hs : ∀ x ∈ xs, ∀ w, J w → W (tn (enc x) w) (fun f w' => (f = .nx ∧ p x = true ∧ J w') ∨ ((f = .nx → False) ∧ xs.all p = false ∧ lpQ f w' (fun _ => False) Q)) (fun c => xs.all p = false ∧ E c))
    (he : ∀ w, J w → xs.all p = true → Q .nx w) : W (loopF tn (xs.map enc) w) Q E := by
  refine W_for (fun i w => J w ∧ (xs.take i).all p = true) ⟨h0, rfl⟩ ?_ ?_
  · rintro i x w ex ⟨hj, ha⟩
    refine (hs x (List.mem_of_getElem? ex) w hj).imp (fun f w' q => ?_) fun c z => z.2
    rcases q with ⟨rfl, hp, hj'⟩ | ⟨_, _, q⟩
    · refine ⟨hj', ?_⟩
      rw [List.take_succ, ex, List.all_append, ha]
      simp [hp]
    · cases f with
      | nx => exact q.elim
      | ct => exact q.elim
      | bk => exact q
      | rt d => exact q
  · rintro w ⟨hj, ha⟩
    rw [List.take_length] at ha
    exact he w hj ha
/-- a comprehension -/
theorem W_compI {α : Type} {enc : α → Vv} {tn : Vv → VE → Rv (Option Vv)} {xs : List α} {w : VE} {Q : List Vv → VE → Prop} {E : Nat → Prop} (I : Nat → List Vv → VE → Prop) (h0 : I 0 [] w) (hl : xs.length ≤ lm)
    (hs : ∀ i x acc w, xs[i]? = some x → acc.length ≤ i → I i acc w → W (tn (enc x) w) (fun o w' => match o with
      | none => I (i + 1) acc w'
      | some y => I (i + 1) (acc ++ [y]) w') noE)
    (he : ∀ acc w, I xs.length acc w → Q acc w) : W (loopA tn (xs.map enc) [] w) Q E := by
  suffices ∀ (ys : List α) (i : Nat), xs.drop i = ys → i ≤ xs.length → ∀ acc w, acc.length ≤ i → I i acc w → W (loopA tn (ys.map enc) acc w) Q E from this xs 0 rfl (Nat.zero_le _) [] w (Nat.le_refl _) h0
  intro ys
  induction ys with
  | nil =>
    intro i e hi acc w ha q
    have : i = xs.length := by
      have := congrArg List.length e
      rw [List.length_drop] at this
      simp at this; omega
    subst this
    exact he acc w q
  | cons y ys ih =>
    intro i e hi acc w ha q
    have hlt : i < xs.length := by
      have := congrArg List.length e
      rw [List.length_drop] at this
      simp at this; omega
    have ex : xs[i]? = some y := by
      have := congrArg (fun l => l[0]?) e
      simpa using this
    have ed : xs.drop (i + 1) = ys := by
      have := congrArg List.tail e
      simpa using this
    rw [List.map_cons]
    unfold loopA
    rw [W_bdN]
    refine (hs i y acc w ex ha q).imp (fun o w' q => ?_) fun _ z => z
    cases o with
    | none => exact ih (i + 1) ed hlt acc w' (by omega) q
    | some z =>
      simp only [W_g1]
      exact ⟨by omega, ih (i + 1) ed hlt _ w' (by simp; omega) q⟩
/-- a comprehension whose block only reads -/
theorem W_comp {α : Type} {enc : α → Vv} {tn : Vv → VE → Rv (Option Vv)} {xs : List α} {w : VE} {Q : List Vv → VE → Prop} {E : Nat → Prop} (f : α → Option Vv) (J : VE → Prop) (h0 : J w) (hl : xs.length ≤ lm)
    (hs : ∀ x ∈ xs, ∀ w, J w → W (tn (enc x) w) (fun o w' => o = f x ∧ J w') noE)
    (he : ∀ w, J w → Q (xs.filterMap f) w) : W (loopA tn (xs.map enc) [] w) Q E := by
  refine W_compI (fun i acc w => J w ∧ acc = (xs.take i).filterMap f) ⟨h0, rfl⟩ hl ?_ ?_
  · rintro i x acc w ex _ ⟨hj, rfl⟩
    refine (hs x (List.mem_of_getElem? ex) w hj).imp (fun o w' ⟨e, hj'⟩ => ?_) fun _ z => z
    have et : (xs.take (i + 1)).filterMap f = (xs.take i).filterMap f ++ (f x).toList := by
      rw [List.take_succ, ex, List.filterMap_append]
      cases hf : f x <;> simp [hf]
    subst e
    rw [et]
    cases f x with
    | none => exact ⟨hj', by simp⟩
    | some y => exact ⟨hj', by simp⟩
  · rintro acc w ⟨hj, rfl⟩
    rw [List.take_length]
    exact he w hj
/-- the same without a condition -/
theorem W_map {α : Type} {enc : α → Vv} {tn : Vv → VE → Rv (Option Vv)} {xs : List α} {w : VE} {Q : List Vv → VE → Prop} {E : Nat → Prop} (f : α → Vv) (J : VE → Prop) (h0 : J w) (hl : xs.length ≤ lm)
    (hs : ∀ x ∈ xs, ∀ w, J w → W (tn (enc x) w) (fun o w' => o = some (f x) ∧ J w') noE)
    (he : ∀ w, J w → Q (xs.map f) w) : W (loopA tn (xs.map enc) [] w) Q E :=
  W_comp (fun x => some (f x)) J h0 hl hs fun w hj => by
    have : xs.filterMap (fun x => some (f x)) = xs.map f := List.filterMap_eq_map ▸ rfl
    rw [this]
    exact he w hj
theorem W_compV {tn : Vv → VE → Rv (Option Vv)} {xs : List Vv} {w : VE} {Q : List Vv → VE → Prop} {E : Nat → Prop} (f : Vv → Option Vv) (J : VE → Prop) (h0 : J w) (hl : xs.length ≤ lm)
    (hs : ∀ x ∈ xs, ∀ w, J w → W (tn x w) (fun o w' => o = f x ∧ J w') noE)
    (he : ∀ w, J w → Q (xs.filterMap f) w) : W (loopA tn xs [] w) Q E := by
  have := W_comp (enc := id) (xs := xs) (tn := tn) (w := w) (Q := Q) (E := E) f J h0 hl hs he
  rwa [List.map_id] at this
/-- a dict comprehension over different keys -/
theorem W_dict {α : Type} {enc : α → Vv} {tn : Vv → VE → Rv (Vv × Vv)} {xs : List α} {w : VE} {Q : List (Key × Vv) → VE → Prop} {E : Nat → Prop} (k : α → Key) (f : α → Vv) (J : VE → Prop) (h0 : J w) (hl : xs.length ≤ lm) (nd : (xs.map k).Nodup)
    (hs : ∀ x ∈ xs, ∀ w, J w → W (tn (enc x) w) (fun o w' => o = (kV (k x), f x) ∧ J w') noE)
    (he : ∀ w, J w → Q (xs.map fun x => (k x, f x)) w) : W (loopD tn (xs.map enc) [] w) Q E := by
  suffices ∀ (ys pre : List α) (w : VE), xs = pre ++ ys → J w → W (loopD tn (ys.map enc) (pre.map fun x => (k x, f x)) w) Q E from this xs [] w rfl h0
  intro ys
  induction ys with
  | nil =>
    intro pre w e hj
    rw [List.append_nil] at e
    subst e
    exact he w hj
  | cons y ys ih =>
    intro pre w e hj
    rw [List.map_cons]
    unfold loopD
    rw [W_bdN]
    refine (hs y (by rw [e]; simp) w hj).imp (fun o w' ⟨e', hj'⟩ => ?_) fun _ z => z
    subst e'
    have hk : keyV (kV (k y)) = some (k y) := by cases k y <;> rfl
    simp only [hk, op_some, W_g1]
    refine ⟨?_, ?_⟩
    · rw [e] at hl
      simp at hl ⊢
      omega
    · have hp : putV (pre.map fun x => (k x, f x)) (k y) (f y) = (pre ++ [y]).map fun x => (k x, f x) := by
        unfold putV
        rw [if_neg, List.map_append]
        · rfl
        · intro z
          rw [List.any_eq_true] at z
          obtain ⟨kv, hkv, e2⟩ := z
          obtain ⟨x, hx, rfl⟩ := List.mem_map.mp hkv
          rw [e, List.map_append] at nd
          exact (List.nodup_append.mp nd).2.2 (k x) (List.mem_map.mpr ⟨x, hx, rfl⟩) (k y) (by simp) (of_decide_eq_true e2)
      rw [hp]
      exact ih (pre ++ [y]) w' (by rw [e]; simp) hj'
/-- a while loop by a measure -/
theorem W_while {c : VE → Rv Bool} {tn : VE → Rv Fv} {Q : Fv → VE → Prop} {E : Nat → Prop} (I : Nat → VE → Prop)
    (hs : ∀ m w, I m w → W (c w) (fun b w' => (b = true → W (tn w') (fun f w2 => lpQ f w2 (fun w2 => ∃ k, k < m ∧ I k w2) Q) E) ∧ (b = false → Q .nx w')) E) :
    ∀ (k m : Nat) (w : VE), m < k → I m w → W (whileF c tn k w) Q E
  | 0, m, w, h, _ => absurd h (Nat.not_lt_zero _)
  | k + 1, m, w, h, q => by
    unfold whileF
    rw [W_bd]
    refine (hs m w q).imp (fun b w' ⟨h1, h2⟩ => ?_) fun _ z => z
    cases b with
    | false => exact h2 rfl
    | true =>
      have x := h1 rfl
      show W (bd (tn w') _) Q E
      rw [W_bd]
      refine x.imp (fun f w2 q => ?_) fun _ z => z
      cases f with
      | nx => obtain ⟨m', hm, q⟩ := q; exact W_while I hs k m' w2 (by omega) q
      | ct => obtain ⟨m', hm, q⟩ := q; exact W_while I hs k m' w2 (by omega) q
      | bk => exact q
      | rt d => exact q
theorem rng_eq {lo : Int} {n : Nat} : rngV lo n = (List.range n).map fun (k : Nat) => Vv.int (lo + k) := rfl
theorem rng0 {n : Nat} : rngV 0 n = (List.range n).map fun (k : Nat) => Vv.int (k : Int) := by
  rw [rng_eq]
  exact List.map_congr_left fun k _ => by rw [Int.zero_add]
theorem isr_nat {n : Nat} (h : n < 2 ^ 61) : isr (n : Int) = true := decide_eq_true (by omega)
theorem W_try {F : FnsV} {sub : Subs} {b : CSs} {c : Nat} {s : SB} {w : VE} {Q : Fv → VE → Prop} {E : Nat → Prop} (x : W (vSs F sub b w) Q (fun k => ∃ bb, sub k c = some bb ∧ (bb = true → ∃ d, SBv sub k s = some d ∧ Q (.rt d) []) ∧ (bb = false → E k))) : W (vS F sub (.try_ b c s) w) Q E := by
  simp only [vS]
  cases z : vSs F sub b w with
  | ok f w' => rw [z] at x; exact x
  | stuck => rw [z] at x; exact x.elim
  | exc k =>
    rw [z] at x
    obtain ⟨bb, e, x1, x2⟩ := x
    simp only [e, op_some]
    cases bb with
    | true =>
      obtain ⟨d, ed, q⟩ := x1 rfl
      simp only [ed, op_some]
      exact q
    | false => exact x2 rfl
theorem log2_lt {n k : Nat} (hk : 0 < k) (h : n < 2 ^ k) : n.log2 < k := by
  by_cases e : n = 0
  · subst e; simpa using hk
  · exact (Nat.log2_lt e).mpr h
theorem mul_ok {i j : Int} (hi : i.natAbs < 2 ^ 1000) (hj : j.natAbs < 2 ^ 1000) : mulOk i j = true := by
  unfold mulOk
  have := log2_lt (by decide) hi
  have := log2_lt (by decide) hj
  exact decide_eq_true (by omega)
end PV
end
section
set_option maxRecDepth 100000
namespace Core
open PySem PI PV
/-- is_whole(value): 0 value -/
def c_is_whole : CSs :=
  (.cons (.ret (.and_ (.isi (.var 0) .int) (.not_ (.isi (.var 0) .bool)))) .nil)
abbrev a_is_whole : An := ⟨[], [], [], false⟩
abbrev f_is_whole : FnV := ⟨⟨1, 1, c_is_whole⟩, a_is_whole⟩
/-- is_whole_in(value, low, high): 0 value 1 low 2 high -/
def c_is_whole_in (i_is_whole : Nat) : CSs :=
  (.cons (.ret (.and_ (.call i_is_whole (.cons (.var 0) .nil)) (.chain .le .le (.var 1) (.var 0) (.var 2)))) .nil)
abbrev a_is_whole_in : An := ⟨[], [], [], false⟩
abbrev f_is_whole_in (i_is_whole : Nat) : FnV := ⟨⟨3, 3, (c_is_whole_in i_is_whole)⟩, a_is_whole_in⟩
/-- is_name(value): 0 value 1 char -/
def c_is_name : CSs :=
  (.cons (.if_ (.not_ (.isi (.var 0) .str)) (.cons (.ret (.lit (.bl false))) .nil) .nil) (.cons (.if_ (.or_ (.cmp .lt (.b1 .len (.var 0)) (.lit (.int 1))) (.cmp .gt (.b1 .len (.var 0)) (.lit (.int 8)))) (.cons (.ret (.lit (.bl false))) .nil) .nil) (.cons (.if_ (.cmp .notin (.ix (.var 0) (.lit (.int 0))) (.glob "LETTERS" (.str "abcdefghijklmnopqrstuvwxyz"))) (.cons (.ret (.lit (.bl false))) .nil) .nil) (.cons (.for_ (.name 1) (.seq (.var 0)) (.cons (.if_ (.and_ (.cmp .notin (.var 1) (.glob "LETTERS" (.str "abcdefghijklmnopqrstuvwxyz"))) (.cmp .notin (.var 1) (.glob "DIGITS" (.str "0123456789")))) (.cons (.ret (.lit (.bl false))) .nil) .nil) .nil)) (.cons (.ret (.lit (.bl true))) .nil)))))
abbrev a_is_name : An := ⟨[], [], [], false⟩
abbrev f_is_name : FnV := ⟨⟨2, 1, c_is_name⟩, a_is_name⟩
/-- is_tuple_of(value, low, high): 0 value 1 low 2 high -/
def c_is_tuple_of : CSs :=
  (.cons (.ret (.and_ (.isi (.var 0) .tuple) (.chain .le .le (.var 1) (.b1 .len (.var 0)) (.var 2)))) .nil)
abbrev a_is_tuple_of : An := ⟨[], [], [], false⟩
abbrev f_is_tuple_of : FnV := ⟨⟨3, 3, c_is_tuple_of⟩, a_is_tuple_of⟩
/-- is_names(value, low, high): 0 value 1 low 2 high 3 seen 4 item -/
def c_is_names (i_is_name i_is_tuple_of : Nat) : CSs :=
  (.cons (.if_ (.not_ (.call i_is_tuple_of (.cons (.var 0) (.cons (.var 1) (.cons (.var 2) .nil))))) (.cons (.ret (.lit (.bl false))) .nil) .nil) (.cons (.asg (.name 3) .dnK) (.cons (.for_ (.name 4) (.seq (.var 0)) (.cons (.if_ (.or_ (.not_ (.call i_is_name (.cons (.var 4) .nil))) (.cmp .isin (.var 4) (.var 3))) (.cons (.ret (.lit (.bl false))) .nil) .nil) (.cons (.asg (.sub (.var 3) (.var 4)) (.lit (.bl true))) .nil))) (.cons (.ret (.lit (.bl true))) .nil))))
abbrev a_is_names : An := ⟨[], [], [3], false⟩
abbrev f_is_names (i_is_name i_is_tuple_of : Nat) : FnV := ⟨⟨5, 3, (c_is_names i_is_name i_is_tuple_of)⟩, a_is_names⟩
/-- is_rising(value): 0 value 1 item 2 at -/
def c_is_rising (i_is_whole : Nat) : CSs :=
  (.cons (.if_ (.not_ (.isi (.var 0) .tuple)) (.cons (.ret (.lit (.bl false))) .nil) .nil) (.cons (.for_ (.name 1) (.seq (.var 0)) (.cons (.if_ (.not_ (.call i_is_whole (.cons (.var 1) .nil))) (.cons (.ret (.lit (.bl false))) .nil) .nil) .nil)) (.cons (.for_ (.name 2) (.rng2 (.lit (.int 1)) (.b1 .len (.var 0))) (.cons (.if_ (.cmp .ge (.ix (.var 0) (.bin .sub (.var 2) (.lit (.int 1)))) (.ix (.var 0) (.var 2))) (.cons (.ret (.lit (.bl false))) .nil) .nil) .nil)) (.cons (.ret (.lit (.bl true))) .nil))))
abbrev a_is_rising : An := ⟨[], [], [], false⟩
abbrev f_is_rising (i_is_whole : Nat) : FnV := ⟨⟨3, 1, (c_is_rising i_is_whole)⟩, a_is_rising⟩
/-- is_answer(value): 0 value -/
def c_is_answer (i_is_tuple_of : Nat) : CSs :=
  (.cons (.if_ (.or_ (.not_ (.call i_is_tuple_of (.cons (.var 0) (.cons (.lit (.int 2)) (.cons (.lit (.int 2)) .nil))))) (.not_ (.isi (.ix (.var 0) (.lit (.int 0))) .str))) (.cons (.ret (.lit (.bl false))) .nil) .nil) (.cons (.ret (.or_ (.cmp .eq (.ix (.var 0) (.lit (.int 0))) (.lit (.str "yes"))) (.cmp .eq (.ix (.var 0) (.lit (.int 0))) (.lit (.str "no"))))) .nil))
abbrev a_is_answer : An := ⟨[], [], [], false⟩
abbrev f_is_answer (i_is_tuple_of : Nat) : FnV := ⟨⟨1, 1, (c_is_answer i_is_tuple_of)⟩, a_is_answer⟩
/-- check_nicks(subject): 0 subject 1 row 2 names 3 rows 4 name -/
def c_check_nicks (i_is_whole_in i_is_names i_is_tuple_of x_BadNick : Nat) : CSs :=
  (.cons (.if_ (.not_ (.call i_is_tuple_of (.cons (.var 0) (.cons (.lit (.int 2)) (.cons (.lit (.int 2)) .nil))))) (.cons (.raise x_BadNick) .nil) .nil) (.cons (.asg (.tup (.cons (.name 2) (.cons (.name 3) .nil))) (.var 0)) (.cons (.if_ (.not_ (.call i_is_names (.cons (.var 2) (.cons (.lit (.int 0)) (.cons (.glob "MOST_NAMES" (.int 12)) .nil))))) (.cons (.raise x_BadNick) .nil) .nil) (.cons (.if_ (.not_ (.call i_is_tuple_of (.cons (.var 3) (.cons (.lit (.int 0)) (.cons (.glob "MOST_ROWS" (.int 24)) .nil))))) (.cons (.raise x_BadNick) .nil) .nil) (.cons (.for_ (.name 1) (.seq (.var 3)) (.cons (.if_ (.or_ (.not_ (.call i_is_tuple_of (.cons (.var 1) (.cons (.lit (.int 2)) (.cons (.lit (.int 2)) .nil))))) (.not_ (.call i_is_names (.cons (.ix (.var 1) (.lit (.int 0))) (.cons (.lit (.int 0)) (.cons (.glob "MOST_MEMBERS" (.int 6)) .nil)))))) (.cons (.raise x_BadNick) .nil) .nil) (.cons (.for_ (.name 4) (.seq (.ix (.var 1) (.lit (.int 0)))) (.cons (.if_ (.cmp .notin (.var 4) (.var 2)) (.cons (.raise x_BadNick) .nil) .nil) .nil)) (.cons (.if_ (.not_ (.call i_is_whole_in (.cons (.ix (.var 1) (.lit (.int 1))) (.cons (.lit (.int 0)) (.cons (.lit (.int 1)) .nil))))) (.cons (.raise x_BadNick) .nil) .nil) .nil)))) .nil)))))
abbrev a_check_nicks : An := ⟨[], [], [], false⟩
abbrev f_check_nicks (i_is_whole_in i_is_names i_is_tuple_of x_BadNick : Nat) : FnV := ⟨⟨5, 1, (c_check_nicks i_is_whole_in i_is_names i_is_tuple_of x_BadNick)⟩, a_check_nicks⟩
/-- check_pairs(pairs): 0 pairs 1 pair -/
def c_check_pairs (i_is_whole_in i_is_tuple_of x_BadStock : Nat) : CSs :=
  (.cons (.if_ (.not_ (.call i_is_tuple_of (.cons (.var 0) (.cons (.lit (.int 0)) (.cons (.glob "MOST_PAIRS" (.int 16)) .nil))))) (.cons (.raise x_BadStock) .nil) .nil) (.cons (.for_ (.name 1) (.seq (.var 0)) (.cons (.if_ (.or_ (.not_ (.call i_is_tuple_of (.cons (.var 1) (.cons (.lit (.int 2)) (.cons (.lit (.int 2)) .nil))))) (.not_ (.call i_is_whole_in (.cons (.ix (.var 1) (.lit (.int 0))) (.cons (.lit (.int 0)) (.cons (.glob "LAST_DAY" (.int 5000)) .nil)))))) (.cons (.raise x_BadStock) .nil) .nil) (.cons (.if_ (.not_ (.call i_is_whole_in (.cons (.ix (.var 1) (.lit (.int 1))) (.cons (.lit (.int 1)) (.cons (.glob "MOST_NUMBER" (.int 100000)) .nil))))) (.cons (.raise x_BadStock) .nil) .nil) .nil))) .nil))
abbrev a_check_pairs : An := ⟨[], [], [], false⟩
abbrev f_check_pairs (i_is_whole_in i_is_tuple_of x_BadStock : Nat) : FnV := ⟨⟨2, 1, (c_check_pairs i_is_whole_in i_is_tuple_of x_BadStock)⟩, a_check_pairs⟩
/-- check_stock(subject): 0 subject -/
def c_check_stock (i_is_whole_in i_check_pairs i_is_tuple_of x_BadStock : Nat) : CSs :=
  (.cons (.if_ (.not_ (.call i_is_tuple_of (.cons (.var 0) (.cons (.lit (.int 3)) (.cons (.lit (.int 3)) .nil))))) (.cons (.raise x_BadStock) .nil) .nil) (.cons (.expr (.call i_check_pairs (.cons (.ix (.var 0) (.lit (.int 0))) .nil))) (.cons (.expr (.call i_check_pairs (.cons (.ix (.var 0) (.lit (.int 1))) .nil))) (.cons (.if_ (.not_ (.call i_is_whole_in (.cons (.ix (.var 0) (.lit (.int 2))) (.cons (.lit (.int 0)) (.cons (.glob "LAST_DAY" (.int 5000)) .nil))))) (.cons (.raise x_BadStock) .nil) .nil) .nil))))
abbrev a_check_stock : An := ⟨[], [], [], false⟩
abbrev f_check_stock (i_is_whole_in i_check_pairs i_is_tuple_of x_BadStock : Nat) : FnV := ⟨⟨1, 1, (c_check_stock i_is_whole_in i_check_pairs i_is_tuple_of x_BadStock)⟩, a_check_stock⟩
/-- cast_between(casts, first, last): 0 casts 1 first 2 last 3 day 4 number -/
def c_cast_between : CSs :=
  (.cons (.ret (.b1 .sum (.lc (.tup (.cons (.name 3) (.cons (.name 4) .nil))) (.seq (.var 0)) (.some (.chain .le .le (.var 1) (.var 3) (.var 2))) (.var 4)))) .nil)
abbrev a_cast_between : An := ⟨[], [], [], false⟩
abbrev f_cast_between : FnV := ⟨⟨5, 3, c_cast_between⟩, a_cast_between⟩
/-- due_between(sales, keep, first, last): 0 sales 1 keep 2 first 3 last 4 day 5 number -/
def c_due_between : CSs :=
  (.cons (.ret (.b1 .sum (.lc (.tup (.cons (.name 4) (.cons (.name 5) .nil))) (.seq (.var 0)) (.some (.and_ (.cmp .le (.var 2) (.bin .sub (.var 4) (.var 1))) (.cmp .le (.var 4) (.var 3)))) (.var 5)))) .nil)
abbrev a_due_between : An := ⟨[], [], [], false⟩
abbrev f_due_between : FnV := ⟨⟨6, 4, c_due_between⟩, a_due_between⟩
/-- is_short_span(subject, first, last): 0 subject 1 first 2 last 3 casts 4 sales 5 keep -/
def c_is_short_span (i_due_between i_cast_between : Nat) : CSs :=
  (.cons (.asg (.tup (.cons (.name 3) (.cons (.name 4) (.cons (.name 5) .nil)))) (.var 0)) (.cons (.ret (.cmp .gt (.call i_due_between (.cons (.var 4) (.cons (.var 5) (.cons (.var 1) (.cons (.var 2) .nil))))) (.call i_cast_between (.cons (.var 3) (.cons (.var 1) (.cons (.var 2) .nil)))))) .nil))
abbrev a_is_short_span : An := ⟨[], [], [], false⟩
abbrev f_is_short_span (i_due_between i_cast_between : Nat) : FnV := ⟨⟨6, 3, (c_is_short_span i_due_between i_cast_between)⟩, a_is_short_span⟩
/-- is_take(subject, item): 0 subject 1 item 2 day 3 casts 4 sales 5 keep -/
def c_is_take (i_is_whole i_is_whole_in i_is_tuple_of : Nat) : CSs :=
  (.cons (.asg (.tup (.cons (.name 3) (.cons (.name 4) (.cons (.name 5) .nil)))) (.var 0)) (.cons (.if_ (.not_ (.call i_is_tuple_of (.cons (.var 1) (.cons (.lit (.int 3)) (.cons (.lit (.int 3)) .nil))))) (.cons (.ret (.lit (.bl false))) .nil) .nil) (.cons (.if_ (.or_ (.not_ (.call i_is_whole_in (.cons (.ix (.var 1) (.lit (.int 0))) (.cons (.lit (.int 0)) (.cons (.bin .sub (.b1 .len (.var 3)) (.lit (.int 1))) .nil))))) (.not_ (.call i_is_whole_in (.cons (.ix (.var 1) (.lit (.int 1))) (.cons (.lit (.int 0)) (.cons (.bin .sub (.b1 .len (.var 4)) (.lit (.int 1))) .nil)))))) (.cons (.ret (.lit (.bl false))) .nil) .nil) (.cons (.if_ (.or_ (.not_ (.call i_is_whole (.cons (.ix (.var 1) (.lit (.int 2))) .nil))) (.cmp .lt (.ix (.var 1) (.lit (.int 2))) (.lit (.int 1)))) (.cons (.ret (.lit (.bl false))) .nil) .nil) (.cons (.asg (.name 2) (.ix (.ix (.var 4) (.ix (.var 1) (.lit (.int 1)))) (.lit (.int 0)))) (.cons (.ret (.chain .le .le (.bin .sub (.var 2) (.var 5)) (.ix (.ix (.var 3) (.ix (.var 1) (.lit (.int 0)))) (.lit (.int 0))) (.var 2))) .nil))))))
abbrev a_is_take : An := ⟨[], [], [], false⟩
abbrev f_is_take (i_is_whole i_is_whole_in i_is_tuple_of : Nat) : FnV := ⟨⟨6, 2, (c_is_take i_is_whole i_is_whole_in i_is_tuple_of)⟩, a_is_take⟩
/-- sums_by(count, takes, place): 0 count 1 takes 2 place 3 sums 4 take 5 index -/
def c_sums_by : CSs :=
  (.cons (.asg (.name 3) (.lc (.name 5) (.rng1 (.var 0)) .none (.lit (.int 0)))) (.cons (.for_ (.name 4) (.seq (.var 1)) (.cons (.asg (.sub (.var 3) (.ix (.var 4) (.var 2))) (.bin .add (.ix (.var 3) (.ix (.var 4) (.var 2))) (.ix (.var 4) (.lit (.int 2))))) .nil)) (.cons (.ret (.var 3)) .nil)))
abbrev a_sums_by : An := ⟨[], [], [3], false⟩
abbrev f_sums_by : FnV := ⟨⟨6, 3, c_sums_by⟩, a_sums_by⟩
/-- fills(subject, paper): 0 subject 1 paper 2 item 3 at 4 used 5 got 6 casts 7 sales 8 keep 9 day 10 number -/
def c_fills (i_sums_by i_is_take : Nat) : CSs :=
  (.cons (.asg (.tup (.cons (.name 6) (.cons (.name 7) (.cons (.name 8) .nil)))) (.var 0)) (.cons (.if_ (.not_ (.isi (.var 1) .tuple)) (.cons (.ret (.lit (.bl false))) .nil) .nil) (.cons (.for_ (.name 2) (.seq (.var 1)) (.cons (.if_ (.not_ (.call i_is_take (.cons (.var 0) (.cons (.var 2) .nil)))) (.cons (.ret (.lit (.bl false))) .nil) .nil) .nil)) (.cons (.for_ (.name 3) (.rng2 (.lit (.int 1)) (.b1 .len (.var 1))) (.cons (.if_ (.cmp .ge (.sl (.ix (.var 1) (.bin .sub (.var 3) (.lit (.int 1)))) .none (.some (.lit (.int 2)))) (.sl (.ix (.var 1) (.var 3)) .none (.some (.lit (.int 2))))) (.cons (.ret (.lit (.bl false))) .nil) .nil) .nil)) (.cons (.asg (.name 4) (.call i_sums_by (.cons (.b1 .len (.var 6)) (.cons (.var 1) (.cons (.lit (.int 0)) .nil))))) (.cons (.for_ (.tup (.cons (.name 3) (.cons (.tup (.cons (.name 9) (.cons (.name 10) .nil))) .nil))) (.enum (.var 6)) (.cons (.if_ (.cmp .gt (.ix (.var 4) (.var 3)) (.var 10)) (.cons (.ret (.lit (.bl false))) .nil) .nil) .nil)) (.cons (.asg (.name 5) (.call i_sums_by (.cons (.b1 .len (.var 7)) (.cons (.var 1) (.cons (.lit (.int 1)) .nil))))) (.cons (.ret (.cmp .eq (.var 5) (.lc (.tup (.cons (.name 9) (.cons (.name 10) .nil))) (.seq (.var 7)) .none (.var 10)))) .nil))))))))
abbrev a_fills : An := ⟨[], [], [], false⟩
abbrev f_fills (i_sums_by i_is_take : Nat) : FnV := ⟨⟨11, 2, (c_fills i_sums_by i_is_take)⟩, a_fills⟩
/-- is_shortage(subject, paper): 0 subject 1 paper -/
def c_is_shortage (i_is_short_span i_is_whole i_is_tuple_of : Nat) : CSs :=
  (.cons (.if_ (.or_ (.not_ (.call i_is_tuple_of (.cons (.var 1) (.cons (.lit (.int 2)) (.cons (.lit (.int 2)) .nil))))) (.or_ (.not_ (.call i_is_whole (.cons (.ix (.var 1) (.lit (.int 0))) .nil))) (.not_ (.call i_is_whole (.cons (.ix (.var 1) (.lit (.int 1))) .nil))))) (.cons (.ret (.lit (.bl false))) .nil) .nil) (.cons (.ret (.call i_is_short_span (.cons (.var 0) (.cons (.ix (.var 1) (.lit (.int 0))) (.cons (.ix (.var 1) (.lit (.int 1))) .nil))))) .nil))
abbrev a_is_shortage : An := ⟨[], [], [], false⟩
abbrev f_is_shortage (i_is_short_span i_is_whole i_is_tuple_of : Nat) : FnV := ⟨⟨2, 2, (c_is_shortage i_is_short_span i_is_whole i_is_tuple_of)⟩, a_is_shortage⟩
/-- upholds_stock(subject, answer): 0 subject 1 answer -/
def c_upholds_stock (i_is_shortage i_fills i_is_answer i_check_stock : Nat) : CSs :=
  (.cons (.expr (.call i_check_stock (.cons (.var 0) .nil))) (.cons (.if_ (.not_ (.call i_is_answer (.cons (.var 1) .nil))) (.cons (.ret (.lit (.bl false))) .nil) .nil) (.cons (.if_ (.cmp .eq (.ix (.var 1) (.lit (.int 0))) (.lit (.str "yes"))) (.cons (.ret (.call i_fills (.cons (.var 0) (.cons (.ix (.var 1) (.lit (.int 1))) .nil)))) .nil) .nil) (.cons (.ret (.call i_is_shortage (.cons (.var 0) (.cons (.ix (.var 1) (.lit (.int 1))) .nil)))) .nil))))
abbrev a_upholds_stock : An := ⟨[], [], [], false⟩
abbrev f_upholds_stock (i_is_shortage i_fills i_is_answer i_check_stock : Nat) : FnV := ⟨⟨2, 2, (c_upholds_stock i_is_shortage i_fills i_is_answer i_check_stock)⟩, a_upholds_stock⟩
/-- _law_same(actual, due): 0 actual 1 due 2 one 3 other -/
def c__law_same_2 (i__law_same : Nat) : CSs :=
  (.cons (.if_ (.isi (.var 1) .tuple) (.cons (.if_ (.or_ (.not_ (.isi (.var 0) .tuple)) (.cmp .ne (.b1 .len (.var 0)) (.b1 .len (.var 1)))) (.cons (.ret (.lit (.bl false))) .nil) .nil) (.cons (.ret (.b1 .all (.lc (.tup (.cons (.name 2) (.cons (.name 3) .nil))) (.zip (.var 0) (.var 1)) .none (.call i__law_same (.cons (.var 2) (.cons (.var 3) .nil)))))) .nil)) .nil) (.cons (.if_ (.isN (.var 1)) (.cons (.ret (.isN (.var 0))) .nil) .nil) (.cons (.if_ (.isi (.var 1) .bool) (.cons (.ret (.and_ (.isi (.var 0) .bool) (.cmp .eq (.var 0) (.var 1)))) .nil) .nil) (.cons (.if_ (.isi (.var 1) .int) (.cons (.ret (.and_ (.isi (.var 0) .int) (.and_ (.not_ (.isi (.var 0) .bool)) (.cmp .eq (.var 0) (.var 1))))) .nil) .nil) (.cons (.ret (.and_ (.isi (.var 0) .str) (.cmp .eq (.var 0) (.var 1)))) .nil)))))
abbrev a__law_same_2 : An := ⟨[], [], [], false⟩
abbrev f__law_same_2 (i__law_same : Nat) : FnV := ⟨⟨4, 2, (c__law_same_2 i__law_same)⟩, a__law_same_2⟩
/-- _law_numbers(script, count): 0 script 1 count 2 rest 3 numbers 4 state 5 k 6 cell 7 at -/
def c__law_numbers_b0 : CSs :=
  (.cons (.asg (.name 6) (.lit (.int 0))) (.cons (.asg (.name 7) (.lit (.int 0))) (.cons (.if_ (.cmp .gt (.b1 .len (.var 2)) (.lit (.int 0))) (.cons (.asg (.name 7) (.bin .mod (.b1 .int (.var 5)) (.b1 .len (.var 2)))) (.cons (.asg (.name 6) (.ix (.var 2) (.var 7))) .nil)) .nil) (.cons (.if_ (.cmp .ge (.var 6) (.lit (.int 1000000000000000000))) (.cons (.expr (.app (.var 3) (.bin .mod (.b1 .int (.var 6)) (.lit (.int 1000000))))) (.cons (.asg (.sub (.var 2) (.var 7)) (.bin .fdiv (.var 6) (.lit (.int 1000000)))) .nil)) (.cons (.asg (.name 4) (.bin .mod (.b1 .int (.bin .add (.bin .add (.bin .add (.bin .mul (.var 4) (.var 4)) (.bin .mul (.var 6) (.lit (.int 69621)))) (.bin .mul (.var 5) (.lit (.int 48271)))) (.lit (.int 11)))) (.lit (.int 2147483647)))) (.cons (.expr (.app (.var 3) (.bin .mod (.b1 .int (.bin .fdiv (.var 4) (.lit (.int 97)))) (.lit (.int 1000000))))) .nil))) .nil))))
def c__law_numbers : CSs :=
  (.cons (.asg (.name 2) (.lc (.name 6) (.seq (.sl (.var 0) .none (.some (.lit (.int 63))))) .none (.b1 .abs (.var 6)))) (.cons (.asg (.name 3) (.lst .nil)) (.cons (.asg (.name 4) (.lit (.int 88172645))) (.cons (.for_ (.name 5) (.rng1 (.var 1)) c__law_numbers_b0) (.cons (.ret (.var 3)) .nil)))))
abbrev a__law_numbers : An := ⟨[], [], [2, 3], false⟩
abbrev f__law_numbers : FnV := ⟨⟨8, 2, c__law_numbers⟩, a__law_numbers⟩
/-- _law_pairs(numbers, many, base, wide, size): 0 numbers 1 many 2 base 3 wide 4 size 5 pairs 6 k 7 day 8 number -/
def c__law_pairs_2_b0 : CSs :=
  (.cons (.asg (.name 7) (.b2 .min (.lit (.int 5000)) (.bin .add (.var 2) (.bin .mod (.b1 .int (.ix (.var 0) (.var 6))) (.var 3))))) (.cons (.asg (.name 8) (.bin .add (.lit (.int 1)) (.bin .mod (.b1 .int (.bin .fdiv (.ix (.var 0) (.var 6)) (.lit (.int 64)))) (.var 4)))) (.cons (.if_ (.cmp .eq (.bin .mod (.b1 .int (.bin .fdiv (.ix (.var 0) (.var 6)) (.lit (.int 16384)))) (.lit (.int 24))) (.lit (.int 0))) (.cons (.asg (.name 8) (.bin .sub (.lit (.int 100000)) (.bin .mod (.b1 .int (.ix (.var 0) (.var 6))) (.lit (.int 2))))) .nil) .nil) (.cons (.expr (.app (.var 5) (.tup (.cons (.var 7) (.cons (.var 8) .nil))))) .nil))))
def c__law_pairs_2 : CSs :=
  (.cons (.asg (.name 5) (.lst .nil)) (.cons (.for_ (.name 6) (.rng1 (.var 1)) c__law_pairs_2_b0) (.cons (.ret (.b1 .tuple (.var 5))) .nil)))
abbrev a__law_pairs_2 : An := ⟨[], [], [5], false⟩
abbrev f__law_pairs_2 : FnV := ⟨⟨9, 5, c__law_pairs_2⟩, a__law_pairs_2⟩
/-- _law_subject(numbers): 0 numbers 1 wide 2 base 3 keep 4 many 5 sold 6 size 7 casts 8 sales -/
def c__law_subject (i__law_pairs : Nat) : CSs :=
  (.cons (.asg (.name 1) (.ix (.tup (.cons (.lit (.int 3)) (.cons (.lit (.int 8)) (.cons (.lit (.int 30)) .nil)))) (.bin .mod (.b1 .int (.ix (.var 0) (.lit (.int 0)))) (.lit (.int 3))))) (.cons (.asg (.name 2) (.bin .mod (.b1 .int (.bin .fdiv (.ix (.var 0) (.lit (.int 1))) (.lit (.int 4)))) (.lit (.int 5001)))) (.cons (.if_ (.cmp .eq (.bin .mod (.b1 .int (.ix (.var 0) (.lit (.int 1)))) (.lit (.int 4))) (.lit (.int 0))) (.cons (.asg (.name 2) (.ix (.tup (.cons (.lit (.int 0)) (.cons (.lit (.int 4990)) .nil))) (.bin .mod (.b1 .int (.bin .fdiv (.ix (.var 0) (.lit (.int 1))) (.lit (.int 4)))) (.lit (.int 2))))) .nil) .nil) (.cons (.asg (.name 3) (.bin .mod (.b1 .int (.ix (.var 0) (.lit (.int 2)))) (.bin .add (.var 1) (.lit (.int 2))))) (.cons (.if_ (.cmp .eq (.bin .mod (.b1 .int (.bin .fdiv (.ix (.var 0) (.lit (.int 2))) (.lit (.int 64)))) (.lit (.int 8))) (.lit (.int 0))) (.cons (.asg (.name 3) (.ix (.tup (.cons (.lit (.int 0)) (.cons (.lit (.int 5000)) .nil))) (.bin .mod (.b1 .int (.bin .fdiv (.ix (.var 0) (.lit (.int 2))) (.lit (.int 512)))) (.lit (.int 2))))) .nil) .nil) (.cons (.asg (.name 4) (.bin .mod (.b1 .int (.ix (.var 0) (.lit (.int 3)))) (.lit (.int 17)))) (.cons (.asg (.name 5) (.bin .mod (.b1 .int (.ix (.var 0) (.lit (.int 4)))) (.lit (.int 9)))) (.cons (.if_ (.cmp .eq (.bin .mod (.b1 .int (.bin .fdiv (.ix (.var 0) (.lit (.int 4))) (.lit (.int 16)))) (.lit (.int 6))) (.lit (.int 0))) (.cons (.asg (.name 5) (.lit (.int 16))) .nil) .nil) (.cons (.asg (.name 6) (.ix (.tup (.cons (.lit (.int 4)) (.cons (.lit (.int 20)) (.cons (.lit (.int 60)) .nil)))) (.bin .mod (.b1 .int (.ix (.var 0) (.lit (.int 5)))) (.lit (.int 3))))) (.cons (.asg (.name 7) (.call i__law_pairs (.cons (.sl (.var 0) (.some (.lit (.int 10))) (.some (.lit (.int 26)))) (.cons (.var 4) (.cons (.var 2) (.cons (.var 1) (.cons (.var 6) .nil))))))) (.cons (.asg (.name 8) (.call i__law_pairs (.cons (.sl (.var 0) (.some (.lit (.int 26))) (.some (.lit (.int 42)))) (.cons (.var 5) (.cons (.var 2) (.cons (.var 1) (.cons (.bin .add (.lit (.int 1)) (.bin .fdiv (.var 6) (.bin .add (.lit (.int 1)) (.bin .mod (.b1 .int (.bin .fdiv (.ix (.var 0) (.lit (.int 5))) (.lit (.int 4)))) (.lit (.int 4)))))) .nil))))))) (.cons (.ret (.tup (.cons (.var 7) (.cons (.var 8) (.cons (.var 3) .nil))))) .nil))))))))))))
abbrev a__law_subject : An := ⟨[], [], [], false⟩
abbrev f__law_subject (i__law_pairs : Nat) : FnV := ⟨⟨9, 1, (c__law_subject i__law_pairs)⟩, a__law_subject⟩
/-- _law_short(subject, first, last): 0 subject 1 first 2 last 3 wanted 4 casts 5 sales 6 keep 7 day 8 number -/
def c__law_short : CSs :=
  (.cons (.asg (.tup (.cons (.name 4) (.cons (.name 5) (.cons (.name 6) .nil)))) (.var 0)) (.cons (.asg (.name 3) (.b1 .sum (.lc (.tup (.cons (.name 7) (.cons (.name 8) .nil))) (.seq (.var 5)) (.some (.and_ (.cmp .le (.var 7) (.var 2)) (.cmp .ge (.bin .sub (.var 7) (.var 6)) (.var 1)))) (.var 8)))) (.cons (.ret (.cmp .gt (.var 3) (.b1 .sum (.lc (.tup (.cons (.name 7) (.cons (.name 8) .nil))) (.seq (.var 4)) (.some (.chain .le .le (.var 1) (.var 7) (.var 2))) (.var 8))))) .nil)))
abbrev a__law_short : An := ⟨[], [], [], false⟩
abbrev f__law_short : FnV := ⟨⟨9, 3, c__law_short⟩, a__law_short⟩
/-- _law_wrong_shapes(word, paper): 0 word 1 paper -/
def c__law_wrong_shapes : CSs :=
  (.cons (.ret (.lst (.cons (.lst (.cons (.var 0) (.cons (.var 1) .nil))) (.cons (.tup (.cons (.var 0) .nil)) (.cons (.tup (.cons (.var 0) (.cons (.var 1) (.cons (.var 1) .nil)))) (.cons (.tup (.cons (.var 0) (.cons (.var 1) (.cons (.lit .non) .nil)))) (.cons (.tup (.cons (.var 1) (.cons (.var 0) .nil))) (.cons (.tup (.cons (.bin .add (.var 0) (.lit (.str " "))) (.cons (.var 1) .nil))) (.cons (.tup (.cons (.lit (.str "")) (.cons (.var 1) .nil))) (.cons (.tup (.cons (.lit .non) (.cons (.var 1) .nil))) (.cons (.tup (.cons (.lit (.bl true)) (.cons (.var 1) .nil))) (.cons (.tup (.cons (.var 0) (.cons (.lit .non) .nil))) (.cons (.tup (.cons (.var 0) (.cons (.lit (.bl true)) .nil))) (.cons (.tup (.cons (.var 0) (.cons (.var 0) .nil))) (.cons (.lit .non) (.cons (.lit (.int 0)) (.cons (.var 0) (.cons (.var 1) (.cons (.tup .nil) .nil))))))))))))))))))) .nil)
abbrev a__law_wrong_shapes : An := ⟨[], [], [], false⟩
abbrev f__law_wrong_shapes : FnV := ⟨⟨2, 2, c__law_wrong_shapes⟩, a__law_wrong_shapes⟩
/-- _law_filled(subject, newest): 0 subject 1 newest 2 left 3 by_day 4 takes 5 casts 6 sales 7 keep 8 day 9 sale 10 missing 11 cast_day 12 cast 13 taken 14 number 15 k -/
def c__law_filled_b1 : CSs :=
  (.cons (.asg (.name 13) (.b2 .min (.ix (.var 2) (.var 12)) (.var 10))) (.cons (.if_ (.and_ (.chain .le .le (.bin .sub (.var 8) (.var 7)) (.var 11) (.var 8)) (.cmp .gt (.var 13) (.lit (.int 0)))) (.cons (.asg (.sub (.var 2) (.var 12)) (.bin .sub (.ix (.var 2) (.var 12)) (.var 13))) (.cons (.asg (.name 10) (.bin .sub (.var 10) (.var 13))) (.cons (.expr (.app (.var 4) (.tup (.cons (.var 12) (.cons (.var 9) (.cons (.var 13) .nil)))))) .nil))) .nil) .nil))
def c__law_filled_b0 : CSs :=
  (.cons (.asg (.name 10) (.ix (.ix (.var 6) (.var 9)) (.lit (.int 1)))) (.cons (.for_ (.tup (.cons (.name 11) (.cons (.name 12) .nil))) (.seq (.var 3)) c__law_filled_b1) .nil))
def c__law_filled : CSs :=
  (.cons (.asg (.tup (.cons (.name 5) (.cons (.name 6) (.cons (.name 7) .nil)))) (.var 0)) (.cons (.asg (.name 2) (.lc (.tup (.cons (.name 8) (.cons (.name 14) .nil))) (.seq (.var 5)) .none (.var 14))) (.cons (.asg (.name 3) (.b1 .sorted (.lc (.name 15) (.rng1 (.b1 .len (.var 5))) .none (.tup (.cons (.ix (.ix (.var 5) (.var 15)) (.lit (.int 0))) (.cons (.var 15) .nil)))))) (.cons (.if_ (.var 1) (.cons (.asg (.name 3) (.lc (.name 15) (.rng1 (.b1 .len (.var 3))) .none (.ix (.var 3) (.bin .sub (.bin .sub (.b1 .len (.var 3)) (.lit (.int 1))) (.var 15))))) .nil) .nil) (.cons (.asg (.name 4) (.lst .nil)) (.cons (.for_ (.tup (.cons (.name 8) (.cons (.name 9) .nil))) (.seq (.b1 .sorted (.lc (.name 15) (.rng1 (.b1 .len (.var 6))) .none (.tup (.cons (.ix (.ix (.var 6) (.var 15)) (.lit (.int 0))) (.cons (.var 15) .nil)))))) c__law_filled_b0) (.cons (.ret (.b1 .tuple (.b1 .sorted (.var 4)))) .nil)))))))
abbrev a__law_filled : An := ⟨[], [], [2, 4], false⟩
abbrev f__law_filled : FnV := ⟨⟨16, 2, c__law_filled⟩, a__law_filled⟩
/-- _law_is_filling(subject, paper): 0 subject 1 paper 2 used 3 got 4 at 5 k 6 casts 7 sales 8 keep 9 pair 10 cast 11 sale 12 number 13 day -/
def c__law_is_filling_b1 : CSs :=
  (.cons (.asg (.tup (.cons (.name 10) (.cons (.name 11) (.cons (.name 12) .nil)))) (.ix (.var 1) (.var 4))) (.cons (.if_ (.or_ (.cmp .lt (.var 10) (.lit (.int 0))) (.or_ (.cmp .ge (.var 10) (.b1 .len (.var 6))) (.or_ (.cmp .lt (.var 11) (.lit (.int 0))) (.or_ (.cmp .ge (.var 11) (.b1 .len (.var 7))) (.cmp .lt (.var 12) (.lit (.int 1))))))) (.cons (.ret (.lit (.bl false))) .nil) .nil) (.cons (.if_ (.or_ (.cmp .gt (.ix (.ix (.var 6) (.var 10)) (.lit (.int 0))) (.ix (.ix (.var 7) (.var 11)) (.lit (.int 0)))) (.cmp .lt (.ix (.ix (.var 6) (.var 10)) (.lit (.int 0))) (.bin .sub (.ix (.ix (.var 7) (.var 11)) (.lit (.int 0))) (.var 8)))) (.cons (.ret (.lit (.bl false))) .nil) .nil) (.cons (.if_ (.and_ (.cmp .gt (.var 4) (.lit (.int 0))) (.cmp .ge (.sl (.ix (.var 1) (.bin .sub (.var 4) (.lit (.int 1)))) .none (.some (.lit (.int 2)))) (.sl (.ix (.var 1) (.var 4)) .none (.some (.lit (.int 2)))))) (.cons (.ret (.lit (.bl false))) .nil) .nil) (.cons (.asg (.sub (.var 2) (.var 10)) (.bin .add (.ix (.var 2) (.var 10)) (.var 12))) (.cons (.asg (.sub (.var 3) (.var 11)) (.bin .add (.ix (.var 3) (.var 11)) (.var 12))) .nil))))))
def c__law_is_filling_b0 : CSs :=
  (.cons (.if_ (.cmp .gt (.ix (.var 2) (.var 5)) (.ix (.ix (.var 6) (.var 5)) (.lit (.int 1)))) (.cons (.ret (.lit (.bl false))) .nil) .nil) .nil)
def c__law_is_filling : CSs :=
  (.cons (.asg (.tup (.cons (.name 6) (.cons (.name 7) (.cons (.name 8) .nil)))) (.var 0)) (.cons (.asg (.name 2) (.lc (.name 9) (.seq (.var 6)) .none (.lit (.int 0)))) (.cons (.asg (.name 3) (.lc (.name 9) (.seq (.var 7)) .none (.lit (.int 0)))) (.cons (.for_ (.name 4) (.rng1 (.b1 .len (.var 1))) c__law_is_filling_b1) (.cons (.for_ (.name 5) (.rng1 (.b1 .len (.var 6))) c__law_is_filling_b0) (.cons (.ret (.cmp .eq (.var 3) (.lc (.tup (.cons (.name 13) (.cons (.name 12) .nil))) (.seq (.var 7)) .none (.var 12)))) .nil))))))
abbrev a__law_is_filling : An := ⟨[], [], [2, 3], false⟩
abbrev f__law_is_filling : FnV := ⟨⟨14, 2, c__law_is_filling⟩, a__law_is_filling⟩
/-- _law_fillings_to_try(subject, base): 0 subject 1 base 2 papers 3 at 4 casts 5 sales 6 keep 7 other 8 k 9 cast 10 sale 11 number -/
def c__law_fillings_to_try_b3 : CSs :=
  (.cons (.expr (.app (.var 2) (.bin .add (.bin .add (.sl (.var 1) .none (.some (.var 3))) (.tup (.cons (.tup (.cons (.var 9) (.cons (.var 10) (.cons (.var 7) .nil)))) .nil))) (.sl (.var 1) (.some (.bin .add (.var 3) (.lit (.int 1)))) .none)))) .nil)
def c__law_fillings_to_try_b2 : CSs :=
  (.cons (.expr (.app (.var 2) (.b1 .tuple (.b1 .sorted (.bin .add (.bin .add (.sl (.var 1) .none (.some (.var 3))) (.tup (.cons (.tup (.cons (.var 8) (.cons (.var 10) (.cons (.var 11) .nil)))) .nil))) (.sl (.var 1) (.some (.bin .add (.var 3) (.lit (.int 1)))) .none)))))) .nil)
def c__law_fillings_to_try_b1 : CSs :=
  (.cons (.expr (.app (.var 2) (.b1 .tuple (.b1 .sorted (.bin .add (.bin .add (.sl (.var 1) .none (.some (.var 3))) (.tup (.cons (.tup (.cons (.var 9) (.cons (.var 8) (.cons (.var 11) .nil)))) .nil))) (.sl (.var 1) (.some (.bin .add (.var 3) (.lit (.int 1)))) .none)))))) .nil)
def c__law_fillings_to_try_b0 : CSs :=
  (.cons (.asg (.tup (.cons (.name 9) (.cons (.name 10) (.cons (.name 11) .nil)))) (.ix (.var 1) (.var 3))) (.cons (.expr (.app (.var 2) (.bin .add (.sl (.var 1) .none (.some (.var 3))) (.sl (.var 1) (.some (.bin .add (.var 3) (.lit (.int 1)))) .none)))) (.cons (.if_ (.cmp .gt (.var 11) (.lit (.int 1))) (.cons (.expr (.app (.var 2) (.bin .add (.bin .add (.sl (.var 1) .none (.some (.var 3))) (.tup (.cons (.tup (.cons (.var 9) (.cons (.var 10) (.cons (.lit (.int 1)) .nil)))) (.cons (.tup (.cons (.var 9) (.cons (.var 10) (.cons (.bin .sub (.var 11) (.lit (.int 1))) .nil)))) .nil)))) (.sl (.var 1) (.some (.bin .add (.var 3) (.lit (.int 1)))) .none)))) .nil) .nil) (.cons (.for_ (.name 7) (.seq (.lst (.cons (.bin .add (.var 11) (.lit (.int 1))) (.cons (.bin .sub (.var 11) (.lit (.int 1))) (.cons (.lit (.int 0)) (.cons (.neg (.var 11)) (.cons (.bin .add (.var 11) (.lit (.int 100000))) .nil))))))) c__law_fillings_to_try_b3) (.cons (.expr (.app (.var 2) (.bin .add (.bin .add (.sl (.var 1) .none (.some (.var 3))) (.tup (.cons (.tup (.cons (.bin .sub (.var 9) (.b1 .len (.var 4))) (.cons (.var 10) (.cons (.var 11) .nil)))) .nil))) (.sl (.var 1) (.some (.bin .add (.var 3) (.lit (.int 1)))) .none)))) (.cons (.expr (.app (.var 2) (.bin .add (.bin .add (.sl (.var 1) .none (.some (.var 3))) (.tup (.cons (.tup (.cons (.var 9) (.cons (.bin .sub (.var 10) (.b1 .len (.var 5))) (.cons (.var 11) .nil)))) .nil))) (.sl (.var 1) (.some (.bin .add (.var 3) (.lit (.int 1)))) .none)))) (.cons (.for_ (.name 8) (.rng1 (.b1 .len (.var 4))) c__law_fillings_to_try_b2) (.cons (.for_ (.name 8) (.rng1 (.b1 .len (.var 5))) c__law_fillings_to_try_b1) .nil))))))))
def c__law_fillings_to_try : CSs :=
  (.cons (.asg (.tup (.cons (.name 4) (.cons (.name 5) (.cons (.name 6) .nil)))) (.var 0)) (.cons (.asg (.name 2) (.lst (.cons (.var 1) (.cons (.tup .nil) (.cons (.bin .add (.sl (.var 1) (.some (.lit (.int 1))) .none) (.sl (.var 1) .none (.some (.lit (.int 1))))) (.cons (.bin .add (.var 1) (.sl (.var 1) (.some (.neg (.lit (.int 1)))) .none)) (.cons (.tup (.cons (.tup (.cons (.lit (.int 0)) (.cons (.lit (.int 0)) (.cons (.lit (.int 1)) .nil)))) .nil)) (.cons (.bin .add (.tup (.cons (.tup (.cons (.neg (.lit (.int 1))) (.cons (.lit (.int 0)) (.cons (.lit (.int 1)) .nil)))) .nil)) (.var 1)) (.cons (.bin .add (.var 1) (.tup (.cons (.tup (.cons (.b1 .len (.var 4)) (.cons (.lit (.int 0)) (.cons (.lit (.int 1)) .nil)))) .nil))) .nil))))))))) (.cons (.for_ (.name 3) (.rng1 (.b1 .len (.var 1))) c__law_fillings_to_try_b0) (.cons (.ret (.var 2)) .nil))))
abbrev a__law_fillings_to_try : An := ⟨[], [], [2], false⟩
abbrev f__law_fillings_to_try : FnV := ⟨⟨12, 2, c__law_fillings_to_try⟩, a__law_fillings_to_try⟩
/-- _law_spans_to_try(subject, numbers): 0 subject 1 numbers 2 spans 3 number 4 casts 5 sales 6 keep 7 last 8 first 9 other -/
def c__law_spans_to_try_b2 : CSs :=
  (.cons (.expr (.app (.var 2) (.tup (.cons (.bin .sub (.var 8) (.var 6)) (.cons (.var 7) .nil))))) .nil)
def c__law_spans_to_try_b1 : CSs :=
  (.cons (.for_ (.tup (.cons (.name 8) (.cons (.name 9) .nil))) (.seq (.var 5)) c__law_spans_to_try_b2) (.cons (.expr (.app (.var 2) (.tup (.cons (.bin .sub (.bin .sub (.var 7) (.var 6)) (.lit (.int 1))) (.cons (.bin .add (.var 7) (.lit (.int 1))) .nil))))) (.cons (.expr (.app (.var 2) (.tup (.cons (.bin .add (.bin .sub (.var 7) (.var 6)) (.lit (.int 1))) (.cons (.var 7) .nil))))) (.cons (.expr (.app (.var 2) (.tup (.cons (.bin .sub (.var 7) (.var 6)) (.cons (.bin .sub (.var 7) (.lit (.int 1))) .nil))))) (.cons (.expr (.app (.var 2) (.tup (.cons (.var 7) (.cons (.var 7) .nil))))) .nil)))))
def c__law_spans_to_try_b0 : CSs :=
  (.cons (.expr (.app (.var 2) (.tup (.cons (.bin .sub (.bin .mod (.b1 .int (.var 3)) (.lit (.int 5001))) (.var 6)) (.cons (.bin .mod (.b1 .int (.bin .fdiv (.var 3) (.lit (.int 16)))) (.lit (.int 5001))) .nil))))) .nil)
def c__law_spans_to_try : CSs :=
  (.cons (.asg (.tup (.cons (.name 4) (.cons (.name 5) (.cons (.name 6) .nil)))) (.var 0)) (.cons (.asg (.name 2) (.lst (.cons (.tup (.cons (.lit (.int 0)) (.cons (.lit (.int 0)) .nil))) (.cons (.tup (.cons (.neg (.bin .pow (.lit (.int 10)) (.lit (.int 20)))) (.cons (.bin .pow (.lit (.int 10)) (.lit (.int 20))) .nil))) (.cons (.tup (.cons (.bin .pow (.lit (.int 10)) (.lit (.int 20))) (.cons (.neg (.bin .pow (.lit (.int 10)) (.lit (.int 20)))) .nil))) (.cons (.tup (.cons (.neg (.lit (.int 1))) (.cons (.lit (.int 5001)) .nil))) (.cons (.tup (.cons (.neg (.lit (.int 5000))) (.cons (.lit (.int 5000)) .nil))) .nil))))))) (.cons (.for_ (.tup (.cons (.name 7) (.cons (.name 3) .nil))) (.seq (.var 5)) c__law_spans_to_try_b1) (.cons (.for_ (.name 3) (.seq (.var 1)) c__law_spans_to_try_b0) (.cons (.ret (.var 2)) .nil)))))
abbrev a__law_spans_to_try : An := ⟨[], [], [2], false⟩
abbrev f__law_spans_to_try : FnV := ⟨⟨10, 2, c__law_spans_to_try⟩, a__law_spans_to_try⟩
/-- _law_other_kinds(subject, base, span): 0 subject 1 base 2 span 3 wrong 4 at 5 item 6 answer 7 items 8 cast 9 sale 10 number -/
def c__law_other_kinds_b3 (i__law_wrong_shapes i_upholds_stock : Nat) : CSs :=
  (.cons (.expr (.app (.var 3) (.tup (.cons (.lit (.str "yes")) (.cons (.bin .add (.bin .add (.sl (.var 1) .none (.some (.var 4))) (.tup (.cons (.var 5) .nil))) (.sl (.var 1) (.some (.bin .add (.var 4) (.lit (.int 1)))) .none)) .nil))))) .nil)
def c__law_other_kinds_b2 (i__law_wrong_shapes i_upholds_stock : Nat) : CSs :=
  (.cons (.asg (.tup (.cons (.name 8) (.cons (.name 9) (.cons (.name 10) .nil)))) (.ix (.var 1) (.var 4))) (.cons (.asg (.name 7) (.lst (.cons (.lst (.cons (.var 8) (.cons (.var 9) (.cons (.var 10) .nil)))) (.cons (.tup (.cons (.var 8) (.cons (.var 9) .nil))) (.cons (.tup (.cons (.var 8) (.cons (.var 9) (.cons (.var 10) (.cons (.lit (.int 0)) .nil))))) (.cons (.lit .non) (.cons (.tup (.cons (.var 8) (.cons (.var 9) (.cons (.lit .non) .nil)))) (.cons (.tup (.cons (.var 8) (.cons (.var 9) (.cons (.b1 .str (.var 10)) .nil)))) .nil)))))))) (.cons (.if_ (.cmp .eq (.var 10) (.lit (.int 1))) (.cons (.expr (.app (.var 7) (.tup (.cons (.var 8) (.cons (.var 9) (.cons (.lit (.bl true)) .nil)))))) .nil) .nil) (.cons (.if_ (.cmp .lt (.var 8) (.lit (.int 2))) (.cons (.expr (.app (.var 7) (.tup (.cons (.cmp .eq (.var 8) (.lit (.int 1))) (.cons (.var 9) (.cons (.var 10) .nil)))))) .nil) .nil) (.cons (.if_ (.cmp .lt (.var 9) (.lit (.int 2))) (.cons (.expr (.app (.var 7) (.tup (.cons (.var 8) (.cons (.cmp .eq (.var 9) (.lit (.int 1))) (.cons (.var 10) .nil)))))) .nil) .nil) (.cons (.for_ (.name 5) (.seq (.var 7)) (c__law_other_kinds_b3 i__law_wrong_shapes i_upholds_stock)) .nil))))))
def c__law_other_kinds_b1 (i__law_wrong_shapes i_upholds_stock : Nat) : CSs :=
  (.cons (.expr (.app (.var 3) (.tup (.cons (.lit (.str "yes")) (.cons (.bin .add (.var 1) (.tup (.cons (.var 5) .nil))) .nil))))) .nil)
def c__law_other_kinds_b0 (i__law_wrong_shapes i_upholds_stock : Nat) : CSs :=
  (.cons (.if_ (.notB false (.call i_upholds_stock (.cons (.var 0) (.cons (.var 6) .nil)))) (.cons (.ret (.lit (.bl false))) .nil) .nil) .nil)
def c__law_other_kinds (i__law_wrong_shapes i_upholds_stock : Nat) : CSs :=
  (.cons (.asg (.name 3) (.lst (.cons (.tup (.cons (.lit (.str "yes")) (.cons (.b1 .list (.var 1)) .nil))) (.cons (.tup (.cons (.lit (.str "no")) (.cons (.b1 .list (.var 2)) .nil))) (.cons (.tup (.cons (.lit (.str "no")) (.cons (.sl (.var 2) .none (.some (.lit (.int 1)))) .nil))) (.cons (.tup (.cons (.lit (.str "no")) (.cons (.bin .add (.var 2) (.sl (.var 2) .none (.some (.lit (.int 1))))) .nil))) (.cons (.tup (.cons (.lit (.str "no")) (.cons (.tup (.cons (.ix (.var 2) (.lit (.int 0))) (.cons (.lit .non) .nil))) .nil))) .nil))))))) (.cons (.asg (.name 3) (.bin .add (.var 3) (.lst (.cons (.tup (.cons (.lit (.str "no")) (.cons (.tup (.cons (.lit .non) (.cons (.ix (.var 2) (.lit (.int 1))) .nil))) .nil))) (.cons (.tup (.cons (.lit (.str "no")) (.cons (.tup (.cons (.lit (.str "0")) (.cons (.ix (.var 2) (.lit (.int 1))) .nil))) .nil))) (.cons (.tup (.cons (.lit (.str "no")) (.cons (.tup (.cons (.ix (.var 2) (.lit (.int 0))) (.cons (.lit (.bl true)) .nil))) .nil))) (.cons (.tup (.cons (.lit (.str "no")) (.cons (.tup (.cons (.lit (.bl false)) (.cons (.ix (.var 2) (.lit (.int 1))) .nil))) .nil))) .nil))))))) (.cons (.for_ (.name 4) (.rng1 (.b1 .len (.var 1))) (c__law_other_kinds_b2 i__law_wrong_shapes i_upholds_stock)) (.cons (.for_ (.name 5) (.seq (.lst (.cons (.lit .non) (.cons (.lit (.int 0)) (.cons (.lit (.str "a")) (.cons (.tup .nil) .nil)))))) (c__law_other_kinds_b1 i__law_wrong_shapes i_upholds_stock)) (.cons (.for_ (.name 6) (.seq (.bin .add (.bin .add (.var 3) (.call i__law_wrong_shapes (.cons (.lit (.str "yes")) (.cons (.var 1) .nil)))) (.call i__law_wrong_shapes (.cons (.lit (.str "no")) (.cons (.var 2) .nil))))) (c__law_other_kinds_b0 i__law_wrong_shapes i_upholds_stock)) (.cons (.ret (.lit (.bl true))) .nil))))))
abbrev a__law_other_kinds : An := ⟨[], [], [3, 7], false⟩
abbrev f__law_other_kinds (i__law_wrong_shapes i_upholds_stock : Nat) : FnV := ⟨⟨11, 3, (c__law_other_kinds i__law_wrong_shapes i_upholds_stock)⟩, a__law_other_kinds⟩
/-- law(script): 0 script 1 numbers 2 subject 3 bases 4 base 5 paper 6 spans 7 span -/
def c_law_4_b2 (i__law_other_kinds i__law_same i__law_short i_upholds_stock i__law_spans_to_try i__law_fillings_to_try i__law_is_filling i__law_filled i__law_subject i__law_numbers : Nat) : CSs :=
  (.cons (.if_ (.not_ (.call i__law_same (.cons (.call i_upholds_stock (.cons (.var 2) (.cons (.tup (.cons (.lit (.str "yes")) (.cons (.var 4) .nil))) .nil))) (.cons (.call i__law_is_filling (.cons (.var 2) (.cons (.var 4) .nil))) .nil)))) (.cons (.ret (.lit (.bl false))) .nil) .nil) .nil)
def c_law_4_b1 (i__law_other_kinds i__law_same i__law_short i_upholds_stock i__law_spans_to_try i__law_fillings_to_try i__law_is_filling i__law_filled i__law_subject i__law_numbers : Nat) : CSs :=
  (.cons (.if_ (.not_ (.call i__law_same (.cons (.call i_upholds_stock (.cons (.var 2) (.cons (.tup (.cons (.lit (.str "yes")) (.cons (.var 5) .nil))) .nil))) (.cons (.call i__law_is_filling (.cons (.var 2) (.cons (.var 5) .nil))) .nil)))) (.cons (.ret (.lit (.bl false))) .nil) .nil) .nil)
def c_law_4_b0 (i__law_other_kinds i__law_same i__law_short i_upholds_stock i__law_spans_to_try i__law_fillings_to_try i__law_is_filling i__law_filled i__law_subject i__law_numbers : Nat) : CSs :=
  (.cons (.if_ (.not_ (.call i__law_same (.cons (.call i_upholds_stock (.cons (.var 2) (.cons (.tup (.cons (.lit (.str "no")) (.cons (.var 7) .nil))) .nil))) (.cons (.call i__law_short (.cons (.var 2) (.cons (.ix (.var 7) (.lit (.int 0))) (.cons (.ix (.var 7) (.lit (.int 1))) .nil)))) .nil)))) (.cons (.ret (.lit (.bl false))) .nil) .nil) .nil)
def c_law_4 (i__law_other_kinds i__law_same i__law_short i_upholds_stock i__law_spans_to_try i__law_fillings_to_try i__law_is_filling i__law_filled i__law_subject i__law_numbers : Nat) : CSs :=
  (.cons (.asg (.name 1) (.call i__law_numbers (.cons (.var 0) (.cons (.lit (.int 60)) .nil)))) (.cons (.asg (.name 2) (.call i__law_subject (.cons (.var 1) .nil))) (.cons (.asg (.name 3) (.lst (.cons (.call i__law_filled (.cons (.var 2) (.cons (.lit (.bl false)) .nil))) (.cons (.call i__law_filled (.cons (.var 2) (.cons (.lit (.bl true)) .nil))) .nil)))) (.cons (.for_ (.name 4) (.seq (.var 3)) (c_law_4_b2 i__law_other_kinds i__law_same i__law_short i_upholds_stock i__law_spans_to_try i__law_fillings_to_try i__law_is_filling i__law_filled i__law_subject i__law_numbers)) (.cons (.asg (.name 4) (.ix (.var 3) (.bin .mod (.b1 .int (.ix (.var 1) (.lit (.int 50)))) (.lit (.int 2))))) (.cons (.for_ (.name 5) (.seq (.call i__law_fillings_to_try (.cons (.var 2) (.cons (.var 4) .nil)))) (c_law_4_b1 i__law_other_kinds i__law_same i__law_short i_upholds_stock i__law_spans_to_try i__law_fillings_to_try i__law_is_filling i__law_filled i__law_subject i__law_numbers)) (.cons (.asg (.name 6) (.call i__law_spans_to_try (.cons (.var 2) (.cons (.sl (.var 1) (.some (.lit (.int 51))) (.some (.lit (.int 55)))) .nil)))) (.cons (.for_ (.name 7) (.seq (.var 6)) (c_law_4_b0 i__law_other_kinds i__law_same i__law_short i_upholds_stock i__law_spans_to_try i__law_fillings_to_try i__law_is_filling i__law_filled i__law_subject i__law_numbers)) (.cons (.ret (.call i__law_other_kinds (.cons (.var 2) (.cons (.var 4) (.cons (.ix (.var 6) (.bin .mod (.b1 .int (.ix (.var 1) (.lit (.int 55)))) (.b1 .len (.var 6)))) .nil))))) .nil)))))))))
abbrev a_law_4 : An := ⟨[], [], [], false⟩
abbrev f_law_4 (i__law_other_kinds i__law_same i__law_short i_upholds_stock i__law_spans_to_try i__law_fillings_to_try i__law_is_filling i__law_filled i__law_subject i__law_numbers : Nat) : FnV := ⟨⟨8, 1, (c_law_4 i__law_other_kinds i__law_same i__law_short i_upholds_stock i__law_spans_to_try i__law_fillings_to_try i__law_is_filling i__law_filled i__law_subject i__law_numbers)⟩, a_law_4⟩
end Core
end
section
set_option autoImplicit false
set_option maxRecDepth 100000
/-! The kinds' defs over values (own work). -/
namespace PV
open PySem PI
/-- all texts within are short and good -/
inductive Fit : Vv → Prop where
  | non : Fit .non
  | bl (b : Bool) : Fit (.bl b)
  | int (i : Int) : Fit (.int i)
  | str (x : Str) (h : x.length ≤ lm ∧ PyData.strOk x = true) : Fit (.str x)
  | tup (xs : List Vv) (h : ∀ x, x ∈ xs → Fit x) : Fit (.tup xs)
  | lst (xs : List Vv) (h : ∀ x, x ∈ xs → Fit x) : Fit (.lst xs)
  | ro (xs : List Vv) (h : ∀ x, x ∈ xs → Fit x) : Fit (.ro xs)
  | dK (kvs : List (L2.Key × Vv)) : Fit (.dK kvs)
  | dT (kvs : List (List L2.Key × Vv)) : Fit (.dT kvs)
@[simp] theorem fit_non : Fit .non := .non
@[simp] theorem fit_bl {b : Bool} : Fit (.bl b) := .bl b
@[simp] theorem fit_int {b : Int} : Fit (.int b) := .int b
@[simp] theorem fit_str {x : Str} : Fit (.str x) ↔ x.length ≤ lm ∧ PyData.strOk x = true := ⟨fun h => by cases h; assumption, .str x⟩
@[simp] theorem fit_tup {xs : List Vv} : Fit (.tup xs) ↔ ∀ x, x ∈ xs → Fit x := ⟨fun h => by cases h; assumption, .tup xs⟩
@[simp] theorem fit_lst {xs : List Vv} : Fit (.lst xs) ↔ ∀ x, x ∈ xs → Fit x := ⟨fun h => by cases h; assumption, .lst xs⟩
@[simp] theorem fit_dK {b : List (L2.Key × Vv)} : Fit (.dK b) := .dK b
end PV
namespace Core
open PySem PI PV
def wholeV : Vv → Bool
  | .int _ => true
  | _ => false
def S_is_whole (F : FnsV) (i : Nat) : Prop := ∀ v, F i [v] = .ok (.bl (wholeV v)) []
theorem is_whole_s {P : PrV} {f : Nat} (hf : P.fns[f]? = some f_is_whole) : Sp P f 1 S_is_whole := .mk fun n hn v => by
  refine call_is hf rfl rfl ?_
  cases v <;> simp [c_is_whole, startV, wholeV]
def inIv (d : Vv) (lo hi : Int) : Bool := match d with
  | .int i => decide (lo ≤ i) && decide (i ≤ hi)
  | _ => false
def S_is_whole_in (F : FnsV) (i : Nat) : Prop := ∀ v lo hi, F i [v, .int lo, .int hi] = .ok (.bl (inIv v lo hi)) []
theorem is_whole_in_s {P : PrV} {f a : Nat} (hf : P.fns[f]? = some (f_is_whole_in a)) (ha : Sp P a 1 S_is_whole) : Sp P f 2 S_is_whole_in := .mk fun n hn v lo hi => by
  have e := ha n hn
  unfold S_is_whole at e
  refine call_is hf rfl rfl ?_
  cases v <;> simp [c_is_whole_in, startV, wholeV, e, inIv]
  rename_i i
  by_cases h : lo ≤ i <;> simp [h]
def tupIv (d : Vv) (lo hi : Int) : Bool := match d with
  | .tup xs => decide (lo ≤ xs.length) && decide ((xs.length : Int) ≤ hi)
  | _ => false
def S_is_tuple_of (F : FnsV) (i : Nat) : Prop := ∀ v lo hi, F i [v, .int lo, .int hi] = .ok (.bl (tupIv v lo hi)) []
theorem is_tuple_of_s {P : PrV} {f : Nat} (hf : P.fns[f]? = some f_is_tuple_of) : Sp P f 1 S_is_tuple_of := .mk fun n hn v lo hi => by
  refine call_is hf rfl rfl ?_
  cases v <;> simp [c_is_tuple_of, startV, tupIv]
  rename_i xs
  by_cases h : lo ≤ xs.length <;> simp [h]
def LET : List Nat := ("abcdefghijklmnopqrstuvwxyz" : Str).cps.toList
def DIG : List Nat := ("0123456789" : Str).cps.toList
def charOk (c : Nat) : Bool := decide (c ∈ LET) || decide (c ∈ DIG)
def allOk (x : Str) : Bool := x.cps.toList.all charOk
def nameS (x : Str) : Bool := (decide (1 ≤ x.length) && decide (x.length ≤ 8)) && (decide (x.cps.toList.getD 0 0 ∈ LET) && allOk x)
def nameV : Vv → Bool
  | .str x => nameS x
  | _ => false
def S_is_name (F : FnsV) (i : Nat) : Prop := ∀ v, Fit v → F i [v] = .ok (.bl (nameV v)) []
theorem LET_eq : (Str.ofString "abcdefghijklmnopqrstuvwxyz").cps.toList = LET := rfl
theorem DIG_eq : (Str.ofString "0123456789").cps.toList = DIG := rfl
theorem is_name_s {P : PrV} {f : Nat} (hf : P.fns[f]? = some f_is_name) : Sp P f 1 S_is_name := .mk fun n hn v fit => by
  refine call_is hf rfl rfl ?_
  cases v with
  | str x =>
    have sm : x.length ≤ 16777216 := (fit_str.mp fit).1
    by_cases c1 : (x.length : Int) < 1
    · have : ¬ (1 ≤ x.length) := by omega
      simp [c_is_name, startV, ss_cons, sm, c1, nameV, nameS, this]
    by_cases c2 : (8 : Int) < x.length
    · have : ¬ (x.length ≤ 8) := by omega
      simp [c_is_name, startV, ss_cons, sm, c1, c2, nameV, nameS, this]
    have d1 : 1 ≤ x.length := by omega
    have d2 : x.length ≤ 8 := by omega
    obtain ⟨c0, cs, ec⟩ : ∃ c0 cs, x.cps.toList = c0 :: cs := by
      cases e : x.cps.toList with
      | nil =>
        have : x.length = 0 := by
          show x.cps.size = 0
          rw [← Array.length_toList, e]; rfl
        omega
      | cons c cs => exact ⟨c, cs, rfl⟩
    have e0 : ixV (.str x) (.int 0) = some (.str ⟨#[c0]⟩) := by
      unfold ixV
      simp only [at_0, ec]
      simp [g1, sm]
    by_cases c3 : c0 ∈ LET
    · have hn : nameS x = allOk x := by
        unfold nameS
        rw [ec]
        simp [d1, d2, c3]
      simp only [c_is_name, startV]
      refine W_cons ?_
      simp
      refine W_cons ?_
      simp [sm, c1, c2]
      refine W_cons ?_
      simp [e0, LET_eq, c3]
      refine W_cons ?_
      simp only [s_for, it_seq, e_var]
      simp
      refine W_ask (p := charOk) (fun w => ∃ o, w = [some (.str x), o]) ⟨_, rfl⟩ ?_ ?_
      · rintro c hc w ⟨o, rfl⟩
        simp [LET_eq, DIG_eq]
        cases hk : charOk c with
        | true =>
          unfold charOk at hk
          by_cases k1 : c ∈ LET
          · simp [k1]
          · have k2 : c ∈ DIG := by simpa [k1] using hk
            simp [k1, k2]
        | false =>
          have na : x.cps.toList.all charOk = false := List.all_eq_false.mpr ⟨c, by simpa using hc, by simp [hk]⟩
          unfold charOk at hk
          simp only [Bool.or_eq_false_iff, decide_eq_false_iff_not] at hk
          simp [hk.1, hk.2, nameV, hn, allOk]
          simpa using na
      · rintro w ⟨o, rfl⟩ ha
        simp [nameV, hn, allOk]
        simpa using ha
    · simp only [c_is_name, startV]
      refine W_cons ?_
      simp
      refine W_cons ?_
      simp [sm, c1, c2]
      refine W_cons ?_
      simp [e0, LET_eq, c3, nameV, nameS, ec]
  | _ => simp [c_is_name, startV, ss_cons, nameV]
end Core
end
section
set_option autoImplicit false
set_option maxRecDepth 100000
/-! is_names, is_rising, is_answer, same over values (own work). -/
namespace Core
open PySem PI PV
open L2 (Key)
theorem nameV_str {d : Vv} (h : nameV d = true) : ∃ x, d = .str x ∧ nameS x = true := by cases d <;> first | cases h | exact ⟨_, rfl, h⟩
def namesL (xs : List Vv) : Prop := (∀ x, x ∈ xs → nameV x = true) ∧ xs.Nodup
open Classical in
noncomputable def namesV (d : Vv) (lo hi : Int) : Bool := tupIv d lo hi && match d with
  | .tup xs => decide (namesL xs)
  | _ => false
/-- the keys so far -/
def keysAre (kvs : List (Key × Vv)) (xs : List Vv) : Prop := kvs.map (fun kv => kV kv.1) = xs
theorem find_some {α : Type} {p : α → Bool} : ∀ l : List α, (l.find? p).isSome = l.any p
  | [] => rfl
  | x :: l => by
    rw [List.find?_cons, List.any_cons]
    cases p x with
    | true => rfl
    | false => exact find_some l
theorem kV_str {k : Key} {x : Str} : kV k = .str x ↔ k = .inr x := by
  cases k with
  | inl i => simp [kV]
  | inr y => simp [kV]
theorem keysAre.get {kvs : List (Key × Vv)} {xs : List Vv} (e : keysAre kvs xs) (x : Str) : (getV kvs (.inr x)).isSome = true ↔ Vv.str x ∈ xs := by
  unfold keysAre at e
  subst e
  unfold getV
  rw [Option.isSome_map, find_some, List.any_eq_true]
  constructor
  · rintro ⟨kv, h1, h2⟩
    exact List.mem_map.mpr ⟨kv, h1, kV_str.mpr (of_decide_eq_true h2)⟩
  · intro h
    obtain ⟨kv, h1, h2⟩ := List.mem_map.mp h
    exact ⟨kv, h1, decide_eq_true (kV_str.mp h2)⟩
theorem keysAre.put {kvs : List (Key × Vv)} {xs : List Vv} (e : keysAre kvs xs) {x : Str} (n : Vv.str x ∉ xs) (v : Vv) : keysAre (putV kvs (.inr x) v) (xs ++ [.str x]) := by
  have h := e.get x
  have : ¬ (kvs.any fun kv => decide (kv.1 = .inr x)) = true := by
    unfold getV at h
    rw [Option.isSome_map, find_some] at h
    exact fun z => n (h.mp z)
  unfold putV
  rw [if_neg this]
  unfold keysAre at e ⊢
  rw [List.map_append, e]
  rfl
theorem keysAre.length {kvs : List (Key × Vv)} {xs : List Vv} (e : keysAre kvs xs) : kvs.length = xs.length := by
  unfold keysAre at e
  rw [← e, List.length_map]
def S_is_names (F : FnsV) (i : Nat) : Prop := ∀ v lo hi, Fit v → hi ≤ 1000 → F i [v, .int lo, .int hi] = .ok (.bl (namesV v lo hi)) []
theorem is_names_s {P : PrV} {f a b : Nat} (hf : P.fns[f]? = some (f_is_names a b)) (ha : Sp P a 1 S_is_name) (hb : Sp P b 1 S_is_tuple_of) : Sp P f 2 S_is_names := .mk fun n hn v lo hi fit hhi => by
  have ea := ha n (by omega)
  have eb := hb n (by omega) v lo hi
  refine call_is hf rfl rfl ?_
  simp only [c_is_names, startV]
  refine W_cons ?_
  cases ht : tupIv v lo hi with
  | false => simp [eb, ht, namesV]
  | true =>
    cases v <;> first | cases ht | skip
    rename_i xs
    have fit := fit_tup.mp fit
    have hlen : (xs.length : Int) ≤ hi := by
      simp only [tupIv, Bool.and_eq_true, decide_eq_true_eq] at ht
      exact ht.2
    simp [eb, ht]
    refine W_cons ?_
    simp
    refine W_cons ?_
    simp [namesV, ht]
    refine W_forV (fun i w => (∃ o kvs, w = [some (.tup xs), some (.int lo), some (.int hi), some (.dK kvs), o] ∧ keysAre kvs (xs.take i)) ∧ namesL (xs.take i)) ⟨⟨_, [], rfl, rfl⟩, by simp [namesL]⟩ ?_ ?_
    · rintro i x w ex ⟨⟨o, kvs, rfl, hk⟩, hu⟩
      have hx := List.mem_of_getElem? ex
      have en := ea x (fit x hx)
      have et : xs.take (i + 1) = xs.take i ++ [x] := by rw [List.take_succ, ex]; rfl
      refine W_cons ?_
      cases hnm : nameV x with
      | false =>
        have na : ¬ namesL xs := fun z => by have := z.1 x hx; rw [hnm] at this; cases this
        simp [en, hnm, na]
      | true =>
        obtain ⟨y, rfl, hy⟩ := nameV_str hnm
        have hg := hk.get y
        by_cases hm : Vv.str y ∈ xs.take i
        · have na : ¬ namesL xs := fun z => by
            have h1 := (List.take_sublist (i + 1) xs).nodup z.2
            rw [et] at h1
            exact (List.nodup_append.mp h1).2.2 _ hm _ (by simp) rfl
          have hg' : (getV kvs (.inr y)).isSome = true := hg.mpr hm
          simp [en, hnm, hg', na]
        · have hg' : (getV kvs (.inr y)).isSome = false := by
            cases z : (getV kvs (.inr y)).isSome with
            | false => rfl
            | true => exact (hm (hg.mp z)).elim
          have hl : kvs.length < 16777216 := by
            rw [hk.length, List.length_take]
            omega
          simp [en, hnm, hg', hl]
          refine ⟨⟨_, _, ⟨rfl, rfl⟩, by rw [et]; exact hk.put hm _⟩, ?_⟩
          rw [et]
          refine ⟨fun z hz => ?_, List.nodup_append.mpr ⟨hu.2, by simp, fun a ha b hb => by simp at hb; subst hb; exact fun z => hm (z ▸ ha)⟩⟩
          rcases List.mem_append.mp hz with z' | z'
          · exact hu.1 z z'
          · simp at z'; subst z'; exact hnm
    · rintro w ⟨⟨o, kvs, rfl, hk⟩, hu⟩
      rw [List.take_length] at hu
      simp [hu]
theorem wholeV_int {v : Vv} (h : wholeV v = true) : ∃ i, v = .int i := by cases v <;> first | cases h; done | exact ⟨_, rfl⟩
def risingV (v : Vv) : Bool := match v with
  | .tup xs => (xs.all wholeV) && (List.range (xs.length - 1)).all fun k => match xs[k]?, xs[k + 1]? with | some (.int a), some (.int b) => decide (a < b) | _, _ => false
  | _ => false
def S_is_rising (F : FnsV) (i : Nat) : Prop := ∀ v, (∀ xs, v = .tup xs → xs.length < 2 ^ 60) → F i [v] = .ok (.bl (risingV v)) []
theorem is_rising_s {P : PrV} {f a : Nat} (hf : P.fns[f]? = some (f_is_rising a)) (ha : Sp P a 1 S_is_whole) : Sp P f 2 S_is_rising := .mk fun n hn v hlen => by
  have ea := ha n (by omega)
  unfold S_is_whole at ea
  refine call_is hf rfl rfl ?_
  simp only [c_is_rising, startV]
  refine W_cons ?_
  cases v with
  | tup xs =>
    have hlen := hlen xs rfl
    simp
    refine W_cons ?_
    simp
    refine (show W (loopF _ (xs.map id) _) _ _ from ?_) |> fun z => by rwa [List.map_id] at z
    refine W_ask (p := wholeV) (fun w => ∃ o o', w = [some (.tup xs), o, o']) ⟨_, _, rfl⟩ ?_ ?_
    · rintro x hx w ⟨o, o', rfl⟩
      simp [ea]
      cases hk : wholeV x with
      | true => simp
      | false =>
        have na : xs.all wholeV = false := List.all_eq_false.mpr ⟨x, hx, by simp [hk]⟩
        simp [risingV, na]
        exact ⟨x, hx, hk⟩
    · rintro w ⟨o, o', rfl⟩ ha
      simp only [onF_nx]
      refine W_cons ?_
      have hi : isr 1 = true := by decide
      simp [hi, isr_nat (show xs.length < 2 ^ 61 by omega), rng_eq]
      refine W_ask (p := fun k => match xs[k]?, xs[k + 1]? with | some (.int a), some (.int b) => decide (a < b) | _, _ => false) (fun w => ∃ o o', w = [some (.tup xs), o, o']) ⟨_, _, rfl⟩ ?_ ?_
      · rintro k hk w ⟨o, o', rfl⟩
        have hk : k < xs.length - 1 := List.mem_range.mp hk
        have g1 : ∃ a, xs[k]? = some (.int a) := by
          have h1 : k < xs.length := by omega
          have := List.all_eq_true.mp ha xs[k] (List.getElem_mem h1)
          obtain ⟨i, hx⟩ := wholeV_int this
          exact ⟨i, by rw [List.getElem?_eq_getElem h1, hx]⟩
        have g2 : ∃ a, xs[k + 1]? = some (.int a) := by
          have h1 : k + 1 < xs.length := by omega
          have := List.all_eq_true.mp ha xs[k + 1] (List.getElem_mem h1)
          obtain ⟨i, hx⟩ := wholeV_int this
          exact ⟨i, by rw [List.getElem?_eq_getElem h1, hx]⟩
        obtain ⟨a, g1⟩ := g1
        obtain ⟨b, g2⟩ := g2
        have i1 : L2.atI xs ((1 : Int) + k - 1) = some (.int a) := by
          rw [show (1 : Int) + k - 1 = (k : Nat) by omega, at_nat, g1]
        have i2 : L2.atI xs ((1 : Int) + k) = some (.int b) := by
          rw [show (1 : Int) + k = ((k + 1 : Nat) : Int) by omega, at_nat, g2]
        simp [i1, i2, g1, g2]
        by_cases c : a < b
        · have : ¬ b ≤ a := by omega
          simp [c, this]
        · have c' : b ≤ a := by omega
          have na : (List.range (xs.length - 1)).all (fun k => match xs[k]?, xs[k + 1]? with | some (.int a), some (.int b) => decide (a < b) | _, _ => false) = false := List.all_eq_false.mpr ⟨k, List.mem_range.mpr hk, by simp [g1, g2, c]⟩
          simp [c, c', risingV, na]
          simpa using na
      · rintro w ⟨o, o', rfl⟩ hb
        simp only [onF_nx]
        simp [risingV, ha, hb]
  | _ => simp [risingV]
end Core
end
section
set_option autoImplicit false
set_option maxRecDepth 100000
/-! check_nicks, is_nicking, keeps over values (own work). -/
namespace Core
open PySem PI PV
open L2 (Key)
theorem tup2 {d : Vv} (e : tupIv d 2 2 = true) : ∃ a b, d = .tup [a, b] := by
  cases d <;> first | cases e | skip
  rename_i xs
  simp only [tupIv, Bool.and_eq_true, decide_eq_true_eq] at e
  match xs, e with
  | [a, b], _ => exact ⟨a, b, rfl⟩
  | [], e => simp at e
  | [_], e => simp at e
  | _ :: _ :: _ :: _, e => simp at e; omega
theorem tup3 {d : Vv} (e : tupIv d 3 3 = true) : ∃ a b c, d = .tup [a, b, c] := by
  cases d <;> first | cases e | skip
  rename_i xs
  simp only [tupIv, Bool.and_eq_true, decide_eq_true_eq] at e
  match xs, e with
  | [a, b, c], _ => exact ⟨a, b, c, rfl⟩
  | [], e => simp at e
  | [_], e => simp at e
  | [_, _], e => simp at e
  | _ :: _ :: _ :: _ :: _, e => simp at e; omega
theorem tupIv_tup {d : Vv} {lo hi : Int} (e : tupIv d lo hi = true) : ∃ xs, d = .tup xs ∧ lo ≤ xs.length ∧ (xs.length : Int) ≤ hi := by
  cases d <;> first | cases e | skip
  simp only [tupIv, Bool.and_eq_true, decide_eq_true_eq] at e
  exact ⟨_, rfl, e⟩
@[simp] theorem tupIv_2 {a b : Vv} : tupIv (.tup [a, b]) 2 2 = true := rfl
@[simp] theorem tupIv_3 {a b c : Vv} : tupIv (.tup [a, b, c]) 3 3 = true := rfl
theorem namesV_iff {d : Vv} {lo hi : Int} : namesV d lo hi = true ↔ ∃ ns, d = .tup ns ∧ lo ≤ ns.length ∧ (ns.length : Int) ≤ hi ∧ namesL ns := by
  constructor
  · intro h
    unfold namesV at h
    rw [Bool.and_eq_true] at h
    obtain ⟨xs, rfl, h1, h2⟩ := tupIv_tup h.1
    exact ⟨xs, rfl, h1, h2, @of_decide_eq_true _ (Classical.propDecidable _) h.2⟩
  · rintro ⟨ns, rfl, h1, h2, h3⟩
    unfold namesV tupIv
    simp [h1, h2, h3]
theorem inIv_iff {d : Vv} {lo hi : Int} : inIv d lo hi = true ↔ ∃ i, d = .int i ∧ lo ≤ i ∧ i ≤ hi := by
  cases d <;> simp [inIv]
theorem in_tup {x : Vv} {ns : List Vv} (hx : nameV x = true) (hn : ∀ y, y ∈ ns → nameV y = true) : ∃ b, inV x (.tup ns) = some b ∧ (b = true ↔ x ∈ ns) := by
  obtain ⟨a, rfl, _⟩ := nameV_str hx
  have e1 : ns.all flatV = true := List.all_eq_true.mpr fun y hy => by
    obtain ⟨b, rfl, _⟩ := nameV_str (hn y hy)
    rfl
  refine ⟨ns.any fun y => eqFV y (.str a), ?_, ?_⟩
  · unfold inV
    simp only [flatV, e1, Bool.and_self, if_true]
  · rw [List.any_eq_true]
    constructor
    · rintro ⟨y, hy, e⟩
      obtain ⟨b, rfl, _⟩ := nameV_str (hn y hy)
      have : b = a := by simpa [eqFV] using e
      subst this
      exact hy
    · intro h
      exact ⟨_, h, by simp [eqFV]⟩
def RowOk (ns : List Vv) (r : Vv) : Prop := ∃ ms p, r = .tup [.tup ms, p] ∧ namesV (.tup ms) 0 6 = true ∧ (∀ m, m ∈ ms → m ∈ ns) ∧ inIv p 0 1 = true
def Nicks (v : Vv) : Prop := ∃ ns rs, v = .tup [.tup ns, .tup rs] ∧ namesV (.tup ns) 0 12 = true ∧ tupIv (.tup rs) 0 24 = true ∧ ∀ r, r ∈ rs → RowOk ns r
def S_check_nicks (x : Nat) (F : FnsV) (i : Nat) : Prop := ∀ v, Fit v → (Nicks v → F i [v] = .ok .non []) ∧ (¬ Nicks v → F i [v] = .exc x)
theorem check_nicks_w {P : PrV} {f a b c x : Nat} (hf : P.fns[f]? = some (f_check_nicks a b c x)) (ha : Sp P a 2 S_is_whole_in) (hb : Sp P b 2 S_is_names) (hc : Sp P c 1 S_is_tuple_of) {n : Nat} (hn : 2 ≤ n) (v : Vv) (fit : Fit v) :
    W (callV P (n + 1) f [v]) (fun d w => d = .non ∧ w = [] ∧ Nicks v) (fun k => k = x ∧ ¬ Nicks v) := by
  have ea := ha n (by omega)
  have eb := hb n (by omega)
  have ec := hc n (by omega)
  unfold S_is_whole_in at ea
  unfold S_is_tuple_of at ec
  unfold S_is_names at eb
  refine W_call hf rfl ?_
  simp only [c_check_nicks, startV]
  refine W_cons ?_
  cases ht : tupIv v 2 2 with
  | false =>
    have nk : ¬ Nicks v := by
      rintro ⟨ns, rs, rfl, _⟩
      simp at ht
    simp [ec, ht, nk]
  | true =>
    obtain ⟨dn, dr, rfl⟩ := tup2 ht
    have fit := fit_tup.mp fit
    have wn := fit dn (by simp)
    have wr := fit dr (by simp)
    simp [ec]
    refine W_cons ?_
    simp
    refine W_cons ?_
    simp [eb dn _ _ wn]
    cases hnm : namesV dn 0 12 with
    | false =>
      have nk : ¬ Nicks (.tup [dn, dr]) := by
        rintro ⟨ns, rs, e, h1, _⟩
        cases e
        rw [hnm] at h1
        cases h1
      simp [nk]
    | true =>
      obtain ⟨ns, rfl, _, hn12, hns⟩ := namesV_iff.mp hnm
      simp
      refine W_cons ?_
      simp [ec]
      cases hrt : tupIv dr 0 24 with
      | false =>
        have nk : ¬ Nicks (.tup [.tup ns, dr]) := by
          rintro ⟨ns, rs, e, _, h1, _⟩
          cases e
          rw [hrt] at h1
          cases h1
        simp [nk]
      | true =>
        obtain ⟨rs, rfl, _, _⟩ := tupIv_tup hrt
        simp
        have fr := fit_tup.mp wr
        have bad : ∀ r, r ∈ rs → ¬ RowOk ns r → ¬ Nicks (.tup [.tup ns, .tup rs]) := by
          rintro r hr nr ⟨ns', rs', e, _, _, h1⟩
          cases e
          exact nr (h1 r hr)
        refine W_forV (fun i w => (∃ o1 o2, w = [some (.tup [.tup ns, .tup rs]), o1, some (.tup ns), some (.tup rs), o2]) ∧ ∀ r, r ∈ rs.take i → RowOk ns r) ⟨⟨_, _, rfl⟩, by simp⟩ ?_ ?_
        · rintro i row w ex ⟨⟨o1, o2, rfl⟩, hu⟩
          have hrow := List.mem_of_getElem? ex
          have frow := fr row hrow
          have et : rs.take (i + 1) = rs.take i ++ [row] := by rw [List.take_succ, ex]; rfl
          refine W_cons ?_
          cases ht2 : tupIv row 2 2 with
          | false =>
            have nr : ¬ RowOk ns row := by
              rintro ⟨ms, p, rfl, _⟩
              simp at ht2
            simp [ec, ht2, bad row hrow nr]
          | true =>
            obtain ⟨m, p, rfl⟩ := tup2 ht2
            have fm := fit_tup.mp frow m (by simp)
            simp [ec, eb m _ _ fm]
            cases hm : namesV m 0 6 with
            | false =>
              have nr : ¬ RowOk ns (.tup [m, p]) := by
                rintro ⟨ms, p', e, h1, _⟩
                cases e
                rw [hm] at h1
                cases h1
              simp [bad _ hrow nr]
            | true =>
              obtain ⟨ms, rfl, _, _, hms⟩ := namesV_iff.mp hm
              simp
              refine W_cons ?_
              simp
              refine W_forV (fun j w => (∃ o2, w = [some (.tup [.tup ns, .tup rs]), some (.tup [.tup ms, p]), some (.tup ns), some (.tup rs), o2]) ∧ ∀ m, m ∈ ms.take j → m ∈ ns) ⟨⟨_, rfl⟩, by simp⟩ ?_ ?_
              · rintro j y w ey ⟨⟨o, rfl⟩, hj⟩
                have hy := List.mem_of_getElem? ey
                obtain ⟨bb, ei, hb⟩ := in_tup (hms.1 y hy) hns.1
                have ety : ms.take (j + 1) = ms.take j ++ [y] := by rw [List.take_succ, ey]; rfl
                by_cases hin : y ∈ ns
                · have : bb = true := hb.mpr hin
                  subst this
                  simp [ei]
                  intro m hm
                  rw [ety] at hm
                  rcases List.mem_append.mp hm with z | z
                  · exact hj m z
                  · simp at z; subst z; exact hin
                · have : bb = false := by
                    cases bb with
                    | false => rfl
                    | true => exact (hin (hb.mp rfl)).elim
                  subst this
                  have nr : ¬ RowOk ns (.tup [.tup ms, p]) := by
                    rintro ⟨ms', p', e, _, h1, _⟩
                    cases e
                    exact hin (h1 y hy)
                  simp [ei, bad _ hrow nr]
              · rintro w ⟨⟨o, rfl⟩, hj⟩
                rw [List.take_length] at hj
                simp only [onF_nx]
                simp [ea]
                cases hp : inIv p 0 1 with
                | false =>
                  have nr : ¬ RowOk ns (.tup [.tup ms, p]) := by
                    rintro ⟨ms', p', e, _, _, h1⟩
                    cases e
                    rw [hp] at h1
                    cases h1
                  simp [bad _ hrow nr]
                | true =>
                  simp
                  intro r hr
                  rw [et] at hr
                  rcases List.mem_append.mp hr with z | z
                  · exact hu r z
                  · simp at z
                    subst z
                    exact ⟨ms, p, rfl, hm, hj, hp⟩
        · rintro w ⟨⟨o1, o2, rfl⟩, hu⟩
          rw [List.take_length] at hu
          simp
          exact ⟨ns, rs, rfl, hnm, hrt, hu⟩
theorem check_nicks_s {P : PrV} {f a b c x : Nat} (hf : P.fns[f]? = some (f_check_nicks a b c x)) (ha : Sp P a 2 S_is_whole_in) (hb : Sp P b 2 S_is_names) (hc : Sp P c 1 S_is_tuple_of) : Sp P f 3 (S_check_nicks x) := .mk fun n hn v fit => by
  have h := check_nicks_w hf ha hb hc hn v fit
  cases e : callV P (n + 1) f [v] with
  | ok d w =>
    rw [e] at h
    obtain ⟨rfl, rfl, hN⟩ := h
    exact ⟨fun _ => rfl, fun z => (z hN).elim⟩
  | exc k =>
    rw [e] at h
    obtain ⟨rfl, hN⟩ := h
    exact ⟨fun z => (hN z).elim, fun _ => rfl⟩
  | stuck => rw [e] at h; exact h.elim
end Core
end
section
set_option autoImplicit false
set_option maxRecDepth 100000
/-! Helpers; is_answer over values (own work). -/
namespace Core
open PySem PI PV
theorem at_map {α : Type} {xs : List α} {enc : α → Vv} {r : Nat} (h : r < xs.length) : L2.atI (xs.map enc) (r : Int) = some (enc xs[r]) := by
  rw [at_nat, List.getElem?_map, List.getElem?_eq_getElem h]
  rfl
theorem filterMap_if {α β : Type} (p : α → Bool) (f : α → β) : ∀ l : List α, l.filterMap (fun x => if p x = true then some (f x) else none) = (l.filter p).map f
  | [] => rfl
  | x :: l => by
    rw [List.filterMap_cons, List.filter_cons, filterMap_if p f l]
    cases p x <;> simp
theorem chk_eq {r : Rv Vv} {p : Prop} {x : Nat} (h : W r (fun d w => d = .non ∧ w = [] ∧ p) (fun k => k = x ∧ ¬ p)) : (p → r = .ok .non []) ∧ (¬ p → r = .exc x) := by
  cases r with
  | ok d w =>
    obtain ⟨rfl, rfl, hN⟩ := h
    exact ⟨fun _ => rfl, fun z => (z hN).elim⟩
  | exc k =>
    obtain ⟨rfl, hN⟩ := h
    exact ⟨fun z => (hN z).elim, fun _ => rfl⟩
  | stuck => exact h.elim
theorem at_tup {xs : List Vv} {i : Nat} (h : i < xs.length) : L2.atI xs (i : Int) = some xs[i] := by rw [at_nat, List.getElem?_eq_getElem h]
def YES : Str := Str.ofString "yes"
def NO : Str := Str.ofString "no"
theorem yes_ok : PyData.strOk YES = true := by decide +kernel
theorem no_ok : PyData.strOk NO = true := by decide +kernel
theorem no_ne : ¬ NO = YES := by decide +kernel
theorem yes_eq : Str.ofString "yes" = YES := rfl
theorem no_eq : Str.ofString "no" = NO := rfl
def ansV : Vv → Bool
  | .tup [.str w, _] => decide (w = YES) || decide (w = NO)
  | _ => false
/-- its word is a good text -/
def Wd (v : Vv) : Prop := ∀ w p, v = .tup [.str w, p] → PyData.strOk w = true
theorem wd_of {v : Vv} (h : Fit v) : Wd v := fun w p e => by
  subst e
  exact (fit_str.mp (fit_tup.mp h (.str w) (by simp))).2
def S_is_answer (F : FnsV) (i : Nat) : Prop := ∀ v, Wd v → F i [v] = .ok (.bl (ansV v)) []
theorem is_answer_s {P : PrV} {f a : Nat} (hf : P.fns[f]? = some (f_is_answer a)) (ha : Sp P a 1 S_is_tuple_of) : Sp P f 2 S_is_answer := .mk fun n hn v fit => by
  have ea := ha n (by omega)
  unfold S_is_tuple_of at ea
  refine call_is hf rfl rfl ?_
  simp only [c_is_answer, startV]
  refine W_cons ?_
  cases ht : tupIv v 2 2 with
  | false =>
    have : ansV v = false := by
      unfold ansV
      split
      · simp at ht
      · rfl
    simp [ea, ht, this]
  | true =>
    obtain ⟨x, p, rfl⟩ := tup2 ht
    cases x with
    | str w =>
      have fw := fit w p rfl
      have e1 := eq_str (i := w) (j := YES) fw yes_ok
      have e2 := eq_str (i := w) (j := NO) fw no_ok
      simp [ea, yes_eq, no_eq, e1, e2, ansV]
      by_cases c : w = YES
      · subst c; simp [e1]
      · simp [c]
    | _ => simp [ea, ansV]
end Core
end
section
set_option autoImplicit false
set_option maxRecDepth 100000
/-! sorted over values (own work). -/
namespace Core
open PySem PI PV
open PySem.W (alike alikeAll dataLt keyToks keyToksAll)
/-- sorted of a list of alike data -/
theorem sort_enc {α : Type} (enc : α → Vv) (q : α → PyData) (l : List α) (h1 : ∀ a ∈ l, toQ deep (enc a) = some (q a)) (h2 : ∀ a ∈ l, ∀ b ∈ l, alike (q a) (q b) = true) (h3 : (∀ a ∈ l, ∃ p ps, q a = .tuple (p :: ps)) ∨ (∀ a ∈ l, (∃ i, q a = .int i) ∨ ∃ s, q a = .str s)) (h4 : ∀ a ∈ l, (q a).depth ≤ 60) (h5 : l.length ≤ 16777216) :
    sortV (l.map enc) = some ((l.mergeSort fun a b => !dataLt (q b) (q a)).map enc) := by
  have em : (l.map enc).mapM (toQ deep) = some (l.map q) := by
    clear h2 h3 h4 h5
    induction l with
    | nil => rfl
    | cons a l ih =>
      rw [List.map_cons, List.mapM_cons, h1 a (by simp), ih fun b hb => h1 b (by simp [hb])]
      rfl
  unfold sortV
  rw [em]
  dsimp only
  have c1 : ((l.map q).all fun p => (l.map q).all fun r => alike p r) = true := by
    simp only [List.all_eq_true, List.mem_map]
    rintro _ ⟨a, ha, rfl⟩ _ ⟨b, hb, rfl⟩
    exact h2 a ha b hb
  have c2 : (((l.map q).all fun p => match p with | .tuple (_ :: _) => true | _ => false) || ((l.map q).all fun p => match p with | .tuple _ => false | .none => false | _ => true)) = true := by
    rw [Bool.or_eq_true]
    rcases h3 with h3 | h3
    · refine .inl ?_
      simp only [List.all_eq_true, List.mem_map]
      rintro _ ⟨a, ha, rfl⟩
      obtain ⟨p, ps, e⟩ := h3 a ha
      rw [e]
    · refine .inr ?_
      simp only [List.all_eq_true, List.mem_map]
      rintro _ ⟨a, ha, rfl⟩
      rcases h3 a ha with ⟨i, e⟩ | ⟨i, e⟩ <;> rw [e]
  have c3 : ((l.map q).all fun p => decide (p.depth ≤ 60)) = true := by
    simp only [List.all_eq_true, List.mem_map]
    rintro _ ⟨a, ha, rfl⟩
    exact decide_eq_true (h4 a ha)
  have c4 : decide ((l.map enc).length ≤ lm) = true := decide_eq_true (by simpa using h5)
  rw [if_pos (by rw [c1, c3, c4]; simp only [Bool.true_and, Bool.and_true]; exact c2)]
  have z : (l.map enc).zip (l.map q) = l.map fun a => (enc a, q a) := by
    rw [List.zip_map']
  rw [z]
  have m : (l.map fun a => (enc a, q a)).mergeSort (fun a b => !dataLt b.2 a.2) = (l.mergeSort fun a b => !dataLt (q b) (q a)).map fun a => (enc a, q a) := by
    rw [List.map_mergeSort]
    intro a _ b _
    rfl
  rw [m, List.map_map]
  rfl
def lx (a b : List (Int ⊕ List Nat)) : Bool := PyProof.Rows.lexLt PyProof.Rows.itemOrd a b
theorem dlt_eq {p q : PyData} : dataLt p q = lx (keyToks p) (keyToks q) := rfl
theorem lex_i {a b : Int} {xs ys : List (Int ⊕ List Nat)} : lx (.inl a :: xs) (.inl b :: ys) = if a = b then lx xs ys else decide (a < b) := by
  by_cases h : a = b
  · subst h
    rw [if_pos rfl]
    exact PyProof.Rows.lex_self (O := PyProof.Rows.itemOrd) _ _ _
  · rw [if_neg h]
    exact PyProof.Rows.lex_diff (O := PyProof.Rows.itemOrd) fun e => h (Sum.inl.inj e)
theorem lex_n : lx [] [] = false := rfl
theorem dlt1 (a b : Int) : dataLt (.int a) (.int b) = decide (a < b) := by
  rw [dlt_eq]
  simp only [keyToks, lex_i, lex_n]
  by_cases h : a = b
  · subst h; simp
  · simp [h]
theorem dlt2 (a b c d : Int) : dataLt (.tuple [.int a, .int b]) (.tuple [.int c, .int d]) = decide (a < c ∨ (a = c ∧ b < d)) := by
  rw [dlt_eq]
  simp only [keyToks, keyToksAll, List.cons_append, List.nil_append, lex_i, if_true, lex_n]
  by_cases h : a = c
  · subst h
    by_cases h2 : b = d
    · subst h2; simp
    · simp [h2]
  · simp [h]
theorem dlt3 (a b c d e f : Int) : dataLt (.tuple [.int a, .int b, .int c]) (.tuple [.int d, .int e, .int f]) = decide (a < d ∨ (a = d ∧ (b < e ∨ (b = e ∧ c < f)))) := by
  rw [dlt_eq]
  simp only [keyToks, keyToksAll, List.cons_append, List.nil_append, lex_i, if_true, lex_n]
  by_cases h : a = d
  · subst h
    by_cases h2 : b = e
    · subst h2
      by_cases h3 : c = f
      · subst h3; simp
      · simp [h3]
    · simp [h2]
  · simp [h]
abbrev Pr := Int × Int
def prE (p : Pr) : Vv := .tup [.int p.1, .int p.2]
abbrev Tk := Int × Int × Int
def tkE (t : Tk) : Vv := .tup [.int t.1, .int t.2.1, .int t.2.2]
def prLe (a b : Pr) : Bool := !decide (b.1 < a.1 ∨ (b.1 = a.1 ∧ b.2 < a.2))
def tkLe (a b : Tk) : Bool := !decide (b.1 < a.1 ∨ (b.1 = a.1 ∧ (b.2.1 < a.2.1 ∨ (b.2.1 = a.2.1 ∧ b.2.2 < a.2.2))))
theorem sort_pr (l : List Pr) (h : l.length ≤ 16777216) : sortV (l.map prE) = some ((l.mergeSort prLe).map prE) := by
  have := sort_enc prE (fun p => .tuple [.int p.1, .int p.2]) l (fun a _ => rfl) (fun a _ b _ => rfl) (.inl fun a _ => ⟨_, _, rfl⟩) (fun a _ => by simp [PyData.depth, PyData.depthAll]) h
  rw [this]
  have e : (fun a b : Pr => !dataLt (.tuple [.int b.1, .int b.2]) (.tuple [.int a.1, .int a.2])) = prLe := by
    funext a b
    rw [dlt2]
    rfl
  rw [e]
theorem sort_tk (l : List Tk) (h : l.length ≤ 16777216) : sortV (l.map tkE) = some ((l.mergeSort tkLe).map tkE) := by
  have := sort_enc tkE (fun p => .tuple [.int p.1, .int p.2.1, .int p.2.2]) l (fun a _ => rfl) (fun a _ b _ => rfl) (.inl fun a _ => ⟨_, _, rfl⟩) (fun a _ => by simp [PyData.depth, PyData.depthAll]) h
  rw [this]
  have e : (fun a b : Tk => !dataLt (.tuple [.int b.1, .int b.2.1, .int b.2.2]) (.tuple [.int a.1, .int a.2.1, .int a.2.2])) = tkLe := by
    funext a b
    rw [dlt3]
    rfl
  rw [e]
def inLe (a b : Int) : Bool := !decide (b < a)
theorem sort_int (l : List Int) (h : l.length ≤ 16777216) : sortV (l.map .int) = some ((l.mergeSort inLe).map .int) := by
  have := sort_enc Vv.int (fun p => .int p) l (fun a _ => rfl) (fun a _ b _ => rfl) (.inr fun a _ => .inl ⟨_, rfl⟩) (fun a _ => by simp [PyData.depth, PyData.depthAll]) h
  rw [this]
  have e : (fun a b : Int => !dataLt (.int b) (.int a)) = inLe := by
    funext a b
    rw [dlt1]
    rfl
  rw [e]
theorem inLe_iff {a b : Int} : inLe a b = true ↔ a ≤ b := by simp [inLe]
theorem prLe_iff {a b : Pr} : prLe a b = true ↔ a.1 < b.1 ∨ (a.1 = b.1 ∧ a.2 ≤ b.2) := by
  unfold prLe
  simp only [Bool.not_eq_true', decide_eq_false_iff_not]
  omega
theorem tkLe_iff {a b : Tk} : tkLe a b = true ↔ a.1 < b.1 ∨ (a.1 = b.1 ∧ (a.2.1 < b.2.1 ∨ (a.2.1 = b.2.1 ∧ a.2.2 ≤ b.2.2))) := by
  unfold tkLe
  simp only [Bool.not_eq_true', decide_eq_false_iff_not]
  omega
theorem sorted_int (l : List Int) : (l.mergeSort inLe).Pairwise (fun a b => a ≤ b) := (List.pairwise_mergeSort (le := inLe) (fun a b c h1 h2 => by rw [inLe_iff] at *; omega) (fun a b => by rw [Bool.or_eq_true, inLe_iff, inLe_iff]; omega) l).imp fun h => inLe_iff.mp h
theorem sorted_pr (l : List Pr) : (l.mergeSort prLe).Pairwise (fun a b => prLe a b = true) := List.pairwise_mergeSort (fun a b c h1 h2 => by rw [prLe_iff] at *; omega) (fun a b => by rw [Bool.or_eq_true, prLe_iff, prLe_iff]; omega) l
theorem sorted_tk (l : List Tk) : (l.mergeSort tkLe).Pairwise (fun a b => tkLe a b = true) := List.pairwise_mergeSort (fun a b c h1 h2 => by rw [tkLe_iff] at *; omega) (fun a b => by rw [Bool.or_eq_true, tkLe_iff, tkLe_iff]; omega) l
/-- pairs of numbers are compared -/
theorem lt_pr (a b c d : Int) : ltV (.tup [.int a, .int b]) (.tup [.int c, .int d]) = some (decide (a < c ∨ (a = c ∧ b < d))) := by
  have e : ltV (.tup [.int a, .int b]) (.tup [.int c, .int d]) = some (dataLt (.tuple [.int a, .int b]) (.tuple [.int c, .int d])) := rfl
  rw [e, dlt2]
end Core
end
section
set_option autoImplicit false
set_option maxRecDepth 100000
/-! The stock's defs over values (own work). -/
namespace Core
open PySem PI PV
def stk (cs ss : List Pr) (k : Int) : Vv := .tup [.tup (cs.map prE), .tup (ss.map prE), .int k]
def prOk (p : Pr) : Prop := 0 ≤ p.1 ∧ p.1 ≤ 5000 ∧ 1 ≤ p.2 ∧ p.2 ≤ 100000
structure StOk (cs ss : List Pr) (k : Int) : Prop where
  lc : cs.length ≤ 16
  ls : ss.length ≤ 16
  c : ∀ p ∈ cs, prOk p
  s : ∀ p ∈ ss, prOk p
  k0 : 0 ≤ k
  k1 : k ≤ 5000
def S_check_pairs (F : FnsV) (i : Nat) : Prop := ∀ ps : List Pr, ps.length ≤ 16 → (∀ p ∈ ps, prOk p) → F i [.tup (ps.map prE)] = .ok .non []
theorem check_pairs_s {P : PrV} {f a b x : Nat} (hf : P.fns[f]? = some (f_check_pairs a b x)) (ha : Sp P a 2 S_is_whole_in) (hb : Sp P b 1 S_is_tuple_of) : Sp P f 3 S_check_pairs := .mk fun n hn ps hl hp => by
  have ea := ha n (by omega)
  have eb := hb n (by omega)
  unfold S_is_whole_in at ea
  unfold S_is_tuple_of at eb
  refine call_is hf rfl rfl ?_
  simp only [c_check_pairs, startV]
  have t1 : tupIv (.tup (ps.map prE)) 0 16 = true := by simp [tupIv]; omega
  refine W_cons ?_
  simp [eb, t1]
  refine W_for (fun i w => ∃ o, w = [some (.tup (ps.map prE)), o]) ⟨_, rfl⟩ ?_ ?_
  · rintro i p w ex ⟨o, rfl⟩
    obtain ⟨h1, h2, h3, h4⟩ := hp p (List.mem_of_getElem? ex)
    have e1 : inIv (.int p.1) 0 5000 = true := inIv_iff.mpr ⟨_, rfl, h1, h2⟩
    have e2 : inIv (.int p.2) 1 100000 = true := inIv_iff.mpr ⟨_, rfl, h3, h4⟩
    refine W_cons ?_
    simp [prE, ea, eb, e1, e2]
  · rintro w ⟨o, rfl⟩
    simp
def S_check_stock (F : FnsV) (i : Nat) : Prop := ∀ cs ss k, StOk cs ss k → F i [stk cs ss k] = .ok .non []
theorem check_stock_s {P : PrV} {f a b c x : Nat} (hf : P.fns[f]? = some (f_check_stock a b c x)) (ha : Sp P a 2 S_is_whole_in) (hb : Sp P b 3 S_check_pairs) (hc : Sp P c 1 S_is_tuple_of) : Sp P f 4 S_check_stock := .mk fun n hn cs ss k v => by
  have ea := ha n (by omega)
  have eb := hb n (by omega)
  have ec := hc n (by omega)
  unfold S_is_whole_in at ea
  unfold S_is_tuple_of at ec
  have e1 := eb cs v.lc v.c
  have e2 := eb ss v.ls v.s
  have e3 : inIv (.int k) 0 5000 = true := inIv_iff.mpr ⟨_, rfl, v.k0, v.k1⟩
  refine call_is hf rfl rfl ?_
  simp only [c_check_stock, startV, stk]
  refine W_cons ?_
  simp [ec]
  refine W_cons ?_
  simp [e1]
  refine W_cons ?_
  simp [e2]
  simp [ea, e3]
/-! ### sums -/
def castN (cs : List Pr) (f l : Int) : Int := ((cs.filter fun p => decide (f ≤ p.1) && decide (p.1 ≤ l)).map (·.2)).sum
def dueN (ss : List Pr) (k f l : Int) : Int := ((ss.filter fun p => decide (f ≤ p.1 - k) && decide (p.1 ≤ l)).map (·.2)).sum
theorem map_int2 {α : Type} (l : List α) (f : α → Int) : l.map (fun p => Vv.int (f p)) = (l.map f).map Vv.int := by rw [List.map_map]; rfl
def S_cast_between (F : FnsV) (i : Nat) : Prop := ∀ (cs : List Pr) (f l : Int), cs.length ≤ 1000 → F i [.tup (cs.map prE), .int f, .int l] = .ok (.int (castN cs f l)) []
theorem cast_between_s {P : PrV} {f : Nat} (hf : P.fns[f]? = some f_cast_between) : Sp P f 1 S_cast_between := .mk fun n hn cs a b hl => by
  refine call_is hf rfl rfl ?_
  simp only [c_cast_between, startV]
  refine W_cons ?_
  simp
  have hl' : cs.length ≤ lm := by simp; omega
  refine W_comp (fun p : Pr => if (decide (a ≤ p.1) && decide (p.1 ≤ b)) = true then some (.int p.2) else none) (fun w => ∃ o1 o2, w = [some (.tup (cs.map prE)), some (.int a), some (.int b), o1, o2]) ⟨_, _, rfl⟩ hl' ?_ ?_
  · rintro p hp w ⟨o1, o2, rfl⟩
    by_cases h1 : a ≤ p.1
    · by_cases h2 : p.1 ≤ b <;> simp [prE, h1, h2]
    · simp [prE, h1]
  · rintro w ⟨o1, o2, rfl⟩
    rw [filterMap_if, map_int2]
    simp only [b1_sum, op_some, W_ok]
    simp [castN]
def S_due_between (F : FnsV) (i : Nat) : Prop := ∀ (ss : List Pr) (k f l : Int), ss.length ≤ 1000 → F i [.tup (ss.map prE), .int k, .int f, .int l] = .ok (.int (dueN ss k f l)) []
theorem due_between_s {P : PrV} {f : Nat} (hf : P.fns[f]? = some f_due_between) : Sp P f 1 S_due_between := .mk fun n hn ss k a b hl => by
  refine call_is hf rfl rfl ?_
  simp only [c_due_between, startV]
  refine W_cons ?_
  simp
  have hl' : ss.length ≤ lm := by simp; omega
  refine W_comp (fun p : Pr => if (decide (a ≤ p.1 - k) && decide (p.1 ≤ b)) = true then some (.int p.2) else none) (fun w => ∃ o1 o2, w = [some (.tup (ss.map prE)), some (.int k), some (.int a), some (.int b), o1, o2]) ⟨_, _, rfl⟩ hl' ?_ ?_
  · rintro p hp w ⟨o1, o2, rfl⟩
    by_cases h1 : a ≤ p.1 - k
    · by_cases h2 : p.1 ≤ b <;> simp [prE, h1, h2]
    · simp [prE, h1]
  · rintro w ⟨o1, o2, rfl⟩
    rw [filterMap_if, map_int2]
    simp only [b1_sum, op_some, W_ok]
    simp [dueN]
def shortB (cs ss : List Pr) (k f l : Int) : Bool := decide (castN cs f l < dueN ss k f l)
def S_short (F : FnsV) (i : Nat) : Prop := ∀ (cs ss : List Pr) (k f l : Int), cs.length ≤ 1000 → ss.length ≤ 1000 → F i [stk cs ss k, .int f, .int l] = .ok (.bl (shortB cs ss k f l)) []
theorem is_short_span_s {P : PrV} {f a b : Nat} (hf : P.fns[f]? = some (f_is_short_span a b)) (ha : Sp P a 1 S_due_between) (hb : Sp P b 1 S_cast_between) : Sp P f 2 S_short := .mk fun n hn cs ss k x y h1 h2 => by
  have ea := ha n (by omega) ss k x y h2
  have eb := hb n (by omega) cs x y h1
  refine call_is hf rfl rfl ?_
  simp only [c_is_short_span, startV, stk]
  refine W_cons ?_
  simp [ea, eb, shortB]
/-! ### takes -/
def prAt (ps : List Pr) (i : Int) : Pr := ps.getD i.toNat (0, 0)
def takeB (cs ss : List Pr) (k : Int) (t : Tk) : Bool := decide (0 ≤ t.1 ∧ t.1 < cs.length) && (decide (0 ≤ t.2.1 ∧ t.2.1 < ss.length) && (decide (1 ≤ t.2.2) && (decide ((prAt ss t.2.1).1 - k ≤ (prAt cs t.1).1) && decide ((prAt cs t.1).1 ≤ (prAt ss t.2.1).1))))
def takeV (cs ss : List Pr) (k : Int) : Vv → Bool
  | .tup [.int c, .int s, .int n] => takeB cs ss k (c, s, n)
  | _ => false
theorem takeV_inv {cs ss : List Pr} {k : Int} {v : Vv} (h : takeV cs ss k v = true) : ∃ t, v = tkE t ∧ takeB cs ss k t = true := by
  unfold takeV at h
  split at h
  · exact ⟨_, rfl, h⟩
  · cases h
theorem takeV_tk {cs ss : List Pr} {k : Int} {t : Tk} : takeV cs ss k (tkE t) = takeB cs ss k t := rfl
theorem pr_at {ps : List Pr} {i : Int} (h0 : 0 ≤ i) (h : i < ps.length) : L2.atI (ps.map prE) i = some (prE (prAt ps i)) := by
  have e : i = (i.toNat : Int) := by omega
  have hi : i.toNat < ps.length := by omega
  rw [e, at_map hi]
  unfold prAt
  rw [List.getD_eq_getElem?_getD, Int.toNat_natCast, List.getElem?_eq_getElem hi]
  rfl
def S_is_take (F : FnsV) (i : Nat) : Prop := ∀ (cs ss : List Pr) (k : Int) (v : Vv), F i [stk cs ss k, v] = .ok (.bl (takeV cs ss k v)) []
theorem inIv_int {i lo hi : Int} : inIv (.int i) lo hi = (decide (lo ≤ i) && decide (i ≤ hi)) := rfl
theorem is_take_s {P : PrV} {f a b c : Nat} (hf : P.fns[f]? = some (f_is_take a b c)) (ha : Sp P a 1 S_is_whole) (hb : Sp P b 2 S_is_whole_in) (hc : Sp P c 1 S_is_tuple_of) : Sp P f 3 S_is_take := .mk fun n hn cs ss k v => by
  have ea := ha n (by omega)
  have eb := hb n (by omega)
  have ec := hc n (by omega)
  unfold S_is_whole at ea
  unfold S_is_whole_in at eb
  unfold S_is_tuple_of at ec
  refine call_is hf rfl rfl ?_
  simp only [c_is_take, startV, stk]
  refine W_cons ?_
  simp
  refine W_cons ?_
  cases ht : tupIv v 3 3 with
  | false =>
    have : takeV cs ss k v = false := by
      unfold takeV
      split
      · simp at ht
      · rfl
    simp [ec, ht, this]
  | true =>
    obtain ⟨x, y, z, rfl⟩ := tup3 ht
    simp [ec]
    refine W_cons ?_
    simp [eb]
    cases h1 : inIv x 0 ((cs.length : Int) - 1) with
    | false =>
      have : takeV cs ss k (.tup [x, y, z]) = false := by
        unfold takeV
        split
        · rename_i c s m e
          cases e
          have : ¬ (0 ≤ c ∧ c < cs.length) := fun q => by
            rw [inIv_iff.mpr ⟨c, rfl, q.1, by omega⟩] at h1
            cases h1
          simp [takeB, this]
        · rfl
      simp [this]
    | true =>
      obtain ⟨c, rfl, c0, c1⟩ := inIv_iff.mp h1
      cases h2 : inIv y 0 ((ss.length : Int) - 1) with
      | false =>
        have : takeV cs ss k (.tup [.int c, y, z]) = false := by
          unfold takeV
          split
          · rename_i c s m e
            cases e
            have : ¬ (0 ≤ s ∧ s < ss.length) := fun q => by
              rw [inIv_iff.mpr ⟨s, rfl, q.1, by omega⟩] at h2
              cases h2
            simp [takeB, this]
          · rfl
        simp [this]
      | true =>
        obtain ⟨s, rfl, s0, s1⟩ := inIv_iff.mp h2
        simp
        refine W_cons ?_
        cases z with
        | int m =>
          simp [ea, wholeV]
          have q1 : 0 ≤ c ∧ c < cs.length := ⟨c0, by omega⟩
          have q2 : 0 ≤ s ∧ s < ss.length := ⟨s0, by omega⟩
          by_cases h3 : m < 1
          · have : ¬ 1 ≤ m := by omega
            simp [h3, takeV, takeB, this]
          · have h4 : 1 ≤ m := by omega
            simp [h3]
            refine W_cons ?_
            simp [pr_at s0 q2.2, pr_at c0 q1.2, prE, takeV, takeB, q1, q2, h4]
            by_cases h5 : (prAt ss s).1 - k ≤ (prAt cs c).1 <;> simp [h5]
        | _ => simp [ea, wholeV, takeV]
end Core
end
section
set_option autoImplicit false
set_option maxRecDepth 100000
/-! sums_by, fills, upholds_stock over values (own work). -/
namespace Core
open PySem PI PV
def sumAt (f : Tk → Int) (ts : List Tk) (k : Int) : Int := ((ts.filter fun t => decide (f t = k)).map (·.2.2)).sum
theorem sumAt_snoc (f : Tk → Int) (ts : List Tk) (t : Tk) (k : Int) : sumAt f (ts ++ [t]) k = sumAt f ts k + if f t = k then t.2.2 else 0 := by
  unfold sumAt
  rw [List.filter_append, List.map_append, List.sum_append]
  by_cases h : f t = k <;> simp [h]
def sumsL (f : Tk → Int) (ts : List Tk) (n : Nat) : List Int := (List.range n).map fun k => sumAt f ts (k : Nat)
theorem sumsL_nil (f : Tk → Int) (n : Nat) : sumsL f [] n = List.replicate n 0 := by
  refine List.ext_getElem (by simp [sumsL]) fun i h1 h2 => ?_
  simp [sumsL, sumAt]
theorem sumsL_len (f : Tk → Int) (ts : List Tk) (n : Nat) : (sumsL f ts n).length = n := by simp [sumsL]
theorem sumsL_snoc (f : Tk → Int) (ts : List Tk) (t : Tk) (n : Nat) {i : Nat} (hi : f t = i) (hn : i < n) : sumsL f (ts ++ [t]) n = (sumsL f ts n).set i (sumAt f ts i + t.2.2) := by
  refine List.ext_getElem (by simp [sumsL]) fun j h1 h2 => ?_
  rw [List.getElem_set]
  have hj : j < n := by simpa [sumsL] using h1
  simp only [sumsL, List.getElem_map, List.getElem_range, sumAt_snoc]
  by_cases e : i = j
  · subst e
    simp [hi]
  · have : ¬ f t = (j : Int) := by omega
    simp [e, this]
def plc (p : Nat) (t : Tk) : Int := if p = 0 then t.1 else t.2.1
def S_sums_by (F : FnsV) (i : Nat) : Prop := ∀ (n : Nat) (ts : List Tk) (p : Nat), n ≤ 1000 → p ≤ 1 → (∀ t ∈ ts, 0 ≤ plc p t ∧ plc p t < n) → F i [.int n, .tup (ts.map tkE), .int p] = .ok (.lst ((sumsL (plc p) ts n).map .int)) []
theorem sums_by_s {P : PrV} {f : Nat} (hf : P.fns[f]? = some f_sums_by) : Sp P f 1 S_sums_by := .mk fun n hn m ts p hm hp ht => by
  refine call_is hf rfl rfl ?_
  simp only [c_sums_by, startV]
  refine W_cons ?_
  simp [isr_nat (show m < 2 ^ 61 by omega), rng0]
  refine W_map (fun _ => .int 0) (fun w => ∃ o, w = [some (.int m), some (.tup (ts.map tkE)), some (.int p), none, none, o]) ⟨_, rfl⟩ (by simp; omega) ?_ ?_
  · rintro k hk w ⟨o, rfl⟩
    simp
  · rintro w ⟨o, rfl⟩
    have e0 : (List.range m).map (fun _ => Vv.int 0) = (sumsL (plc p) [] m).map .int := by
      rw [sumsL_nil, List.map_replicate]
      refine List.ext_getElem (by simp) fun i h1 h2 => ?_
      simp
    rw [e0]
    simp
    refine W_cons ?_
    simp
    refine W_for (fun i w => ∃ o, w = [some (.int m), some (.tup (ts.map tkE)), some (.int p), some (.lst ((sumsL (plc p) (ts.take i) m).map .int)), o, none]) ⟨none, by simp⟩ ?_ ?_
    · rintro i t w ex ⟨o, rfl⟩
      obtain ⟨h0, h1⟩ := ht t (List.mem_of_getElem? ex)
      have et : ts.take (i + 1) = ts.take i ++ [t] := by rw [List.take_succ, ex]; rfl
      obtain ⟨j, hj⟩ : ∃ j : Nat, plc p t = j := ⟨(plc p t).toNat, by omega⟩
      have hjm : j < m := by omega
      have ix : L2.atI ((sumsL (plc p) (ts.take i) m).map Vv.int) (j : Int) = some (.int (sumAt (plc p) (ts.take i) j)) := by
        rw [at_map (by rw [sumsL_len]; exact hjm)]
        simp [sumsL]
      have ixn : L2.ixN (sumsL (plc p) (ts.take i) m).length (j : Int) = some j := ixN_nat (by rw [sumsL_len]; exact hjm)
      have ei : L2.atI [Vv.int t.1, .int t.2.1, .int t.2.2] (p : Int) = some (.int (j : Int)) := by
        have : p = 0 ∨ p = 1 := by omega
        rcases this with rfl | rfl
        · rw [at_nat]; simp [plc] at hj; simp [hj]
        · rw [at_nat]; simp [plc] at hj; simp [hj]
      rw [et, sumsL_snoc (plc p) _ t m hj hjm]
      simp [tkE, ei, ix, ixn, List.map_set]
    · rintro w ⟨o, rfl⟩
      simp
/-- strictly ascending by the first two -/
def tkLt (a b : Tk) : Bool := decide (a.1 < b.1 ∨ (a.1 = b.1 ∧ a.2.1 < b.2.1))
def tkAt (ts : List Tk) (i : Nat) : Tk := ts.getD i (0, 0, 0)
def ordB (ts : List Tk) : Bool := (List.range (ts.length - 1)).all fun i => tkLt (tkAt ts i) (tkAt ts (i + 1))
def useB (cs : List Pr) (ts : List Tk) : Bool := (List.range cs.length).all fun k => decide (sumAt (plc 0) ts (k : Nat) ≤ (prAt cs (k : Nat)).2)
def gotB (ss : List Pr) (ts : List Tk) : Bool := decide (sumsL (plc 1) ts ss.length = ss.map (·.2))
def fillB (cs ss : List Pr) (k : Int) (ts : List Tk) : Bool := ts.all (takeB cs ss k) && (ordB ts && (useB cs ts && gotB ss ts))
theorem toQ_ints (ms : List Int) : toQ deep (.lst (ms.map .int)) = some (.list (ms.map PyData.int)) := by
  have e1 : (ms.map Vv.int).mapM (toQ (deep - 1)) = some (ms.map PyData.int) := by
    induction ms with
    | nil => rfl
    | cons m ms ih => rw [List.map_cons, List.mapM_cons, ih]; rfl
  show ((ms.map Vv.int).mapM (toQ (deep - 1))).map PyData.list = _
  rw [e1]
  rfl
theorem shaped_ints {ms : List Int} : SeqAt.shaped (.list (ms.map PyData.int)) = true := by
  have e2 : PyData.canLayAll0 (ms.map PyData.int) = true := by
    induction ms with
    | nil => rfl
    | cons m ms ih =>
      rw [List.map_cons]
      show (true && PyData.canLayAll0 (ms.map PyData.int)) = true
      rw [ih]
      rfl
  have e3 : PyData.depthAll (ms.map PyData.int) = 0 := by
    clear e2
    induction ms with
    | nil => rfl
    | cons m ms ih =>
      rw [List.map_cons]
      show max 0 (PyData.depthAll (ms.map PyData.int)) = 0
      rw [ih]
      rfl
  unfold SeqAt.shaped
  show (PyData.canLayAll0 (ms.map PyData.int) && decide (PyData.depthAll (ms.map PyData.int) + 1 ≤ 64)) = true
  rw [e2, e3]
  rfl
theorem eqvAll_ints : ∀ as bs : List Int, PyData.eqvAll (as.map PyData.int) (bs.map PyData.int) = decide (as = bs)
  | [], [] => by simp [PyData.eqvAll]
  | [], b :: bs => by simp [PyData.eqvAll]
  | a :: as, [] => by simp [PyData.eqvAll]
  | a :: as, b :: bs => by
    rw [List.map_cons, List.map_cons, PyData.eqvAll, eqvAll_ints as bs]
    show (a == b && _) = _
    by_cases h : a = b <;> simp [h]
theorem eq_ints (as bs : List Int) : eqV (.lst (as.map .int)) (.lst (bs.map .int)) = some (decide (as = bs)) := by
  unfold eqV
  rw [toQ_ints, toQ_ints]
  simp only [shaped_ints, Bool.and_self, if_true]
  show some (PyData.eqvAll _ _) = _
  rw [eqvAll_ints]
theorem ge_pr (a b c d : Int) : cmpV .ge (.tup [.int a, .int b]) (.tup [.int c, .int d]) = some (!decide (a < c ∨ (a = c ∧ b < d))) := by
  have e : cmpV .ge (.tup [.int a, .int b]) (.tup [.int c, .int d]) = (ltV (.tup [.int a, .int b]) (.tup [.int c, .int d])).map (!·) := by unfold cmpV; rfl
  rw [e, lt_pr]
  rfl
theorem enum_range {xs : List Vv} : enumV xs = (List.range xs.length).map fun i => Vv.tup [.int (i : Nat), xs.getD i .non] := by
  unfold enumV
  refine List.ext_getElem (by simp) fun i h1 h2 => ?_
  have hi : i < xs.length := by simpa using h2
  simp [List.getElem?_eq_getElem hi]
theorem cut2 (a b c : Vv) : cutL [a, b, c] none (some 2) = [a, b] := by
  unfold cutL HT.sIx
  simp
theorem tk_at {ts : List Tk} {i : Nat} (h : i < ts.length) : L2.atI (ts.map tkE) (i : Int) = some (tkE (tkAt ts i)) := by
  rw [at_map h]
  unfold tkAt
  rw [List.getD_eq_getElem?_getD, List.getElem?_eq_getElem h]
  rfl
theorem takes_of {cs ss : List Pr} {k : Int} {xs : List Vv} (h : xs.all (takeV cs ss k) = true) : ∃ ts : List Tk, xs = ts.map tkE ∧ ts.all (takeB cs ss k) = true := by
  induction xs with
  | nil => exact ⟨[], rfl, rfl⟩
  | cons x xs ih =>
    rw [List.all_cons, Bool.and_eq_true] at h
    obtain ⟨t, rfl, h1⟩ := takeV_inv h.1
    obtain ⟨ts, rfl, h2⟩ := ih h.2
    exact ⟨t :: ts, rfl, by rw [List.all_cons, h1, h2]; rfl⟩
def fillsV (cs ss : List Pr) (k : Int) (v : Vv) (b : Bool) : Prop := (b = true ↔ ∃ ts, v = .tup (ts.map tkE) ∧ fillB cs ss k ts = true)
def S_fills (F : FnsV) (i : Nat) : Prop := ∀ (cs ss : List Pr) (k : Int) (v : Vv) (b : Bool), cs.length ≤ 1000 → ss.length ≤ 1000 → (∀ xs, v = .tup xs → xs.length < 2 ^ 60) → fillsV cs ss k v b → F i [stk cs ss k, v] = .ok (.bl b) []
theorem tkE_inj {a b : Tk} (h : tkE a = tkE b) : a = b := by
  unfold tkE at h
  have h := Vv.tup.inj h
  simp at h
  obtain ⟨h1, h2, h3⟩ := h
  exact Prod.ext h1 (Prod.ext h2 h3)
theorem fills_s {P : PrV} {f a b : Nat} (hf : P.fns[f]? = some (f_fills a b)) (ha : Sp P a 1 S_sums_by) (hb : Sp P b 3 S_is_take) : Sp P f 4 S_fills := .mk fun n hn cs ss k v b h1 h2 h3 hv => by
  have ea := ha n (by omega)
  have eb := hb n (by omega) cs ss k
  unfold fillsV at hv
  unfold stk at eb
  refine call_is hf rfl rfl ?_
  simp only [c_fills, startV, stk]
  refine W_cons ?_
  simp
  refine W_cons ?_
  cases v with
  | tup xs =>
    have h3 := h3 xs rfl
    simp
    refine W_cons ?_
    simp
    have no : xs.all (takeV cs ss k) = false → b = false := fun hn => by
      cases b with
      | false => rfl
      | true =>
        obtain ⟨ts, e, q⟩ := hv.mp rfl
        cases e
        unfold fillB at q
        rw [Bool.and_eq_true] at q
        have : (ts.map tkE).all (takeV cs ss k) = true := by
          rw [List.all_map]
          exact q.1
        rw [this] at hn
        cases hn
    refine (show W (loopF _ (xs.map id) _) _ _ from ?_) |> fun z => by rwa [List.map_id] at z
    refine W_ask (p := takeV cs ss k) (fun w => ∃ o, w = [some (.tup [.tup (cs.map prE), .tup (ss.map prE), .int k]), some (.tup xs), o, none, none, none, some (.tup (cs.map prE)), some (.tup (ss.map prE)), some (.int k), none, none]) ⟨_, rfl⟩ ?_ ?_
    · rintro x hx w ⟨o, rfl⟩
      simp [eb]
      cases hk : takeV cs ss k x with
      | true => simp
      | false =>
        have na : xs.all (takeV cs ss k) = false := List.all_eq_false.mpr ⟨x, hx, by simp [hk]⟩
        simp [no na]
        simpa using na
    · rintro w ⟨o, rfl⟩ hall
      obtain ⟨ts, rfl, htk⟩ := takes_of hall
      have hb' : b = fillB cs ss k ts := by
        rw [Bool.eq_iff_iff, hv]
        constructor
        · rintro ⟨ts', e, q⟩
          have : ts' = ts := by
            have e := Vv.tup.inj e
            exact ((List.map_inj_right (f := tkE) (fun _ _ h => tkE_inj h)).mp e.symm)
          rw [← this]; exact q
        · intro q
          exact ⟨ts, rfl, q⟩
      have hb2 : b = (ordB ts && (useB cs ts && gotB ss ts)) := by rw [hb']; unfold fillB; rw [htk]; rfl
      have h3 : ts.length < 2 ^ 60 := by simpa using h3
      clear hv no hb' hall
      subst hb2
      have rng : ∀ t ∈ ts, (0 ≤ t.1 ∧ t.1 < cs.length) ∧ (0 ≤ t.2.1 ∧ t.2.1 < ss.length) := fun t ht => by
        have := List.all_eq_true.mp htk t ht
        simp only [takeB, Bool.and_eq_true, decide_eq_true_eq] at this
        exact ⟨this.1, this.2.1⟩
      have s0 := ea cs.length ts 0 h1 (by omega) fun t ht => (rng t ht).1
      have s1 := ea ss.length ts 1 h2 (by omega) fun t ht => (rng t ht).2
      simp only [onF_nx]
      refine W_cons ?_
      have i1 : isr 1 = true := by decide
      simp [i1, isr_nat (show ts.length < 2 ^ 61 by omega), rng_eq]
      refine W_ask (p := fun i => tkLt (tkAt ts i) (tkAt ts (i + 1))) (fun w => ∃ o o', w = [some (.tup [.tup (cs.map prE), .tup (ss.map prE), .int k]), some (.tup (ts.map tkE)), o, o', none, none, some (.tup (cs.map prE)), some (.tup (ss.map prE)), some (.int k), none, none]) ⟨_, _, rfl⟩ ?_ ?_
      · rintro i hi w ⟨o, o', rfl⟩
        have hi : i < ts.length - 1 := List.mem_range.mp hi
        have x1 := tk_at (ts := ts) (i := i) (by omega)
        have x2 := tk_at (ts := ts) (i := i + 1) (by omega)
        have n1 : (1 : Int) + (i : Nat) - 1 = (i : Nat) := by omega
        have n2 : (1 : Int) + (i : Nat) = ((i + 1 : Nat) : Int) := by omega
        have gp := ge_pr (tkAt ts i).1 (tkAt ts i).2.1 (tkAt ts (i + 1)).1 (tkAt ts (i + 1)).2.1
        cases hk : tkLt (tkAt ts i) (tkAt ts (i + 1)) with
        | true =>
          unfold tkLt at hk
          rw [hk] at gp
          rw [n2]
          have n3 : ((i + 1 : Nat) : Int) - 1 = (i : Nat) := by omega
          simp only [s_if, e_cmp, e_sl, e_ix, e_bin, e_var, e_lit, Lv_int, o_none, o_some, getW_eq, List.getElem?_cons_succ, List.getElem?_cons_zero, List.set_cons_succ, List.set_cons_zero, Option.bind_some, id, op_some, bd_ok, bin_sub, n3, ix_tup, x1, x2, tkE, isI_int, sl_tup, cut2, gp, W_bd, ss_one]
          simp
        | false =>
          have na : (List.range (ts.length - 1)).all (fun i => tkLt (tkAt ts i) (tkAt ts (i + 1))) = false := List.all_eq_false.mpr ⟨i, List.mem_range.mpr hi, by simp [hk]⟩
          unfold tkLt at hk
          rw [hk] at gp
          rw [n2]
          have n3 : ((i + 1 : Nat) : Int) - 1 = (i : Nat) := by omega
          simp only [s_if, e_cmp, e_sl, e_ix, e_bin, e_var, e_lit, Lv_int, o_none, o_some, getW_eq, List.getElem?_cons_succ, List.getElem?_cons_zero, List.set_cons_succ, List.set_cons_zero, Option.bind_some, id, op_some, bd_ok, bin_sub, n3, ix_tup, x1, x2, tkE, isI_int, sl_tup, cut2, gp, W_bd, ss_one]
          simp [ordB, na]
      · rintro w ⟨o, o', rfl⟩ hord
        have hord : ordB ts = true := hord
        simp only [onF_nx]
        refine W_cons ?_
        have s0' : callV P n a [.int (cs.length : Nat), .tup (ts.map tkE), .int 0] = _ := s0
        have s1' : callV P n a [.int (ss.length : Nat), .tup (ts.map tkE), .int 1] = _ := s1
        simp [s0']
        refine W_cons ?_
        simp [enum_range, hord]
        refine W_ask (p := fun i => decide (sumAt (plc 0) ts (i : Nat) ≤ (prAt cs (i : Nat)).2)) (fun w => ∃ o3 o9 o10, w = [some (.tup [.tup (cs.map prE), .tup (ss.map prE), .int k]), some (.tup (ts.map tkE)), o, o3, some (.lst ((sumsL (plc 0) ts cs.length).map .int)), none, some (.tup (cs.map prE)), some (.tup (ss.map prE)), some (.int k), o9, o10]) ⟨_, _, _, rfl⟩ ?_ ?_
        · rintro i hi w ⟨o3, o9, o10, rfl⟩
          have hi : i < cs.length := List.mem_range.mp hi
          have x1 : cs[i]? = some (prAt cs (i : Nat)) := by unfold prAt; rw [Int.toNat_natCast, List.getD_eq_getElem?_getD, List.getElem?_eq_getElem hi]; rfl
          have x2 : L2.atI ((sumsL (plc 0) ts cs.length).map Vv.int) (i : Int) = some (.int (sumAt (plc 0) ts (i : Nat))) := by
            rw [at_map (by rw [sumsL_len]; exact hi)]
            simp [sumsL]
          simp [x1, prE, x2]
          by_cases c : sumAt (plc 0) ts (i : Nat) ≤ (prAt cs (i : Nat)).2
          · have : ¬ (prAt cs (i : Nat)).2 < sumAt (plc 0) ts (i : Nat) := by omega
            simp [c, this]
          · have c' : (prAt cs (i : Nat)).2 < sumAt (plc 0) ts (i : Nat) := by omega
            have na : useB cs ts = false := List.all_eq_false.mpr ⟨i, List.mem_range.mpr hi, by simp [c]⟩
            have na' := na
            unfold useB at na'
            simp [c, c', na]
            simpa using na'
        · rintro w ⟨o3, o9, o10, rfl⟩ huse
          have huse : useB cs ts = true := huse
          simp only [onF_nx]
          refine W_cons ?_
          simp [s1', huse]
          refine W_map (fun p : Pr => .int p.2) (fun w => ∃ o9 o10, w = [some (.tup [.tup (cs.map prE), .tup (ss.map prE), .int k]), some (.tup (ts.map tkE)), o, o3, some (.lst ((sumsL (plc 0) ts cs.length).map .int)), some (.lst ((sumsL (plc 1) ts ss.length).map .int)), some (.tup (cs.map prE)), some (.tup (ss.map prE)), some (.int k), o9, o10]) ⟨_, _, rfl⟩ (by simp; omega) ?_ ?_
          · rintro p hp w ⟨o9, o10, rfl⟩
            simp [prE]
          · rintro w ⟨o9, o10, rfl⟩
            have em : ss.map (fun p => Vv.int p.2) = (ss.map (·.2)).map Vv.int := map_int2 ss _
            rw [em]
            simp only [cmp_eq, eq_ints, op_some]
            simp [gotB]
  | _ =>
    have : b = false := by
      cases b with
      | false => rfl
      | true => obtain ⟨ts, e, _⟩ := hv.mp rfl; cases e
    simp [this]
def spanV (cs ss : List Pr) (k : Int) : Vv → Bool
  | .tup [.int a, .int b] => shortB cs ss k a b
  | _ => false
def S_shortage (F : FnsV) (i : Nat) : Prop := ∀ (cs ss : List Pr) (k : Int) (v : Vv), cs.length ≤ 1000 → ss.length ≤ 1000 → F i [stk cs ss k, v] = .ok (.bl (spanV cs ss k v)) []
theorem is_shortage_s {P : PrV} {f a b c : Nat} (hf : P.fns[f]? = some (f_is_shortage a b c)) (ha : Sp P a 2 S_short) (hb : Sp P b 1 S_is_whole) (hc : Sp P c 1 S_is_tuple_of) : Sp P f 3 S_shortage := .mk fun n hn cs ss k v h1 h2 => by
  have ea := fun x y => ha n (by omega) cs ss k x y h1 h2
  have eb := hb n (by omega)
  have ec := hc n (by omega)
  unfold S_is_whole at eb
  unfold S_is_tuple_of at ec
  unfold stk at ea
  refine call_is hf rfl rfl ?_
  simp only [c_is_shortage, startV, stk]
  refine W_cons ?_
  cases ht : tupIv v 2 2 with
  | false =>
    have e : spanV cs ss k v = false := by
      unfold spanV
      split
      · cases ht
      · rfl
    simp [ec, ht, e]
  | true =>
    obtain ⟨x, y, rfl⟩ := tup2 ht
    cases x <;> first | (simp [ec, eb, wholeV, spanV]; done) | skip
    cases y <;> first | (simp [ec, eb, wholeV, spanV]; done) | skip
    simp [ec, eb, wholeV, spanV, ea]
def upV2 (cs ss : List Pr) (k : Int) (v : Vv) (b : Bool) : Prop := b = true ↔ (∃ ts, v = .tup [.str YES, .tup (ts.map tkE)] ∧ fillB cs ss k ts = true) ∨ ∃ x y, v = .tup [.str NO, .tup [.int x, .int y]] ∧ shortB cs ss k x y = true
def Sml (v : Vv) : Prop := ∀ w xs, v = .tup [w, .tup xs] → xs.length < 2 ^ 60
def S_upholds2 (F : FnsV) (i : Nat) : Prop := ∀ cs ss k v b, StOk cs ss k → Wd v → Sml v → upV2 cs ss k v b → F i [stk cs ss k, v] = .ok (.bl b) []
theorem upholds2_s {P : PrV} {f a b c d : Nat} (hf : P.fns[f]? = some (f_upholds_stock a b c d)) (ha : Sp P a 3 S_shortage) (hb : Sp P b 4 S_fills) (hc : Sp P c 2 S_is_answer) (hd : Sp P d 4 S_check_stock) : Sp P f 5 S_upholds2 := .mk fun n hn cs ss k v b ok fit hs hv => by
  have lc := ok.lc
  have ls := ok.ls
  have ea := fun v => ha n (by omega) cs ss k v (by omega) (by omega)
  have eb := fun v b => hb n (by omega) cs ss k v b (by omega) (by omega)
  have ec := hc n (by omega) v fit
  have ed := hd n (by omega) cs ss k ok
  refine call_is hf rfl rfl ?_
  simp only [c_upholds_stock, startV]
  refine W_cons ?_
  simp [ed]
  refine W_cons ?_
  unfold upV2 at hv
  cases hans : ansV v with
  | false =>
    have : b = false := by
      cases b with
      | false => rfl
      | true =>
        rcases hv.mp rfl with ⟨ts, e, _⟩ | ⟨x, y, e, _⟩
        · rw [e] at hans; simp [ansV] at hans
        · rw [e] at hans; simp [ansV] at hans
    simp [ec, hans, this]
  | true =>
    unfold ansV at hans
    split at hans
    · rename_i w p
      simp [ec, ansV]
      rw [Bool.or_eq_true, decide_eq_true_eq, decide_eq_true_eq] at hans
      have e1 : ∀ z : Str, PyData.strOk z = true → eqV (.str z) (.str YES) = some (decide (z = YES)) := fun z hz => eq_str hz yes_ok
      rcases hans with rfl | rfl
      · have hf2 : fillsV cs ss k p b := by
          unfold fillsV
          rw [hv]
          constructor
          · rintro (⟨ts, e, q⟩ | ⟨x, y, e, _⟩)
            · cases e; exact ⟨ts, rfl, q⟩
            · have := (Vv.tup.inj e)
              simp at this
              exact (no_ne this.1.symm).elim
          · rintro ⟨ts, rfl, q⟩
            exact .inl ⟨ts, rfl, q⟩
        have e2 := eb p b (fun xs e => hs _ xs (by rw [e])) hf2
        refine W_cons ?_
        simp [yes_eq, e1 YES yes_ok, e2]
      · have hb2 : b = spanV cs ss k p := by
          rw [Bool.eq_iff_iff, hv]
          constructor
          · rintro (⟨ts, e, q⟩ | ⟨x, y, e, q⟩)
            · have := (Vv.tup.inj e)
              simp at this
              exact (no_ne this.1).elim
            · cases e; exact q
          · intro q
            unfold spanV at q
            split at q
            · exact .inr ⟨_, _, rfl, q⟩
            · cases q
        have e2 := ea p
        rw [← hb2] at e2
        simp [no_ne]
        refine W_cons ?_
        simp [yes_eq, e1 NO no_ok, no_ne, e2]
    · cases hans
end Core
end
section
set_option autoImplicit false
set_option maxRecDepth 100000
/-! k74, k75: the drawn numbers and subjects over values (own work). -/
namespace Core
open PySem PI PV
theorem numbers_b0 {P : PrV} {n : Nat} {rs ns : List Int} {st : Int} {k : Nat} {v0 v1 v6 v7 : Option Vv} (hr : ∀ r ∈ rs, 0 ≤ r) (hl : ns.length < 1000) (hs0 : 0 ≤ st) (hs1 : st < 2147483647) (hk : k < 1000) :
    W (vSs (callV P n) P.sub c__law_numbers_b0 [v0, v1, some (.lst (rs.map .int)), some (.lst (ns.map .int)), some (.int st), some (.int k), v6, v7])
      (fun f w => f = .nx ∧ ∃ (rs' : List Int) (x st' : Int) (w6 w7 : Option Vv), (∀ r ∈ rs', 0 ≤ r) ∧ 0 ≤ x ∧ x < 1000000 ∧ 0 ≤ st' ∧ st' < 2147483647 ∧ w = [v0, v1, some (.lst (rs'.map .int)), some (.lst ((ns ++ [x]).map .int)), some (.int st'), some (.int k), w6, w7]) noE := by
  simp only [c__law_numbers_b0]
  refine W_cons ?_
  simp
  refine W_cons ?_
  simp
  refine W_cons ?_
  refine (show W _ (fun f w => f = .nx ∧ ∃ (cell : Int) (at_ : Nat), 0 ≤ cell ∧ (1000000000000000000 ≤ cell → at_ < rs.length) ∧ w = [v0, v1, some (.lst (rs.map .int)), some (.lst (ns.map .int)), some (.int st), some (.int k), some (.int cell), some (.int at_)]) noE from ?body).imp ?_ (fun _ z => z)
  case body =>
    by_cases h0 : 0 < rs.length
    · have hm : ((k : Int) % (rs.length : Int)) = ((k % rs.length : Nat) : Int) := by omega
      have hlt := Nat.mod_lt k h0
      have ix := at_map (enc := Vv.int) hlt
      rw [← hm] at ix
      simp [h0, ss_cons, ix]
      exact ⟨_, hr _ (List.getElem_mem hlt), k % rs.length, fun _ => hlt, rfl, hm⟩
    · simp [h0]
      exact ⟨0, by simp; exact ⟨0, rfl⟩⟩
  rintro f w ⟨rfl, cell, at_, hc0, hat, rfl⟩
  simp only [onF_nx]
  by_cases hb : 1000000000000000000 ≤ cell
  · have ixn : L2.ixN rs.length (at_ : Int) = some at_ := ixN_nat (hat hb)
    have lg : Nat.log2 1000000 < 9000 := log2_lt (by decide) (Nat.lt_of_lt_of_le (show 1000000 < 2 ^ 20 by decide) (by decide))
    have hn : ns.length < 16777216 := by omega
    have m1 := Int.emod_nonneg cell (b := 1000000) (by decide)
    have m2 := Int.emod_lt_of_pos cell (b := 1000000) (by decide)
    simp [hb, ss_cons, hn, ixn, lg]
    refine ⟨rs.set at_ (cell / 1000000), fun r hr' => ?_, cell % 1000000, m1, m2, st, hs0, hs1, by simp [List.map_set]⟩
    rcases List.mem_or_eq_of_mem_set hr' with z | z
    · exact hr r z
    · subst z; exact Int.ediv_nonneg hc0 (by decide)
  · have hb' : cell < 1000000000000000000 := by omega
    have hn : ns.length < 16777216 := by omega
    have x1 : mulOk st st = true := mul_ok (Nat.lt_of_lt_of_le (show st.natAbs < 2 ^ 31 by omega) (by decide)) (Nat.lt_of_lt_of_le (show st.natAbs < 2 ^ 31 by omega) (by decide))
    have x2 : mulOk cell 69621 = true := mul_ok (Nat.lt_of_lt_of_le (show cell.natAbs < 2 ^ 60 by omega) (by decide)) (by decide)
    have x3 : mulOk (k : Int) 48271 = true := mul_ok (Nat.lt_of_lt_of_le (show (k : Int).natAbs < 2 ^ 20 by omega) (by decide)) (by decide)
    have lg : Nat.log2 97 < 9000 := log2_lt (by decide) (Nat.lt_of_lt_of_le (show 97 < 2 ^ 20 by decide) (by decide))
    have m1 := Int.emod_nonneg (st * st + cell * 69621 + k * 48271 + 11) (b := 2147483647) (by decide)
    have m2 := Int.emod_lt_of_pos (st * st + cell * 69621 + k * 48271 + 11) (b := 2147483647) (by decide)
    generalize hst : (st * st + cell * 69621 + k * 48271 + 11) % 2147483647 = st' at m1 m2
    have m3 := Int.emod_nonneg (st' / 97) (b := 1000000) (by decide)
    have m4 := Int.emod_lt_of_pos (st' / 97) (b := 1000000) (by decide)
    simp [hb, ss_cons, hn, x1, x2, x3, lg, hst]
    exact ⟨rs, hr, st' / 97 % 1000000, m3, m4, st', m1, m2, by simp⟩
def S_numbers (F : FnsV) (i : Nat) : Prop := ∀ (sc : List Int) (c : Nat), c < 1000 → ∃ ns : List Int, F i [.ro (sc.map .int), .int c] = .ok (.lst (ns.map .int)) [] ∧ ns.length = c ∧ ∀ x ∈ ns, 0 ≤ x ∧ x < 1000000
theorem numbers_s {P : PrV} {f : Nat} (hf : P.fns[f]? = some f__law_numbers) : Sp P f 1 S_numbers := .mk fun n hn sc c hc => by
  suffices h : W (callV P (n + 1) f [.ro (sc.map .int), .int c]) (fun d os => os = [] ∧ ∃ ns : List Int, d = .lst (ns.map .int) ∧ ns.length = c ∧ ∀ x ∈ ns, 0 ≤ x ∧ x < 1000000) noE by
    obtain ⟨d, os, e, rfl, ns, rfl, h1⟩ := h.eq
    exact ⟨ns, e, h1⟩
  refine W_call hf rfl ?_
  simp only [c__law_numbers, startV]
  have ct : cutL (sc.map Vv.int) none (some 63) = (sc.take 63).map .int := by
    have : cutL (sc.map Vv.int) none (some 63) = (sc.map Vv.int).take 63 := by
      unfold cutL HT.sIx
      simp
    rw [this, List.map_take]
  have l63 : (sc.take 63).length ≤ 63 := by rw [List.length_take]; omega
  have sr : slV (.ro (sc.map .int)) none (some 63) = some (.lst ((sc.take 63).map .int)) := by
    show g1 _ _ = _
    rw [ct]
    exact g1_pos (by rw [List.length_map]; exact Nat.le_trans l63 (by decide))
  refine W_cons ?_
  simp only [s_asg, e_lc0, it_seq, e_sl, e_var, e_lit, o_none, o_some, getW_eq, List.cons_append, List.nil_append, List.map_cons, List.map_nil, List.getElem?_cons_zero, Option.bind_some, id, op_some, bd_ok, Lv_int, isI_int, sr, itS_lst]
  simp only [W_bd]
  refine W_map (fun x : Int => .int (if x < 0 then -x else x)) (fun w => ∃ o, w = [some (.ro (sc.map .int)), some (.int c), none, none, none, none, o, none]) ⟨none, rfl⟩ (Nat.le_trans l63 (by decide)) ?_ ?_
  · rintro x hx w ⟨o, rfl⟩
    simp
  · rintro w ⟨o, rfl⟩
    have em : (sc.take 63).map (fun x : Int => Vv.int (if x < 0 then -x else x)) = ((sc.take 63).map fun x : Int => if x < 0 then -x else x).map Vv.int := by rw [List.map_map]; rfl
    rw [em]
    simp
    refine W_cons ?_
    simp
    refine W_cons ?_
    simp
    refine W_cons ?_
    simp [isr_nat (show c < 2 ^ 61 by omega), rng0]
    refine W_for (fun i w => ∃ (rs ns : List Int) (st : Int) (w5 w6 w7 : Option Vv), (∀ r ∈ rs, 0 ≤ r) ∧ ns.length = i ∧ (∀ x ∈ ns, 0 ≤ x ∧ x < 1000000) ∧ 0 ≤ st ∧ st < 2147483647 ∧ w = [some (.ro (sc.map .int)), some (.int c), some (.lst (rs.map .int)), some (.lst (ns.map .int)), some (.int st), w5, w6, w7]) ⟨(sc.take 63).map fun x : Int => if x < 0 then -x else x, [], 88172645, none, none, none, ?_, rfl, by simp, by decide, by decide, by simp⟩ ?_ ?_
    · intro r hr
      obtain ⟨x, _, rfl⟩ := List.mem_map.mp hr
      split <;> omega
    · rintro i k w ek ⟨rs, ns, st, w5, w6, w7, hr, hl, hx, h0, h1, rfl⟩
      have hk : i < c ∧ k = i := by
        obtain ⟨q1, q2⟩ := List.getElem?_eq_some_iff.mp ek
        rw [List.getElem_range] at q2
        exact ⟨by simpa using q1, q2.symm⟩
      obtain ⟨hk, rfl⟩ := hk
      refine (numbers_b0 (k := k) (ns := ns) (v6 := w6) (v7 := w7) hr (by omega) h0 h1 (by omega)).imp ?_ (fun _ z => z)
      rintro f w ⟨rfl, rs', x, st', u6, u7, y1, y2, y3, y4, y5, rfl⟩
      refine ⟨rs', ns ++ [x], st', _, u6, u7, y1, by simp [hl], fun z hz => ?_, y4, y5, rfl⟩
      rcases List.mem_append.mp hz with q | q
      · exact hx z q
      · simp at q; subst q; exact ⟨y2, y3⟩
    · rintro w ⟨rs, ns, st, w5, w6, w7, hr, hl, hx, h0, h1, rfl⟩
      simp at hl
      simp
      exact ⟨ns, rfl, hl, hx⟩
def S_lpairs (F : FnsV) (i : Nat) : Prop := ∀ (ns : List Int) (m : Nat) (b w z : Int), m ≤ ns.length → m ≤ 16 → (∀ x ∈ ns, 0 ≤ x ∧ x < 1000000) → 0 ≤ b → b ≤ 5000 → 0 < w → w ≤ 100 → 0 < z → z ≤ 1000 → ∃ ps : List Pr, F i [.lst (ns.map .int), .int m, .int b, .int w, .int z] = .ok (.tup (ps.map prE)) [] ∧ ps.length = m ∧ ∀ p ∈ ps, prOk p
theorem lpairs_s {P : PrV} {f : Nat} (hf : P.fns[f]? = some f__law_pairs_2) : Sp P f 1 S_lpairs := .mk fun n hn ns m b w z hm h16 hns b0 b1 w0 w1 z0 z1 => by
  suffices h : W (callV P (n + 1) f [.lst (ns.map .int), .int m, .int b, .int w, .int z]) (fun d os => os = [] ∧ ∃ ps : List Pr, d = .tup (ps.map prE) ∧ ps.length = m ∧ ∀ p ∈ ps, prOk p) noE by
    obtain ⟨d, os, e, rfl, ns, rfl, h1⟩ := h.eq
    exact ⟨ns, e, h1⟩
  refine W_call hf rfl ?_
  simp only [c__law_pairs_2, startV]
  refine W_cons ?_
  simp
  refine W_cons ?_
  simp [isr_nat (show m < 2 ^ 61 by omega), rng0]
  refine W_for (fun i u => ∃ (ps : List Pr) (w6 w7 w8 : Option Vv), ps.length = i ∧ (∀ p ∈ ps, prOk p) ∧ u = [some (.lst (ns.map .int)), some (.int m), some (.int b), some (.int w), some (.int z), some (.lst (ps.map prE)), w6, w7, w8]) ⟨[], none, none, none, rfl, by simp, rfl⟩ ?_ ?_
  · rintro i k u ek ⟨ps, w6, w7, w8, hl, hp, rfl⟩
    have hk : i < m ∧ k = i := by
      obtain ⟨q1, q2⟩ := List.getElem?_eq_some_iff.mp ek
      rw [List.getElem_range] at q2
      exact ⟨by simpa using q1, q2.symm⟩
    obtain ⟨hk, rfl⟩ := hk
    have hkn : k < ns.length := by omega
    have ix := at_map (enc := Vv.int) hkn
    obtain ⟨x0, x1⟩ := hns _ (List.getElem_mem hkn)
    generalize hx : ns[k] = x at ix x0 x1
    have lg1 : Nat.log2 64 < 9000 := log2_lt (by decide) (Nat.lt_of_lt_of_le (show 64 < 2 ^ 20 by decide) (by decide))
    have lg2 : Nat.log2 16384 < 9000 := log2_lt (by decide) (Nat.lt_of_lt_of_le (show 16384 < 2 ^ 20 by decide) (by decide))
    have m1 := Int.emod_nonneg x (b := w) (by omega)
    have m2 := Int.emod_lt_of_pos x (b := w) w0
    have m3 := Int.emod_nonneg (x / 64) (b := z) (by omega)
    have m4 := Int.emod_lt_of_pos (x / 64) (b := z) z0
    have hpl : ps.length < 16777216 := by omega
    simp only [c__law_pairs_2_b0]
    refine W_cons ?_
    simp [ix, w0]
    refine W_cons ?_
    simp [ix, z0, lg1]
    generalize hd : (if b + x % w < 5000 then b + x % w else 5000) = day
    have d0 : 0 ≤ day ∧ day ≤ 5000 := by rw [← hd]; split <;> omega
    refine W_cons ?_
    have fin : ∀ q : Int, 1 ≤ q → q ≤ 100000 → ∃ ps' : List Pr, ps'.length = k + 1 ∧ (∀ p ∈ ps', prOk p) ∧ ps.map prE ++ [Vv.tup [.int day, .int q]] = ps'.map prE := fun q q1 q2 => ⟨ps ++ [(day, q)], by simp [hl], fun p hp' => by
      rcases List.mem_append.mp hp' with y | y
      · exact hp p y
      · simp at y; subst y; exact ⟨d0.1, d0.2, q1, q2⟩, by simp [prE]⟩
    by_cases h24 : x / 16384 % 24 = 0
    · simp [lg2, h24, ix, hpl]
      have m5 := Int.emod_nonneg x (b := 2) (by decide)
      have m6 := Int.emod_lt_of_pos x (b := 2) (by decide)
      obtain ⟨ps', y1, y2, y3⟩ := fin (100000 - x % 2) (by omega) (by omega)
      exact ⟨ps', y1, fun a b h => y2 (a, b) h, y3⟩
    · simp [lg2, h24, ix, hpl]
      obtain ⟨ps', y1, y2, y3⟩ := fin (1 + x / 64 % z) (by omega) (by omega)
      exact ⟨ps', y1, fun a b h => y2 (a, b) h, y3⟩
  · rintro u ⟨ps, w6, w7, w8, hl, hp, rfl⟩
    simp at hl
    have : ps.length ≤ 16777216 := by omega
    simp [this]
    exact ⟨ps, rfl, hl, fun a b h => hp (a, b) h⟩
end Core
end
section
set_option autoImplicit false
set_option maxRecDepth 100000
/-! k74, k75: _law_subject over values (own work). -/
namespace Core
open PySem PI PV
theorem pick {xs : List Int} {x : Int} {k : Nat} (hk : xs.length = k) (h0 : 0 < k) : ∃ y ∈ xs, L2.atI (xs.map Vv.int) (x % (k : Int)) = some (.int y) := by
  have m1 := Int.emod_nonneg x (b := (k : Int)) (by omega)
  have m2 := Int.emod_lt_of_pos x (b := (k : Int)) (by omega)
  obtain ⟨r, hr⟩ : ∃ r : Nat, x % (k : Int) = r := ⟨(x % (k : Int)).toNat, by omega⟩
  have hr' : r < xs.length := by omega
  rw [hr]
  exact ⟨xs[r], List.getElem_mem hr', at_map hr'⟩
theorem cut_mid {α : Type} {xs : List α} {a b : Nat} (h : b ≤ xs.length) (hab : a ≤ b) : cutL xs (some (a : Int)) (some (b : Int)) = (xs.drop a).take (b - a) := by
  unfold cutL
  rw [HT.sIx_nat, HT.sIx_nat, Nat.min_eq_left h, Nat.min_eq_left (show a ≤ xs.length by omega)]
def S_lsub (F : FnsV) (i : Nat) : Prop := ∀ ns : List Int, ns.length = 60 → (∀ x ∈ ns, 0 ≤ x ∧ x < 1000000) → ∃ cs ss k, F i [.lst (ns.map .int)] = .ok (stk cs ss k) [] ∧ StOk cs ss k
theorem lsub_s {P : PrV} {f a : Nat} (hf : P.fns[f]? = some (f__law_subject a)) (ha : Sp P a 1 S_lpairs) : Sp P f 2 S_lsub := .mk fun n hn ns hl hns => by
  have ea := ha n (by omega)
  suffices h : W (callV P (n + 1) f [.lst (ns.map .int)]) (fun d os => os = [] ∧ ∃ cs ss k, d = stk cs ss k ∧ StOk cs ss k) noE by
    obtain ⟨d, os, e, rfl, cs, ss, k, rfl, h1⟩ := h.eq
    exact ⟨cs, ss, k, e, h1⟩
  refine W_call hf rfl ?_
  have get : ∀ j : Nat, j < 60 → ∃ x : Int, (ns.map Vv.int)[j]? = some (.int x) ∧ L2.atI (ns.map Vv.int) (j : Int) = some (.int x) ∧ 0 ≤ x ∧ x < 1000000 := fun j hj => by
    have hj' : j < ns.length := by omega
    obtain ⟨y0, y1⟩ := hns _ (List.getElem_mem hj')
    exact ⟨ns[j], by rw [List.getElem?_map, List.getElem?_eq_getElem hj']; rfl, at_map hj', y0, y1⟩
  obtain ⟨x0, a0, _, p0, q0⟩ := get 0 (by omega)
  obtain ⟨x1, a1, _, p1, q1⟩ := get 1 (by omega)
  obtain ⟨x2, a2, _, p2, q2⟩ := get 2 (by omega)
  obtain ⟨x3, a3, _, p3, q3⟩ := get 3 (by omega)
  obtain ⟨x4, _, a4, p4, q4⟩ := get 4 (by omega)
  obtain ⟨x5, _, a5, p5, q5⟩ := get 5 (by omega)
  have a4 : L2.atI (ns.map Vv.int) 4 = some (.int x4) := a4
  have a5 : L2.atI (ns.map Vv.int) 5 = some (.int x5) := a5
  have c1 : cutL (ns.map Vv.int) (some 10) (some 26) = ((ns.drop 10).take 16).map .int := by
    have := cut_mid (xs := ns.map Vv.int) (a := 10) (b := 26) (by simp [hl]) (by omega)
    rw [List.map_take, List.map_drop]
    exact this
  have c2 : cutL (ns.map Vv.int) (some 26) (some 42) = ((ns.drop 26).take 16).map .int := by
    have := cut_mid (xs := ns.map Vv.int) (a := 26) (b := 42) (by simp [hl]) (by omega)
    rw [List.map_take, List.map_drop]
    exact this
  have l1 : ((ns.drop 10).take 16).length = 16 := by simp [hl]
  have l2 : ((ns.drop 26).take 16).length = 16 := by simp [hl]
  have m1 : ∀ x ∈ (ns.drop 10).take 16, 0 ≤ x ∧ x < 1000000 := fun x hx => hns x (List.mem_of_mem_drop (List.mem_of_mem_take hx))
  have m2 : ∀ x ∈ (ns.drop 26).take 16, 0 ≤ x ∧ x < 1000000 := fun x hx => hns x (List.mem_of_mem_drop (List.mem_of_mem_take hx))
  generalize (ns.drop 10).take 16 = n1 at c1 l1 m1
  generalize (ns.drop 26).take 16 = n2 at c2 l2 m2
  generalize ns.map Vv.int = L at *
  have lg : ∀ k : Nat, 0 < k → k < 2 ^ 20 → Nat.log2 k < 9000 := fun k _ hk => log2_lt (by decide) (Nat.lt_of_lt_of_le hk (by decide))
  have g4 := lg 4 (by decide) (by decide)
  have g64 := lg 64 (by decide) (by decide)
  have g512 := lg 512 (by decide) (by decide)
  have g16 := lg 16 (by decide) (by decide)
  obtain ⟨wd, hwd, ew⟩ := pick (xs := [3, 8, 30]) (x := x0) (k := 3) rfl (by decide)
  obtain ⟨b2, hb2, eb2⟩ := pick (xs := [0, 4990]) (x := x1 / 4) (k := 2) rfl (by decide)
  obtain ⟨k2, hk2, ek2⟩ := pick (xs := [0, 5000]) (x := x2 / 512) (k := 2) rfl (by decide)
  obtain ⟨sz, hsz, esz⟩ := pick (xs := [4, 20, 60]) (x := x5) (k := 3) rfl (by decide)
  simp at hwd hb2 hk2 hsz
  simp only [List.map_cons, List.map_nil] at ew eb2 ek2 esz
  have ew : L2.atI [Vv.int 3, .int 8, .int 30] (x0 % 3) = some (.int wd) := ew
  have eb2 : L2.atI [Vv.int 0, .int 4990] (x1 / 4 % 2) = some (.int b2) := eb2
  have ek2 : L2.atI [Vv.int 0, .int 5000] (x2 / 512 % 2) = some (.int k2) := ek2
  have esz : L2.atI [Vv.int 4, .int 20, .int 60] (x5 % 3) = some (.int sz) := esz
  have w0 : 0 < wd ∧ wd ≤ 30 := by omega
  simp only [c__law_subject, startV]
  refine W_cons ?_
  simp [a0, ew]
  refine W_cons ?_
  simp [a1, g4]
  refine W_cons ?_
  refine (show W _ (fun f w => f = .nx ∧ ∃ b : Int, 0 ≤ b ∧ b ≤ 5000 ∧ w = [some (.lst L), some (.int wd), some (.int b), none, none, none, none, none, none]) noE from ?body).imp ?_ (fun _ z => z)
  case body =>
    by_cases h : x1 % 4 = 0
    · simp [a1, h, g4, eb2]
      omega
    · have y1 := Int.emod_nonneg (x1 / 4) (b := 5001) (by decide)
      have y2 := Int.emod_lt_of_pos (x1 / 4) (b := 5001) (by decide)
      simp [a1, h, g4]
      omega
  rintro f w ⟨rfl, b, b0, b1, rfl⟩
  simp only [onF_nx]
  refine W_cons ?_
  have w2 : 0 < wd + 2 := by omega
  simp [a2, w2]
  refine W_cons ?_
  refine (show W _ (fun f w => f = .nx ∧ ∃ k : Int, 0 ≤ k ∧ k ≤ 5000 ∧ w = [some (.lst L), some (.int wd), some (.int b), some (.int k), none, none, none, none, none]) noE from ?body2).imp ?_ (fun _ z => z)
  case body2 =>
    by_cases h : x2 / 64 % 8 = 0
    · simp [a2, h, g64, g512, ek2]
      omega
    · have y1 := Int.emod_nonneg x2 (b := wd + 2) (by omega)
      have y2 := Int.emod_lt_of_pos x2 (b := wd + 2) (by omega)
      simp [a2, h, g64]
      omega
  rintro f w ⟨rfl, k, k0, k1, rfl⟩
  simp only [onF_nx]
  have y1 := Int.emod_nonneg x3 (b := 17) (by decide)
  have y2 := Int.emod_lt_of_pos x3 (b := 17) (by decide)
  obtain ⟨mn, hmn⟩ : ∃ m : Nat, x3 % 17 = m := ⟨(x3 % 17).toNat, by omega⟩
  have y3 := Int.emod_nonneg x4 (b := 9) (by decide)
  have y4 := Int.emod_lt_of_pos x4 (b := 9) (by decide)
  obtain ⟨sd, hsd⟩ : ∃ m : Nat, x4 % 9 = m := ⟨(x4 % 9).toNat, by omega⟩
  refine W_cons ?_
  simp [a3, hmn]
  refine W_cons ?_
  simp [a4, hsd]
  refine W_cons ?_
  refine (show W _ (fun f w => f = .nx ∧ ∃ s : Nat, s ≤ 16 ∧ w = [some (.lst L), some (.int wd), some (.int b), some (.int k), some (.int mn), some (.int s), none, none, none]) noE from ?body3).imp ?_ (fun _ z => z)
  case body3 =>
    by_cases h : x4 / 16 % 6 = 0
    · simp [a4, h, g16]
      exact ⟨16, by omega, rfl⟩
    · simp [a4, h, g16]
      exact ⟨sd, by omega, rfl⟩
  rintro f w ⟨rfl, s, s16, rfl⟩
  simp only [onF_nx]
  refine W_cons ?_
  simp [a5, esz]
  have s0 : 0 < sz ∧ sz ≤ 60 := by omega
  obtain ⟨cs, e1, hc1, hc2⟩ := ea n1 mn b wd sz (by omega) (by omega) m1 b0 b1 w0.1 (by omega) s0.1 (by omega)
  refine W_cons ?_
  simp [c1, l1, e1]
  have y5 := Int.emod_nonneg (x5 / 4) (b := 4) (by decide)
  have y6 := Int.emod_lt_of_pos (x5 / 4) (b := 4) (by decide)
  have dz : 0 ≤ sz / (1 + x5 / 4 % 4) ∧ sz / (1 + x5 / 4 % 4) ≤ 60 := ⟨Int.ediv_nonneg (by omega) (by omega), Int.le_trans (Int.ediv_le_self _ (by omega)) (by omega)⟩
  obtain ⟨ss, e2, hs1, hs2⟩ := ea n2 s b wd (1 + sz / (1 + x5 / 4 % 4)) (by omega) (by omega) m2 b0 b1 w0.1 (by omega) (by omega) (by omega)
  have gq : (0 : Int) < 1 + x5 / 4 % 4 := by omega
  have gq2 : (1 + x5 / 4 % 4).natAbs.log2 < 9000 := lg _ (by omega) (by omega)
  refine W_cons ?_
  simp [c2, l2, a5, g4, gq, gq2, e2]
  exact ⟨cs, ss, k, rfl, by omega, by omega, hc2, hs2, k0, k1⟩
end Core
end
section
set_option autoImplicit false
set_option maxRecDepth 100000
/-! k74: _law_same, _law_short, _law_is_filling over values (own work). -/
namespace Core
open PySem PI PV
def S_sameB (F : FnsV) (i : Nat) : Prop := ∀ a b : Bool, F i [.bl a, .bl b] = .ok (.bl (decide (a = b))) []
theorem same2_s {P : PrV} {f a : Nat} (hf : P.fns[f]? = some (f__law_same_2 a)) : Sp P f 1 S_sameB := .mk fun n hn a b => by
  refine call_is hf rfl rfl ?_
  simp [c__law_same_2, startV, ss_cons]
theorem lshort_s {P : PrV} {f : Nat} (hf : P.fns[f]? = some f__law_short) : Sp P f 1 S_short := .mk fun n hn cs ss k a b h1 h2 => by
  refine call_is hf rfl rfl ?_
  simp only [c__law_short, startV, stk]
  refine W_cons ?_
  simp
  refine W_cons ?_
  simp
  refine W_comp (fun p : Pr => if (decide (a ≤ p.1 - k) && decide (p.1 ≤ b)) = true then some (.int p.2) else none) (fun w => ∃ o1 o2, w = [some (.tup [.tup (cs.map prE), .tup (ss.map prE), .int k]), some (.int a), some (.int b), none, some (.tup (cs.map prE)), some (.tup (ss.map prE)), some (.int k), o1, o2]) ⟨_, _, rfl⟩ (by simp; omega) ?_ ?_
  · rintro p hp w ⟨o1, o2, rfl⟩
    by_cases q1 : a ≤ p.1 - k
    · by_cases q2 : p.1 ≤ b <;> simp [prE, q1, q2]
    · by_cases q2 : p.1 ≤ b <;> simp [prE, q1, q2]
  · rintro w ⟨o1, o2, rfl⟩
    rw [filterMap_if, map_int2]
    simp only [bk_cons, bk_nil, b1_sum, op_some, W_ok, slotsG_tup, slotsGs_cons, slotsGs_nil, slotsG_name, List.append_nil, List.cons_append, List.nil_append]
    simp
    refine W_comp (fun p : Pr => if (decide (a ≤ p.1) && decide (p.1 ≤ b)) = true then some (.int p.2) else none) (fun w => ∃ o1 o2, w = [some (.tup [.tup (cs.map prE), .tup (ss.map prE), .int k]), some (.int a), some (.int b), some (.int (dueN ss k a b)), some (.tup (cs.map prE)), some (.tup (ss.map prE)), some (.int k), o1, o2]) ⟨none, none, by simp [dueN]⟩ (by simp; omega) ?_ ?_
    · rintro p hp w ⟨o1, o2, rfl⟩
      by_cases q1 : a ≤ p.1
      · by_cases q2 : p.1 ≤ b <;> simp [prE, q1, q2]
      · simp [prE, q1]
    · rintro w ⟨o1, o2, rfl⟩
      rw [filterMap_if, map_int2]
      simp only [b1_sum, op_some, W_ok]
      simp [shortB, castN, dueN] <;> rfl
/-! ### _law_is_filling -/
def OrdTo (ts : List Tk) (i : Nat) : Prop := ∀ j, j + 1 < i → tkLt (tkAt ts j) (tkAt ts (j + 1)) = true
theorem ord_iff {ts : List Tk} : OrdTo ts ts.length ↔ ordB ts = true := by
  unfold OrdTo ordB
  rw [List.all_eq_true]
  constructor
  · intro h j hj
    have := List.mem_range.mp hj
    exact h j (by omega)
  · intro h j hj
    exact h j (List.mem_range.mpr (by omega))
def S_isfill (F : FnsV) (i : Nat) : Prop := ∀ (cs ss : List Pr) (k : Int) (ts : List Tk), cs.length ≤ 1000 → ss.length ≤ 1000 → ts.length < 2 ^ 60 → F i [stk cs ss k, .tup (ts.map tkE)] = .ok (.bl (fillB cs ss k ts)) []
theorem isfill_s {P : PrV} {f : Nat} (hf : P.fns[f]? = some f__law_is_filling) : Sp P f 1 S_isfill := .mk fun n hn cs ss k ts h1 h2 h3 => by
  refine call_is hf rfl rfl ?_
  simp only [c__law_is_filling, startV, stk]
  refine W_cons ?_
  simp
  have z0 : ∀ (l : List Pr) (p : Nat), l.map (fun _ => Vv.int 0) = (sumsL (plc p) [] l.length).map .int := fun l p => by
    rw [sumsL_nil, List.map_replicate]
    refine List.ext_getElem (by simp) fun i h1 h2 => ?_
    simp
  refine W_cons ?_
  simp
  refine W_map (fun _ : Pr => .int 0) (fun w => ∃ o, w = [some (.tup [.tup (cs.map prE), .tup (ss.map prE), .int k]), some (.tup (ts.map tkE)), none, none, none, none, some (.tup (cs.map prE)), some (.tup (ss.map prE)), some (.int k), o, none, none, none, none]) ⟨_, rfl⟩ (by simp; omega) (by rintro p hp w ⟨o, rfl⟩; simp) ?_
  rintro w ⟨o, rfl⟩
  rw [z0 cs 0]
  simp
  refine W_cons ?_
  simp
  refine W_map (fun _ : Pr => .int 0) (fun w => ∃ o, w = [some (.tup [.tup (cs.map prE), .tup (ss.map prE), .int k]), some (.tup (ts.map tkE)), some (.lst ((sumsL (plc 0) [] cs.length).map .int)), none, none, none, some (.tup (cs.map prE)), some (.tup (ss.map prE)), some (.int k), o, none, none, none, none]) ⟨none, by simp⟩ (by simp; omega) (by rintro p hp w ⟨o, rfl⟩; simp) ?_
  rintro w ⟨o, rfl⟩
  rw [z0 ss 1]
  simp
  refine W_cons ?_
  simp [isr_nat (show ts.length < 2 ^ 61 by omega), rng0]
  refine W_for (fun i w => (∃ w4 w10 w11 w12, w = [some (.tup [.tup (cs.map prE), .tup (ss.map prE), .int k]), some (.tup (ts.map tkE)), some (.lst ((sumsL (plc 0) (ts.take i) cs.length).map .int)), some (.lst ((sumsL (plc 1) (ts.take i) ss.length).map .int)), w4, none, some (.tup (cs.map prE)), some (.tup (ss.map prE)), some (.int k), none, w10, w11, w12, none]) ∧ (∀ t ∈ ts.take i, takeB cs ss k t = true) ∧ OrdTo ts i) ⟨⟨none, none, none, none, by simp⟩, by simp, fun j hj => absurd hj (by omega)⟩ ?_ ?_
  · rintro i q w eq ⟨⟨w4, w10, w11, w12, rfl⟩, hT, hO⟩
    have hi : i < ts.length ∧ q = i := by
      obtain ⟨q1, q2⟩ := List.getElem?_eq_some_iff.mp eq
      rw [List.getElem_range] at q2
      exact ⟨by simpa using q1, q2.symm⟩
    obtain ⟨hi, rfl⟩ := hi
    have ix := tk_at hi
    have hmem : tkAt ts q ∈ ts := by
      unfold tkAt
      rw [List.getD_eq_getElem?_getD, List.getElem?_eq_getElem hi]
      exact List.getElem_mem hi
    have et : ts.take (q + 1) = ts.take q ++ [tkAt ts q] := by
      rw [List.take_succ, List.getElem?_eq_getElem hi]
      unfold tkAt
      rw [List.getD_eq_getElem?_getD, List.getElem?_eq_getElem hi]
      rfl
    have bad : takeB cs ss k (tkAt ts q) = false → fillB cs ss k ts = false := fun h => by
      have : ts.all (takeB cs ss k) = false := List.all_eq_false.mpr ⟨_, hmem, by simp [h]⟩
      unfold fillB
      rw [this]
      rfl
    obtain ⟨⟨c, s, m⟩, htk⟩ : ∃ t : Tk, tkAt ts q = t := ⟨_, rfl⟩
    rw [htk] at ix et bad hmem
    simp only [c__law_is_filling_b1]
    refine W_cons ?_
    simp [ix, tkE]
    refine W_cons ?_
    by_cases c0 : c < 0
    · have := bad (by simp [takeB]; omega)
      simp [c0, this]
    by_cases c1 : (cs.length : Int) ≤ c
    · have := bad (by simp [takeB]; omega)
      simp [c0, c1, this]
    by_cases s0 : s < 0
    · have := bad (by simp [takeB]; omega)
      simp [c0, c1, s0, this]
    by_cases s1 : (ss.length : Int) ≤ s
    · have := bad (by simp [takeB]; omega)
      simp [c0, c1, s0, s1, this]
    by_cases m1 : m < 1
    · have := bad (by simp [takeB]; omega)
      simp [c0, c1, s0, s1, m1, this]
    have k1 : 0 ≤ c ∧ c < cs.length := by omega
    have k2 : 0 ≤ s ∧ s < ss.length := by omega
    have k3 : 1 ≤ m := by omega
    have p1 := pr_at k1.1 k1.2
    have p2 := pr_at k2.1 k2.2
    simp [c0, c1, s0, s1, m1]
    refine W_cons ?_
    by_cases d1 : (prAt ss s).1 < (prAt cs c).1
    · have := bad (by simp [takeB]; omega)
      simp [p1, p2, prE, d1, this]
    by_cases d2 : (prAt cs c).1 < (prAt ss s).1 - k
    · have := bad (by simp [takeB]; omega)
      simp [p1, p2, prE, d1, d2, this]
    simp [p1, p2, prE, d1, d2]
    have good : takeB cs ss k (c, s, m) = true := by simp [takeB]; omega
    have hT' : ∀ t ∈ ts.take (q + 1), takeB cs ss k t = true := fun t ht => by
      rw [et] at ht
      rcases List.mem_append.mp ht with z | z
      · exact hT t z
      · simp at z; subst z; exact good
    refine W_cons ?_
    refine (show W _ (fun f w => (f = .nx ∧ OrdTo ts (q + 1) ∧ w = [some (.tup [.tup (cs.map prE), .tup (ss.map prE), .int k]), some (.tup (ts.map tkE)), some (.lst ((sumsL (plc 0) (ts.take q) cs.length).map .int)), some (.lst ((sumsL (plc 1) (ts.take q) ss.length).map .int)), some (.int (q : Nat)), none, some (.tup (cs.map prE)), some (.tup (ss.map prE)), some (.int k), none, some (.int c), some (.int s), some (.int m), none]) ∨ (f = .rt (.bl false) ∧ fillB cs ss k ts = false)) noE from ?body).imp ?_ (fun _ z => z)
    case body =>
      by_cases hq : 0 < (q : Int)
      · obtain ⟨j, rfl⟩ : ∃ j, q = j + 1 := ⟨q - 1, by omega⟩
        have ix0 := tk_at (ts := ts) (i := j) (by omega)
        have gp := ge_pr (tkAt ts j).1 (tkAt ts j).2.1 c s
        have n3 : ((j + 1 : Nat) : Int) - 1 = (j : Nat) := by omega
        have hlt : decide ((tkAt ts j).1 < c ∨ (tkAt ts j).1 = c ∧ (tkAt ts j).2.1 < s) = tkLt (tkAt ts j) (tkAt ts (j + 1)) := by rw [htk]; rfl
        rw [hlt] at gp
        simp only [s_if, e_and, e_cmp, e_sl, e_ix, e_bin, e_var, e_lit, Lv_int, o_none, o_some, getW_eq, List.getElem?_cons_succ, List.getElem?_cons_zero, Option.bind_some, id, op_some, bd_ok, bin_sub, n3, ix_tup, ix, ix0, tkE, isI_int, sl_tup, cut2, gp, W_bd, cmp_gt, hq, decide_true, isB_bl, cond_true, tru_bl]
        cases hk : tkLt (tkAt ts j) (tkAt ts (j + 1)) with
        | true =>
          simp
          intro i hi2
          rcases Nat.lt_or_ge (i + 1) (j + 1) with z | z
          · exact hO i z
          · have : i = j := by omega
            subst this
            exact hk
        | false =>
          have na : ordB ts = false := by
            cases ho : ordB ts with
            | false => rfl
            | true =>
              have := ord_iff.mpr ho j (by omega)
              rw [hk] at this
              cases this
          simp [fillB, na]
      · have : q = 0 := by omega
        subst this
        simp
        intro i hi2
        omega
    rintro f w (⟨rfl, hO', rfl⟩ | ⟨rfl, hb⟩)
    · simp only [onF_nx]
      obtain ⟨jc, hjc⟩ : ∃ j : Nat, c = j := ⟨c.toNat, by omega⟩
      obtain ⟨js, hjs⟩ : ∃ j : Nat, s = j := ⟨s.toNat, by omega⟩
      have u1 : L2.atI ((sumsL (plc 0) (ts.take q) cs.length).map Vv.int) c = some (.int (sumAt (plc 0) (ts.take q) c)) := by
        rw [hjc, at_map (by rw [sumsL_len]; omega)]
        simp [sumsL]
      have u2 : L2.ixN (sumsL (plc 0) (ts.take q) cs.length).length c = some jc := by rw [hjc]; exact ixN_nat (by rw [sumsL_len]; omega)
      have u3 : L2.atI ((sumsL (plc 1) (ts.take q) ss.length).map Vv.int) s = some (.int (sumAt (plc 1) (ts.take q) s)) := by
        rw [hjs, at_map (by rw [sumsL_len]; omega)]
        simp [sumsL]
      have u4 : L2.ixN (sumsL (plc 1) (ts.take q) ss.length).length s = some js := by rw [hjs]; exact ixN_nat (by rw [sumsL_len]; omega)
      have v1 := sumsL_snoc (plc 0) (ts.take q) (c, s, m) cs.length (i := jc) hjc (by omega)
      have v2 := sumsL_snoc (plc 1) (ts.take q) (c, s, m) ss.length (i := js) hjs (by omega)
      rw [← hjc] at v1
      rw [← hjs] at v2
      refine W_cons ?_
      simp [u1, u2]
      simp [u3, u4]
      rw [et, v1, v2]
      exact ⟨by simp [List.map_set], by rw [← et]; exact fun a b c h => hT' (a, b, c) h, hO'⟩
    · simp [hb]
  · rintro w ⟨⟨w4, w10, w11, w12, rfl⟩, hT, hO⟩
    rw [List.length_range] at hT hO
    rw [List.length_range, List.take_length]
    rw [List.take_length] at hT
    have hall : ts.all (takeB cs ss k) = true := List.all_eq_true.mpr hT
    have hord := ord_iff.mp hO
    have hfb : fillB cs ss k ts = (useB cs ts && gotB ss ts) := by unfold fillB; rw [hall, hord]; rfl
    rw [hfb]
    simp only [onF_nx]
    refine W_cons ?_
    simp [isr_nat (show cs.length < 2 ^ 61 by omega), rng0]
    refine W_ask (p := fun i => decide (sumAt (plc 0) ts (i : Nat) ≤ (prAt cs (i : Nat)).2)) (fun w => ∃ w5, w = [some (.tup [.tup (cs.map prE), .tup (ss.map prE), .int k]), some (.tup (ts.map tkE)), some (.lst ((sumsL (plc 0) ts cs.length).map .int)), some (.lst ((sumsL (plc 1) ts ss.length).map .int)), w4, w5, some (.tup (cs.map prE)), some (.tup (ss.map prE)), some (.int k), none, w10, w11, w12, none]) ⟨_, rfl⟩ ?_ ?_
    · rintro i hi w ⟨w5, rfl⟩
      have hi : i < cs.length := List.mem_range.mp hi
      have p1 := pr_at (ps := cs) (i := (i : Nat)) (by omega) (by omega)
      have x2 : L2.atI ((sumsL (plc 0) ts cs.length).map Vv.int) (i : Int) = some (.int (sumAt (plc 0) ts (i : Nat))) := by
        rw [at_map (by rw [sumsL_len]; exact hi)]
        simp [sumsL]
      simp [c__law_is_filling_b0, p1, prE, x2]
      by_cases c : sumAt (plc 0) ts (i : Nat) ≤ (prAt cs (i : Nat)).2
      · have : ¬ (prAt cs (i : Nat)).2 < sumAt (plc 0) ts (i : Nat) := by omega
        simp [c, this]
      · have c' : (prAt cs (i : Nat)).2 < sumAt (plc 0) ts (i : Nat) := by omega
        have na : useB cs ts = false := List.all_eq_false.mpr ⟨i, List.mem_range.mpr hi, by simp [c]⟩
        have na' := na
        unfold useB at na'
        simp [c, c', na]
        simpa using na'
    · rintro w ⟨w5, rfl⟩ huse
      have huse : useB cs ts = true := huse
      simp [huse]
      refine W_map (fun p : Pr => .int p.2) (fun w => ∃ o12 o13, w = [some (.tup [.tup (cs.map prE), .tup (ss.map prE), .int k]), some (.tup (ts.map tkE)), some (.lst ((sumsL (plc 0) ts cs.length).map .int)), some (.lst ((sumsL (plc 1) ts ss.length).map .int)), w4, w5, some (.tup (cs.map prE)), some (.tup (ss.map prE)), some (.int k), none, w10, w11, o12, o13]) ⟨_, _, rfl⟩ (by simp; omega) ?_ ?_
      · rintro p hp w ⟨o9, o10, rfl⟩
        simp [prE]
      · rintro w ⟨o9, o10, rfl⟩
        have em : ss.map (fun p => Vv.int p.2) = (ss.map (·.2)).map Vv.int := map_int2 ss _
        rw [em]
        simp only [cmp_eq, eq_ints, op_some]
        simp [gotB]
end Core
end
section
set_option autoImplicit false
set_option maxRecDepth 100000
/-! k74: _law_filled over values (own work). -/
namespace Core
open PySem PI PV
def TkOk (cs ss : List Pr) (t : Tk) : Prop := (0 ≤ t.1 ∧ t.1 < cs.length) ∧ (0 ≤ t.2.1 ∧ t.2.1 < ss.length) ∧ 1 ≤ t.2.2 ∧ t.2.2 ≤ 100000
def LeftOk (cs : List Pr) (ls : List Int) : Prop := ls.length = cs.length ∧ ∀ l ∈ ls, 0 ≤ l ∧ l ≤ 100000
theorem filled_b1 {P : PrV} {n : Nat} {cs ss : List Pr} {k day sale m cd c : Int} {ls : List Int} {ts : List Tk} {v0 v1 v3 v5 v6 v13 v14 v15 : Option Vv} (hl : LeftOk cs ls) (ht : ∀ t ∈ ts, TkOk cs ss t) (htl : ts.length < 1000) (hs : 0 ≤ sale ∧ sale < ss.length) (hc : 0 ≤ c ∧ c < cs.length) (hm : 0 ≤ m ∧ m ≤ 100000) :
    W (vSs (callV P n) P.sub c__law_filled_b1 [v0, v1, some (.lst (ls.map .int)), v3, some (.lst (ts.map tkE)), v5, v6, some (.int k), some (.int day), some (.int sale), some (.int m), some (.int cd), some (.int c), v13, v14, v15])
      (fun f w => f = .nx ∧ ∃ (ls' : List Int) (ts' : List Tk) (m' : Int) (w13 : Option Vv), LeftOk cs ls' ∧ (∀ t ∈ ts', TkOk cs ss t) ∧ ts'.length ≤ ts.length + 1 ∧ (0 ≤ m' ∧ m' ≤ 100000) ∧ w = [v0, v1, some (.lst (ls'.map .int)), v3, some (.lst (ts'.map tkE)), v5, v6, some (.int k), some (.int day), some (.int sale), some (.int m'), some (.int cd), some (.int c), w13, v14, v15]) noE := by
  obtain ⟨j, hj⟩ : ∃ j : Nat, c = j := ⟨c.toNat, by omega⟩
  have hjl : j < ls.length := by rw [hl.1]; omega
  have ix : L2.atI (ls.map Vv.int) c = some (.int ls[j]) := by rw [hj]; exact at_map hjl
  have ixn : L2.ixN ls.length c = some j := by rw [hj]; exact ixN_nat hjl
  obtain ⟨l0, l1⟩ := hl.2 _ (List.getElem_mem hjl)
  have htl' : ts.length < 16777216 := by omega
  simp only [c__law_filled_b1]
  generalize hx : ls[j] = x at ix l0 l1
  refine W_cons ?_
  simp [ix]
  generalize htk : (if m < x then m else x) = tk
  have t0 : 0 ≤ tk ∧ tk ≤ x ∧ tk ≤ m := by rw [← htk]; split <;> omega
  by_cases h1 : day - k ≤ cd
  · by_cases h2 : cd ≤ day
    · by_cases h3 : 0 < tk
      · simp [h1, h2, h3, ss_cons, ix, ixn, htl']
        refine ⟨ls.set j (x - tk), ?_, ts ++ [(c, sale, tk)], ?_, by simp, m - tk, ⟨by omega, by omega⟩, by simp [List.map_set], by simp [tkE], rfl⟩
        · refine ⟨by simp [hl.1], fun l hl' => ?_⟩
          rcases List.mem_or_eq_of_mem_set hl' with z | z
          · exact hl.2 l z
          · subst z; omega
        · intro a b d hmem
          rcases List.mem_append.mp hmem with z | z
          · exact ht _ z
          · simp at z
            obtain ⟨rfl, rfl, rfl⟩ := z
            exact ⟨hc, hs, by dsimp only; omega, by dsimp only; omega⟩
      · simp [h1, h2, h3]
        exact ⟨ls, hl, ts, fun a b d h => ht _ h, by omega, m, hm, rfl, rfl, rfl⟩
    · simp [h1, h2]
      exact ⟨ls, hl, ts, fun a b d h => ht _ h, by omega, m, hm, rfl, rfl, rfl⟩
  · simp [h1]
    exact ⟨ls, hl, ts, fun a b d h => ht _ h, by omega, m, hm, rfl, rfl, rfl⟩
def ByDay (n : Nat) (bd : List Pr) : Prop := bd.length = n ∧ ∀ p ∈ bd, 0 ≤ p.2 ∧ p.2 < (n : Int)
def dayL (ps : List Pr) : List Pr := (List.range ps.length).map fun k => ((prAt ps (k : Nat)).1, (k : Int))
theorem dayL_ok (ps : List Pr) : ByDay ps.length ((dayL ps).mergeSort prLe) := by
  refine ⟨by simp [dayL], fun p hp => ?_⟩
  have := List.mem_mergeSort.mp hp
  obtain ⟨k, hk, rfl⟩ := List.mem_map.mp this
  have := List.mem_range.mp hk
  exact ⟨by simp, by simp; omega⟩
theorem dayL_len (ps : List Pr) : (dayL ps).length = ps.length := by simp [dayL]
theorem dayL_enc (ps : List Pr) : (List.range ps.length).map (fun k => Vv.tup [.int (prAt ps (k : Nat)).1, .int (k : Nat)]) = (dayL ps).map prE := by
  unfold dayL
  rw [List.map_map]
  rfl
def S_lfilled (F : FnsV) (i : Nat) : Prop := ∀ (cs ss : List Pr) (k : Int) (nw : Bool), StOk cs ss k → ∃ ts : List Tk, F i [stk cs ss k, .bl nw] = .ok (.tup (ts.map tkE)) [] ∧ (∀ t ∈ ts, TkOk cs ss t) ∧ ts.length ≤ 256
theorem lfilled_s {P : PrV} {f : Nat} (hf : P.fns[f]? = some f__law_filled) : Sp P f 1 S_lfilled := .mk fun n hn cs ss k nw ok => by
  have lc := ok.lc
  have ls := ok.ls
  suffices h : W (callV P (n + 1) f [stk cs ss k, .bl nw]) (fun d os => os = [] ∧ ∃ ts : List Tk, d = .tup (ts.map tkE) ∧ (∀ t ∈ ts, TkOk cs ss t) ∧ ts.length ≤ 256) noE by
    obtain ⟨d, os, e, rfl, ts, rfl, h1⟩ := h.eq
    exact ⟨ts, e, h1⟩
  refine W_call hf rfl ?_
  simp only [c__law_filled, startV, stk]
  refine W_cons ?_
  simp
  refine W_cons ?_
  simp
  refine W_map (fun p : Pr => .int p.2) (fun w => ∃ o8 o14, w = [some (.tup [.tup (cs.map prE), .tup (ss.map prE), .int k]), some (.bl nw), none, none, none, some (.tup (cs.map prE)), some (.tup (ss.map prE)), some (.int k), o8, none, none, none, none, none, o14, none]) ⟨none, none, rfl⟩ (by simp; omega) (by rintro p hp w ⟨o8, o14, rfl⟩; simp [prE]) ?_
  rintro w ⟨o8, o14, rfl⟩
  have em : cs.map (fun p => Vv.int p.2) = (cs.map (·.2)).map Vv.int := map_int2 cs _
  rw [em]
  have hleft : LeftOk cs (cs.map (·.2)) := ⟨by simp, fun l hl => by
    obtain ⟨p, hp, rfl⟩ := List.mem_map.mp hl
    obtain ⟨_, _, h1, h2⟩ := ok.c p hp
    omega⟩
  generalize cs.map (·.2) = ls0 at hleft
  simp
  refine W_cons ?_
  simp [isr_nat (show cs.length < 2 ^ 61 by omega), rng0]
  refine W_map (fun k : Nat => Vv.tup [.int (prAt cs (k : Nat)).1, .int (k : Nat)]) (fun w => ∃ o15, w = [some (.tup [.tup (cs.map prE), .tup (ss.map prE), .int k]), some (.bl nw), some (.lst (ls0.map .int)), none, none, some (.tup (cs.map prE)), some (.tup (ss.map prE)), some (.int k), none, none, none, none, none, none, none, o15]) ⟨none, rfl⟩ (by simp; omega) ?_ ?_
  · rintro j hj w ⟨o15, rfl⟩
    have hj : j < cs.length := List.mem_range.mp hj
    have p1 := pr_at (ps := cs) (i := (j : Nat)) (by omega) (by omega)
    simp [p1, prE]
  rintro w ⟨o15, rfl⟩
  rw [dayL_enc]
  have sd := sort_pr (dayL cs) (by rw [dayL_len]; omega)
  have so : b1V .sorted (.lst ((dayL cs).map prE)) = some (.lst (((dayL cs).mergeSort prLe).map prE)) := by
    show (sortV _).bind _ = _
    rw [sd]
    exact g1_pos (by simp [dayL]; omega)
  simp only [bk_cons, bk_nil, slotsG_name, so, op_some, bd_ok, W_ok]
  have hbd := dayL_ok cs
  generalize (dayL cs).mergeSort prLe = bd at hbd
  simp
  refine W_cons ?_
  refine (show W _ (fun f w => f = .nx ∧ ∃ bd' : List Pr, ByDay cs.length bd' ∧ w = [some (.tup [.tup (cs.map prE), .tup (ss.map prE), .int k]), some (.bl nw), some (.lst (ls0.map .int)), some (.lst (bd'.map prE)), none, some (.tup (cs.map prE)), some (.tup (ss.map prE)), some (.int k), none, none, none, none, none, none, none, none]) noE from ?body).imp ?_ (fun _ z => z)
  case body =>
    cases nw with
    | false =>
      simp
      exact ⟨bd, hbd, rfl⟩
    | true =>
      have hl := hbd.1
      simp [hl, isr_nat (show cs.length < 2 ^ 61 by omega), rng0]
      refine W_map (fun j : Nat => prE (prAt bd ((cs.length - 1 - j : Nat) : Int))) (fun w => ∃ o15, w = [some (.tup [.tup (cs.map prE), .tup (ss.map prE), .int k]), some (.bl true), some (.lst (ls0.map .int)), some (.lst (bd.map prE)), none, some (.tup (cs.map prE)), some (.tup (ss.map prE)), some (.int k), none, none, none, none, none, none, none, o15]) ⟨none, rfl⟩ (by simp; omega) ?_ ?_
      · rintro j hj w ⟨o15, rfl⟩
        have hj : j < cs.length := List.mem_range.mp hj
        have e1 : (cs.length : Int) - 1 - (j : Nat) = ((cs.length - 1 - j : Nat) : Int) := by omega
        have p1 := pr_at (ps := bd) (i := ((cs.length - 1 - j : Nat) : Int)) (by omega) (by omega)
        simp [hl, p1, e1]
      · rintro w ⟨o15, rfl⟩
        simp
        refine ⟨(List.range cs.length).map fun j => prAt bd ((cs.length - 1 - j : Nat) : Int), ⟨by simp, fun p hp => ?_⟩, by rw [List.map_map]; rfl⟩
        obtain ⟨j, hj, rfl⟩ := List.mem_map.mp hp
        have hj : j < cs.length := List.mem_range.mp hj
        have hlt : cs.length - 1 - j < bd.length := by omega
        refine hbd.2 _ ?_
        unfold prAt
        rw [Int.toNat_natCast, List.getD_eq_getElem?_getD, List.getElem?_eq_getElem hlt]
        exact List.getElem_mem hlt
  rintro f w ⟨rfl, bd', hbd', rfl⟩
  clear hbd so sd
  simp only [onF_nx]
  refine W_cons ?_
  simp
  refine W_cons ?_
  simp [isr_nat (show ss.length < 2 ^ 61 by omega), rng0]
  refine W_map (fun k : Nat => Vv.tup [.int (prAt ss (k : Nat)).1, .int (k : Nat)]) (fun w => ∃ o15, w = [some (.tup [.tup (cs.map prE), .tup (ss.map prE), .int k]), some (.bl nw), some (.lst (ls0.map .int)), some (.lst (bd'.map prE)), some (.lst []), some (.tup (cs.map prE)), some (.tup (ss.map prE)), some (.int k), none, none, none, none, none, none, none, o15]) ⟨none, rfl⟩ (by simp; omega) ?_ ?_
  · rintro j hj w ⟨o15, rfl⟩
    have hj : j < ss.length := List.mem_range.mp hj
    have p1 := pr_at (ps := ss) (i := (j : Nat)) (by omega) (by omega)
    simp [p1, prE]
  rintro w ⟨o15, rfl⟩
  rw [dayL_enc]
  have sd := sort_pr (dayL ss) (by rw [dayL_len]; omega)
  have so : b1V .sorted (.lst ((dayL ss).map prE)) = some (.lst (((dayL ss).mergeSort prLe).map prE)) := by
    show (sortV _).bind _ = _
    rw [sd]
    exact g1_pos (by simp [dayL]; omega)
  simp only [bk_cons, bk_nil, slotsG_name, so, op_some, bd_ok, W_ok, itS_lst, W_bd]
  have hsd := dayL_ok ss
  generalize (dayL ss).mergeSort prLe = sd at hsd
  simp
  have hsl := hsd.1
  refine W_for (fun i w => ∃ (ls : List Int) (ts : List Tk) (w8 w9 w10 w11 w12 w13 : Option Vv), LeftOk cs ls ∧ (∀ t ∈ ts, TkOk cs ss t) ∧ ts.length ≤ 16 * i ∧ w = [some (.tup [.tup (cs.map prE), .tup (ss.map prE), .int k]), some (.bl nw), some (.lst (ls.map .int)), some (.lst (bd'.map prE)), some (.lst (ts.map tkE)), some (.tup (cs.map prE)), some (.tup (ss.map prE)), some (.int k), w8, w9, w10, w11, w12, w13, none, none]) ⟨ls0, [], none, none, none, none, none, none, hleft, by simp, by simp, rfl⟩ ?_ ?_
  · rintro i ⟨day, sale⟩ w ex ⟨ls, ts, w8, w9, w10, w11, w12, w13, hL, hT, hTl, rfl⟩
    have hi : i < ss.length := by
      have := (List.getElem?_eq_some_iff.mp ex).1
      omega
    obtain ⟨q0, q1⟩ := hsd.2 _ (List.mem_of_getElem? ex)
    have q0 : 0 ≤ sale := q0
    have q1 : sale < (ss.length : Int) := q1
    have p1 := pr_at q0 q1
    simp only [c__law_filled_b0]
    simp [prE, ss_cons]
    have p1' : L2.atI (ss.map prE) sale = some (.tup [.int (prAt ss sale).1, .int (prAt ss sale).2]) := p1
    simp [p1']
    have hmiss : 0 ≤ (prAt ss sale).2 ∧ (prAt ss sale).2 ≤ 100000 := by
      have hlt : sale.toNat < ss.length := by omega
      have : prAt ss sale ∈ ss := by
        unfold prAt
        rw [List.getD_eq_getElem?_getD, List.getElem?_eq_getElem hlt]
        exact List.getElem_mem hlt
      obtain ⟨_, _, h1, h2⟩ := ok.s _ this
      omega
    generalize (prAt ss sale).2 = m0 at hmiss
    have bl := hbd'.1
    refine W_for (fun j w => ∃ (ls : List Int) (ts : List Tk) (m : Int) (w11 w12 w13 : Option Vv), LeftOk cs ls ∧ (∀ t ∈ ts, TkOk cs ss t) ∧ ts.length ≤ 16 * i + j ∧ (0 ≤ m ∧ m ≤ 100000) ∧ w = [some (.tup [.tup (cs.map prE), .tup (ss.map prE), .int k]), some (.bl nw), some (.lst (ls.map .int)), some (.lst (bd'.map prE)), some (.lst (ts.map tkE)), some (.tup (cs.map prE)), some (.tup (ss.map prE)), some (.int k), some (.int day), some (.int sale), some (.int m), w11, w12, w13, none, none]) ⟨ls, ts, m0, _, _, _, hL, hT, by omega, hmiss, rfl⟩ ?_ ?_
    · rintro j ⟨cd, c⟩ w ey ⟨ls, ts, m, w11, w12, w13, hL, hT, hTl, hm, rfl⟩
      have hj : j < cs.length := by
        have := (List.getElem?_eq_some_iff.mp ey).1
        omega
      obtain ⟨y0, y1⟩ := hbd'.2 _ (List.mem_of_getElem? ey)
      have y0 : 0 ≤ c := y0
      have y1 : c < (cs.length : Int) := y1
      simp [prE]
      refine (filled_b1 (cd := cd) hL hT (by omega) ⟨q0, q1⟩ ⟨y0, y1⟩ hm).imp ?_ (fun _ z => z)
      rintro f w ⟨rfl, ls', ts', m', u13, z1, z2, z3, z4, rfl⟩
      exact ⟨ls', z1, ts', fun a b d h => z2 _ h, by omega, m', z4, _, _, _, rfl⟩
    · rintro w ⟨ls, ts, m, w11, w12, w13, hL, hT, hTl, hm, rfl⟩
      simp
      exact ⟨ls, hL, ts, fun a b d h => hT _ h, by omega, by simp⟩
  · rintro w ⟨ls, ts, w8, w9, w10, w11, w12, w13, hL, hT, hTl, rfl⟩
    have hTl' : ts.length ≤ 256 := by omega
    have sk := sort_tk ts (by omega)
    have so2 : b1V .sorted (.lst (ts.map tkE)) = some (.lst ((ts.mergeSort tkLe).map tkE)) := by
      show (sortV _).bind _ = _
      rw [sk]
      exact g1_pos (by simp; omega)
    have hl2 : (ts.mergeSort tkLe).length ≤ 256 := by simp; exact hTl'
    have hm2 : ∀ t ∈ ts.mergeSort tkLe, TkOk cs ss t := fun t ht => hT t (List.mem_mergeSort.mp ht)
    simp [so2]
    generalize ts.mergeSort tkLe = us at hl2 hm2
    exact ⟨by omega, us, rfl, fun a b d h => hm2 _ h, hl2⟩
end Core
end
section
set_option autoImplicit false
set_option maxRecDepth 100000
/-! k74: _law_fillings_to_try, _law_spans_to_try over values (own work). -/
namespace Core
open PySem PI PV
theorem cutL_map {α β : Type} (f : α → β) (xs : List α) (lo hi : Option Int) : cutL (xs.map f) lo hi = (cutL xs lo hi).map f := by
  unfold cutL
  rw [List.length_map, List.map_take, List.map_drop]
theorem cutL_le {α : Type} (xs : List α) (lo hi : Option Int) : (cutL xs lo hi).length ≤ xs.length := by
  unfold cutL
  rw [List.length_take, List.length_drop]
  omega
theorem cutL_mem {α : Type} {xs : List α} {lo hi : Option Int} {x : α} (h : x ∈ cutL xs lo hi) : x ∈ xs := List.mem_of_mem_drop (List.mem_of_mem_take h)
/-- only takes -/
def AllTk (ys : List Vv) : Prop := ∀ y ∈ ys, ∃ t : Tk, y = tkE t
theorem AllTk.app {xs ys : List Vv} (h : AllTk xs) (k : AllTk ys) : AllTk (xs ++ ys) := fun y hy => (List.mem_append.mp hy).elim (h y) (k y)
theorem AllTk.cons {x : Vv} {ys : List Vv} (h : ∃ t : Tk, x = tkE t) (k : AllTk ys) : AllTk (x :: ys) := fun y hy => (List.mem_cons.mp hy).elim (fun e => e ▸ h) (k y)
theorem AllTk.nil : AllTk [] := fun _ h => by simp at h
theorem AllTk.cut {xs : List Vv} {lo hi : Option Int} (h : AllTk xs) : AllTk (cutL xs lo hi) := fun y hy => h y (cutL_mem hy)
theorem allTk_map (ts : List Tk) : AllTk (ts.map tkE) := fun y hy => by
  obtain ⟨t, _, rfl⟩ := List.mem_map.mp hy
  exact ⟨t, rfl⟩
theorem AllTk.list {ys : List Vv} (h : AllTk ys) : ∃ ts : List Tk, ys = ts.map tkE := by
  induction ys with
  | nil => exact ⟨[], rfl⟩
  | cons y ys ih =>
    obtain ⟨t, rfl⟩ := h y (by simp)
    obtain ⟨ts, rfl⟩ := ih fun z hz => h z (by simp [hz])
    exact ⟨t :: ts, rfl⟩
def IsP (v : Vv) : Prop := ∃ ys, v = .tup ys ∧ AllTk ys ∧ ys.length ≤ 600
def Papers (xs : List Vv) (n : Nat) : Prop := xs.length ≤ n ∧ ∀ x ∈ xs, IsP x
theorem Papers.snoc {xs : List Vv} {n : Nat} {v : Vv} (h : Papers xs n) (k : IsP v) : Papers (xs ++ [v]) (n + 1) := ⟨by have := h.1; simp; omega, fun x hx => (List.mem_append.mp hx).elim (h.2 x) fun z => by simp at z; subst z; exact k⟩
theorem Papers.up {xs : List Vv} {n m : Nat} (h : Papers xs n) (k : n ≤ m) : Papers xs m := ⟨by have := h.1; omega, h.2⟩
theorem tk_mk (a b c : Int) : ∃ t : Tk, Vv.tup [.int a, .int b, .int c] = tkE t := ⟨(a, b, c), rfl⟩
/-- sorted takes are takes -/
theorem sort_tks {ys : List Vv} (h : AllTk ys) (hl : ys.length ≤ 600) : ∃ zs, b1V .sorted (.tup ys) = some (.lst zs) ∧ AllTk zs ∧ zs.length = ys.length := by
  obtain ⟨ts, rfl⟩ := h.list
  rw [List.length_map] at hl
  have sk := sort_tk ts (by omega)
  refine ⟨(ts.mergeSort tkLe).map tkE, ?_, allTk_map _, by simp⟩
  show (sortV _).bind _ = _
  rw [sk]
  exact g1_pos (by simp; omega)
/-- at one place -/
structure Place (B : List Vv) (i : Nat) (A Z : List Vv) : Prop where
  a : cutL B none (some (i : Int)) = A
  z : cutL B (some ((i : Int) + 1)) none = Z
  ta : AllTk A
  tz : AllTk Z
  la : A.length ≤ 256
  lz : Z.length ≤ 256
  l : A.length + Z.length ≤ 256
theorem place (base : List Tk) (i : Nat) (hl : base.length ≤ 256) (hi : i < base.length) : ∃ A Z, Place (base.map tkE) i A Z := by
  refine ⟨_, _, rfl, rfl, (allTk_map _).cut, (allTk_map _).cut, ?_, ?_, ?_⟩
  · exact Nat.le_trans (cutL_le _ _ _) (by simpa using hl)
  · exact Nat.le_trans (cutL_le _ _ _) (by simpa using hl)
  · have e : ((i : Int) + 1) = ((i + 1 : Nat) : Int) := by omega
    rw [e, cutL_map, cutL_map]
    unfold cutL
    rw [HT.sIx_none, HT.sIx_nat, HT.sIx_nat, HT.sIx_none]
    simp
    omega
def S_tries (F : FnsV) (i : Nat) : Prop := ∀ (cs ss : List Pr) (k : Int) (base : List Tk), cs.length ≤ 16 → ss.length ≤ 16 → base.length ≤ 256 → ∃ ps : List Vv, F i [stk cs ss k, .tup (base.map tkE)] = .ok (.lst ps) [] ∧ Papers ps 20000
theorem tries_s {P : PrV} {f : Nat} (hf : P.fns[f]? = some f__law_fillings_to_try) : Sp P f 1 S_tries := .mk fun n hn cs ss k base lc ls lb => by
  suffices h : W (callV P (n + 1) f [stk cs ss k, .tup (base.map tkE)]) (fun d os => os = [] ∧ ∃ ps, d = .lst ps ∧ Papers ps 20000) noE by
    obtain ⟨d, os, e, rfl, ps, rfl, h1⟩ := h.eq
    exact ⟨ps, e, h1⟩
  refine W_call hf rfl ?_
  simp only [c__law_fillings_to_try, startV, stk]
  have hB := allTk_map base
  have lB : (base.map tkE).length ≤ 256 := by simpa using lb
  have c1 := cutL_le (base.map tkE) (some 1) none
  have c2 := cutL_le (base.map tkE) none (some 1)
  have c3 := cutL_le (base.map tkE) (some (-1)) none
  have t1 : AllTk (cutL (base.map tkE) (some 1) none) := hB.cut
  have t2 : AllTk (cutL (base.map tkE) none (some 1)) := hB.cut
  have t3 : AllTk (cutL (base.map tkE) (some (-1)) none) := hB.cut
  have pl := fun i hi => place base i lb hi
  have tka : ∀ i, i < base.length → L2.atI (base.map tkE) (i : Int) = some (tkE (tkAt base i)) := fun i hi => tk_at hi
  have lbb : (base.map tkE).length = base.length := by simp
  generalize base.map tkE = B at *
  generalize e1 : cutL B (some 1) none = B1 at *
  generalize e2 : cutL B none (some 1) = B2 at *
  generalize e3 : cutL B (some (-1)) none = B3 at *
  refine W_cons ?_
  simp
  have g1 : B1.length + B2.length ≤ 16777216 := by omega
  have g2 : B.length + B3.length ≤ 16777216 := by omega
  have g3 : 1 + B.length ≤ 16777216 := by omega
  have g4 : B.length + 1 ≤ 16777216 := by omega
  have g5 : B.length ≤ 16777215 := by omega
  refine W_cons ?_
  simp [e1, e2, e3, g1, g2, g3, g4, g5]
  refine W_cons ?_
  simp [lbb, isr_nat (show base.length < 2 ^ 61 by omega), rng0]
  refine W_for (fun i w => ∃ ps w3 w7 w8 w9 w10 w11, Papers ps (7 + 50 * i) ∧ w = [some (.tup [.tup (cs.map prE), .tup (ss.map prE), .int k]), some (.tup B), some (.lst ps), w3, some (.tup (cs.map prE)), some (.tup (ss.map prE)), some (.int k), w7, w8, w9, w10, w11]) ⟨_, none, none, none, none, none, none, ?_, rfl⟩ ?_ ?_
  · refine ⟨by simp, fun x hx => ?_⟩
    simp only [List.mem_cons, List.not_mem_nil, or_false] at hx
    rcases hx with rfl | rfl | rfl | rfl | rfl | rfl | rfl
    · exact ⟨_, rfl, hB, by omega⟩
    · exact ⟨_, rfl, .nil, by simp⟩
    · exact ⟨_, rfl, t1.app t2, by simp; omega⟩
    · exact ⟨_, rfl, hB.app t3, by simp; omega⟩
    · exact ⟨_, rfl, .cons (tk_mk _ _ _) .nil, by simp⟩
    · exact ⟨_, rfl, .cons (tk_mk _ _ _) hB, by simp; omega⟩
    · exact ⟨_, rfl, hB.app (.cons (tk_mk _ _ _) .nil), by simp; omega⟩
  · rintro i q w eq ⟨ps, w3, w7, w8, w9, w10, w11, hP, rfl⟩
    have hi : i < base.length ∧ q = i := by
      obtain ⟨q1, q2⟩ := List.getElem?_eq_some_iff.mp eq
      rw [List.getElem_range] at q2
      exact ⟨by simpa using q1, q2.symm⟩
    obtain ⟨hi, rfl⟩ := hi
    obtain ⟨A, Z, hp⟩ := pl q hi
    have ix := tka q hi
    have pa := hp.a
    have pz := hp.z
    have l1 := hp.l
    obtain ⟨⟨c, s, m⟩, htk⟩ : ∃ t : Tk, tkAt base q = t := ⟨_, rfl⟩
    rw [htk] at ix
    clear htk
    have hq : 7 + 50 * q ≤ 20000 := by omega
    have x1 : ∀ xs, AllTk xs → xs.length ≤ 2 → IsP (.tup (A ++ (xs ++ Z))) := fun xs h1 h2 => ⟨_, rfl, hp.ta.app (h1.app hp.tz), by simp; omega⟩
    have x2 : ∀ a b d : Int, IsP (.tup (A ++ Vv.tup [.int a, .int b, .int d] :: Z)) := fun a b d => ⟨_, rfl, hp.ta.app (.cons (tk_mk _ _ _) hp.tz), by simp; omega⟩
    have x3 : ∀ a b d : Int, ∃ zs, b1V .sorted (.tup (A ++ Vv.tup [.int a, .int b, .int d] :: Z)) = some (.lst zs) ∧ zs.length ≤ 16777216 ∧ IsP (.tup zs) := fun a b d => by
      obtain ⟨ys, e, h1, h2⟩ := x2 a b d
      cases e
      obtain ⟨zs, e1, h3, h4⟩ := sort_tks h1 h2
      exact ⟨zs, e1, by omega, zs, rfl, h3, by omega⟩
    have y1 : A.length + Z.length ≤ 16777216 := by omega
    have y2 : A.length + 1 ≤ 16777216 := by omega
    have y3 : A.length + (Z.length + 1) ≤ 16777216 := by omega
    have y4 : A.length + 1 + Z.length ≤ 16777216 := by omega
    have y5 : A.length + 2 ≤ 16777216 := by omega
    have y6 : A.length + (Z.length + 1 + 1) ≤ 16777216 := by omega
    have y7 : A.length + 2 + Z.length ≤ 16777216 := by omega
    have y8 : A.length ≤ 16777215 := by omega
    have y9 : A.length ≤ 16777214 := by omega
    simp only [c__law_fillings_to_try_b0]
    refine W_cons ?_
    simp [ix, tkE]
    have lp := hP.1
    have z1 : ps.length < 16777216 := by omega
    refine W_cons ?_
    simp [pa, pz, y1, z1]
    have hP1 := hP.snoc ⟨_, rfl, hp.ta.app hp.tz, by simp; omega⟩
    generalize ps ++ [Vv.tup (A ++ Z)] = ps1 at hP1
    refine W_cons ?_
    refine (show W _ (fun f w => f = .nx ∧ ∃ ps2, Papers ps2 (7 + 50 * q + 2) ∧ w = [some (.tup [.tup (cs.map prE), .tup (ss.map prE), .int k]), some (.tup B), some (.lst ps2), some (.int (q : Nat)), some (.tup (cs.map prE)), some (.tup (ss.map prE)), some (.int k), w7, w8, some (.int c), some (.int s), some (.int m)]) noE from ?body).imp ?_ (fun _ z => z)
    case body =>
      have z2 : ps1.length < 16777216 := by have := hP1.1; omega
      by_cases h1 : 1 < m
      · simp [h1, pa, pz, y5, y7, y9, z2]
        refine (hP1.snoc ?_).up (by omega)
        exact ⟨_, rfl, hp.ta.app (.cons (tk_mk _ _ _) (.cons (tk_mk _ _ _) hp.tz)), by simp; omega⟩
      · simp [h1]
        exact hP1.up (by omega)
    rintro f w ⟨rfl, ps2, hP2, rfl⟩
    clear hP1 hP
    simp only [onF_nx]
    have lp2 := hP2.1
    refine W_cons ?_
    simp
    refine (show W (loopF _ (([m + 1, m - 1, 0, -m, m + 100000] : List Int).map Vv.int) _) _ _ from ?_)
    refine W_for (fun j w => ∃ ps w7, Papers ps (7 + 50 * q + 2 + j) ∧ w = [some (.tup [.tup (cs.map prE), .tup (ss.map prE), .int k]), some (.tup B), some (.lst ps), some (.int (q : Nat)), some (.tup (cs.map prE)), some (.tup (ss.map prE)), some (.int k), w7, w8, some (.int c), some (.int s), some (.int m)]) ⟨ps2, w7, hP2, rfl⟩ ?_ ?_
    · rintro j o w ej ⟨ps, w7, hP, rfl⟩
      have hj := (List.getElem?_eq_some_iff.mp ej).1
      simp at hj
      have z2 : ps.length < 16777216 := by have := hP.1; omega
      simp [c__law_fillings_to_try_b3, pa, pz, y2, y3, y4, y8, z2]
      exact (hP.snoc (x2 c s o)).up (by omega)
    rintro w ⟨ps3, w7, hP3, rfl⟩
    simp at hP3
    clear hP2 lp2 lp z1
    have z3 : ps3.length < 16777216 := by have := hP3.1; omega
    simp only [onF_nx]
    refine W_cons ?_
    simp [pa, pz, y2, y3, y4, y8, z3]
    have hP4 := hP3.snoc (x2 (c - (cs.length : Int)) s m)
    generalize ps3 ++ [Vv.tup (A ++ Vv.tup [.int (c - (cs.length : Int)), .int s, .int m] :: Z)] = ps4 at hP4
    have z4 : ps4.length < 16777216 := by have := hP4.1; omega
    refine W_cons ?_
    simp [pa, pz, y2, y3, y4, y8, z4]
    have hP5 := hP4.snoc (x2 c (s - (ss.length : Int)) m)
    generalize ps4 ++ [Vv.tup (A ++ Vv.tup [.int c, .int (s - (ss.length : Int)), .int m] :: Z)] = ps5 at hP5
    refine W_cons ?_
    simp [isr_nat (show cs.length < 2 ^ 61 by omega), rng0]
    refine W_for (fun j w => ∃ ps w8, Papers ps (7 + 50 * q + 9 + j) ∧ w = [some (.tup [.tup (cs.map prE), .tup (ss.map prE), .int k]), some (.tup B), some (.lst ps), some (.int (q : Nat)), some (.tup (cs.map prE)), some (.tup (ss.map prE)), some (.int k), w7, w8, some (.int c), some (.int s), some (.int m)]) ⟨ps5, w8, hP5.up (by omega), rfl⟩ ?_ ?_
    · rintro j o w ej ⟨ps, w8, hP, rfl⟩
      have hj := (List.getElem?_eq_some_iff.mp ej).1
      simp at hj
      obtain ⟨zs, s1, s2, s3⟩ := x3 (o : Nat) s m
      have z2 : ps.length < 16777216 := by have := hP.1; omega
      simp [c__law_fillings_to_try_b2, pa, pz, y2, y3, y4, y8, z2, s1, s2]
      exact (hP.snoc s3).up (by omega)
    rintro w ⟨ps6, w8, hP6, rfl⟩
    simp at hP6
    simp [isr_nat (show ss.length < 2 ^ 61 by omega), rng0]
    refine W_for (fun j w => ∃ ps w8, Papers ps (7 + 50 * q + 9 + cs.length + j) ∧ w = [some (.tup [.tup (cs.map prE), .tup (ss.map prE), .int k]), some (.tup B), some (.lst ps), some (.int (q : Nat)), some (.tup (cs.map prE)), some (.tup (ss.map prE)), some (.int k), w7, w8, some (.int c), some (.int s), some (.int m)]) ⟨ps6, w8, hP6, rfl⟩ ?_ ?_
    · rintro j o w ej ⟨ps, w8, hP, rfl⟩
      have hj := (List.getElem?_eq_some_iff.mp ej).1
      simp at hj
      obtain ⟨zs, s1, s2, s3⟩ := x3 c (o : Nat) m
      have z2 : ps.length < 16777216 := by have := hP.1; omega
      simp [c__law_fillings_to_try_b1, pa, pz, y2, y3, y4, y8, z2, s1, s2]
      exact (hP.snoc s3).up (by omega)
    rintro w ⟨ps7, w8, hP7, rfl⟩
    simp at hP7
    simp
    exact hP7.up (by omega)
  · rintro w ⟨ps, w3, w7, w8, w9, w10, w11, hP, rfl⟩
    simp at hP
    simp
    exact hP.up (by omega)
end Core
end
section
set_option autoImplicit false
set_option maxRecDepth 100000
/-! k74: _law_spans_to_try, _law_wrong_shapes over values (own work). -/
namespace Core
open PySem PI PV
def Spans (xs : List Vv) (n : Nat) : Prop := 1 ≤ xs.length ∧ xs.length ≤ n ∧ ∀ x ∈ xs, ∃ p : Pr, x = prE p
theorem Spans.snoc {xs : List Vv} {n : Nat} (h : Spans xs n) (a b : Int) : Spans (xs ++ [.tup [.int a, .int b]]) (n + 1) := ⟨by simp, by have := h.2.1; simp; omega, fun x hx => (List.mem_append.mp hx).elim (h.2.2 x) fun z => by simp at z; subst z; exact ⟨(a, b), rfl⟩⟩
theorem Spans.up {xs : List Vv} {n m : Nat} (h : Spans xs n) (k : n ≤ m) : Spans xs m := ⟨h.1, by have := h.2.1; omega, h.2.2⟩
theorem Spans.list {xs : List Vv} {n : Nat} (h : Spans xs n) : ∃ ps : List Pr, xs = ps.map prE := by
  have := h.2.2
  clear h
  induction xs with
  | nil => exact ⟨[], rfl⟩
  | cons y ys ih =>
    obtain ⟨t, rfl⟩ := this y (by simp)
    obtain ⟨ts, rfl⟩ := ih fun z hz => this z (by simp [hz])
    exact ⟨t :: ts, rfl⟩
def S_spans (F : FnsV) (i : Nat) : Prop := ∀ (cs ss : List Pr) (k : Int) (ns : List Int), ss.length ≤ 16 → ns.length ≤ 100 → ∃ sp : List Vv, F i [stk cs ss k, .lst (ns.map .int)] = .ok (.lst sp) [] ∧ Spans sp 1000
theorem spans_s {P : PrV} {f : Nat} (hf : P.fns[f]? = some f__law_spans_to_try) : Sp P f 1 S_spans := .mk fun n hn cs ss k ns ls ln => by
  suffices h : W (callV P (n + 1) f [stk cs ss k, .lst (ns.map .int)]) (fun d os => os = [] ∧ ∃ ps, d = .lst ps ∧ Spans ps 1000) noE by
    obtain ⟨d, os, e, rfl, ps, rfl, h1⟩ := h.eq
    exact ⟨ps, e, h1⟩
  refine W_call hf rfl ?_
  simp only [c__law_spans_to_try, startV, stk]
  refine W_cons ?_
  simp
  have pw : binV .pow (.int 10) (.int 20) = some (.int (10 ^ 20)) := rfl
  refine W_cons ?_
  simp [pw]
  refine W_cons ?_
  simp
  refine W_for (fun i w => ∃ sp w3 w7 w8 w9, Spans sp (5 + 20 * i) ∧ w = [some (.tup [.tup (cs.map prE), .tup (ss.map prE), .int k]), some (.lst (ns.map .int)), some (.lst sp), w3, some (.tup (cs.map prE)), some (.tup (ss.map prE)), some (.int k), w7, w8, w9]) ⟨_, none, none, none, none, ?_, rfl⟩ ?_ ?_
  · refine ⟨by simp, by simp, fun x hx => ?_⟩
    simp only [List.mem_cons, List.not_mem_nil, or_false] at hx
    rcases hx with rfl | rfl | rfl | rfl | rfl <;> exact ⟨(_, _), rfl⟩
  · rintro i ⟨l, m⟩ w ex ⟨sp, w3, w7, w8, w9, hS, rfl⟩
    have hi := (List.getElem?_eq_some_iff.mp ex).1
    simp only [c__law_spans_to_try_b1]
    simp [prE]
    refine W_cons ?_
    have ep : ss.map (fun p => Vv.tup [.int p.1, .int p.2]) = ss.map prE := rfl
    simp
    refine W_for (fun j w => ∃ sp w8 w9, Spans sp (5 + 20 * i + j) ∧ w = [some (.tup [.tup (cs.map prE), .tup (ss.map prE), .int k]), some (.lst (ns.map .int)), some (.lst sp), some (.int m), some (.tup (cs.map prE)), some (.tup (ss.map prE)), some (.int k), some (.int l), w8, w9]) ⟨sp, w8, w9, hS, rfl⟩ ?_ ?_
    · rintro j ⟨a, b⟩ w ey ⟨sp, w8, w9, hS, rfl⟩
      have hj := (List.getElem?_eq_some_iff.mp ey).1
      have z : sp.length < 16777216 := by have := hS.2.1; omega
      simp [c__law_spans_to_try_b2, prE, z]
      exact hS.snoc _ _
    · rintro w ⟨sp2, w8, w9, hS2, rfl⟩
      have l2 := hS2.2.1
      have z1 : sp2.length < 16777216 := by omega
      have z2 : sp2.length + 1 < 16777216 := by omega
      have z3 : sp2.length + 2 < 16777216 := by omega
      have z4 : sp2.length + 3 < 16777216 := by omega
      simp only [onF_nx]
      have q := (((hS2.snoc (l - k - 1) (l + 1)).snoc (l - k + 1) l).snoc (l - k) (l - 1)).snoc l l
      simp at q
      have y1 : sp2.length < 16777215 := by omega
      have y2 : sp2.length < 16777214 := by omega
      have y3 : sp2.length < 16777213 := by omega
      simp [ss_cons, z1, z2, z3, z4, y1, y2, y3]
      exact q.up (by omega)
  · rintro w ⟨sp, w3, w7, w8, w9, hS, rfl⟩
    simp only [onF_nx]
    refine W_cons ?_
    simp
    refine W_for (fun i w => ∃ sp w3, Spans sp (5 + 20 * ss.length + i) ∧ w = [some (.tup [.tup (cs.map prE), .tup (ss.map prE), .int k]), some (.lst (ns.map .int)), some (.lst sp), w3, some (.tup (cs.map prE)), some (.tup (ss.map prE)), some (.int k), w7, w8, w9]) ⟨sp, w3, hS, rfl⟩ ?_ ?_
    · rintro i x w ex ⟨sp, w3, hS, rfl⟩
      have hi := (List.getElem?_eq_some_iff.mp ex).1
      have z : sp.length < 16777216 := by have := hS.2.1; omega
      have lg : Nat.log2 16 < 9000 := log2_lt (by decide) (Nat.lt_of_lt_of_le (show 16 < 2 ^ 20 by decide) (by decide))
      simp [c__law_spans_to_try_b0, z, lg]
      exact hS.snoc _ _
    · rintro w ⟨sp, w3, hS, rfl⟩
      simp
      exact hS.up (by omega)
/-! ### wrong answers -/
def shapes (w : Str) (p : Vv) : List Vv := [.lst [.str w, p], .tup [.str w], .tup [.str w, p, p], .tup [.str w, p, .non], .tup [p, .str w], .tup [.str (w ++ Str.ofString " "), p], .tup [.str (Str.ofString ""), p], .tup [.non, p], .tup [.bl true, p], .tup [.str w, .non], .tup [.str w, .bl true], .tup [.str w, .str w], .non, .int 0, .str w, p, .tup []]
def S_shapes (F : FnsV) (i : Nat) : Prop := ∀ (w : Str) (p : Vv), w.length ≤ 1000 → F i [.str w, p] = .ok (.lst (shapes w p)) []
theorem shapes_s {P : PrV} {f : Nat} (hf : P.fns[f]? = some f__law_wrong_shapes) : Sp P f 1 S_shapes := .mk fun n hn w p hl => by
  refine call_is hf rfl rfl ?_
  have l1 : (Str.ofString " ").length = 1 := by decide +kernel
  have z : w.length + 1 ≤ 16777216 := by omega
  simp [c__law_wrong_shapes, startV, shapes, l1, z]
/-- no answer that could be right -/
structure BadA (v : Vv) : Prop where
  y : ∀ ts : List Tk, v ≠ .tup [.str YES, .tup (ts.map tkE)]
  n : ∀ a b : Int, v ≠ .tup [.str NO, .tup [.int a, .int b]]
  w : Wd v
  s : Sml v
theorem BadA.up {cs ss : List Pr} {k : Int} {v : Vv} (h : BadA v) : upV2 cs ss k v false := by
  unfold upV2
  simp only [Bool.false_eq_true, false_iff, not_or]
  exact ⟨fun ⟨ts, e, _⟩ => h.y ts e, fun ⟨a, b, e, _⟩ => h.n a b e⟩
theorem bad_two {w : Str} {p : Vv} (hw : PyData.strOk w = true) (hs : ∀ xs, p = .tup xs → xs.length < 2 ^ 60) (h1 : w = YES → ∀ ts : List Tk, p ≠ .tup (ts.map tkE)) (h2 : w = NO → ∀ a b : Int, p ≠ .tup [.int a, .int b]) : BadA (.tup [.str w, p]) := ⟨fun ts e => by
  have e := Vv.tup.inj e
  simp at e
  exact h1 e.1 ts e.2, fun a b e => by
  have e := Vv.tup.inj e
  simp at e
  exact h2 e.1 a b e.2, fun w' p' e => by cases e; exact hw, fun w' xs e => by
  have e := Vv.tup.inj e
  simp at e
  exact hs xs e.2⟩
theorem bad_no {v : Vv} (h : ∀ w p, v ≠ .tup [.str w, p]) (hs : Sml v) : BadA v := ⟨fun ts e => h _ _ e, fun a b e => h _ _ e, fun w p e => (h w p e).elim, hs⟩
theorem shapes_bad {w : Str} {p : Vv} (hw : w = YES ∨ w = NO) (hs : ∀ xs, p = .tup xs → xs.length < 2 ^ 60) (hp : ∀ v q, p ≠ .tup [.str v, q]) (hp2 : Sml p) (hT : ∃ xs, p = .tup xs) : ∀ v ∈ shapes w p, BadA v := by
  have wok : PyData.strOk w = true := by rcases hw with rfl | rfl <;> decide +kernel
  have e1 : PyData.strOk (w ++ Str.ofString " ") = true := by rcases hw with rfl | rfl <;> decide +kernel
  have e2 : PyData.strOk (Str.ofString "") = true := by decide +kernel
  have n1 : w ++ Str.ofString " " ≠ YES := by rcases hw with rfl | rfl <;> decide +kernel
  have n2 : w ++ Str.ofString " " ≠ NO := by rcases hw with rfl | rfl <;> decide +kernel
  have n3 : Str.ofString "" ≠ YES := by decide +kernel
  have n4 : Str.ofString "" ≠ NO := by decide +kernel
  have ns : ∀ (v : Vv), (∀ w xs, v ≠ .tup [w, .tup xs]) → Sml v := fun v h w xs e => (h w xs e).elim
  have fls : ∀ {q : Vv}, (∀ xs, q ≠ .tup xs) → BadA (.tup [.str w, q]) := fun {q} h => bad_two wok (fun xs e => (h xs e).elim) (fun _ ts => h _) (fun _ a b => h _)
  intro v hv
  unfold shapes at hv
  simp only [List.mem_cons, List.not_mem_nil, or_false] at hv
  rcases hv with rfl | rfl | rfl | rfl | rfl | rfl | rfl | rfl | rfl | rfl | rfl | rfl | rfl | rfl | rfl | rfl | rfl
  · exact bad_no (fun _ _ e => by cases e) (ns _ fun _ _ e => by cases e)
  · exact bad_no (fun _ _ e => by cases e) (ns _ fun _ _ e => by cases e)
  · exact bad_no (fun _ _ e => by cases e) (ns _ fun _ _ e => by cases e)
  · exact bad_no (fun _ _ e => by cases e) (ns _ fun _ _ e => by cases e)
  · refine ⟨fun ts e => ?_, fun a b e => ?_, fun w' p' e => ?_, fun w' xs e => ?_⟩
    · simp at e
    · simp at e
    · have e := Vv.tup.inj e
      simp at e
      obtain ⟨xs, rfl⟩ := hT
      cases e.1
    · simp at e
  · exact bad_two e1 hs (fun e => (n1 e).elim) (fun e => (n2 e).elim)
  · exact bad_two e2 hs (fun e => (n3 e).elim) (fun e => (n4 e).elim)
  · refine bad_no (fun _ _ e => by cases e) fun w' xs e => ?_
    have e := Vv.tup.inj e
    simp at e
    exact hs xs e.2
  · refine bad_no (fun _ _ e => by cases e) fun w' xs e => ?_
    have e := Vv.tup.inj e
    simp at e
    exact hs xs e.2
  · exact fls fun _ e => by cases e
  · exact fls fun _ e => by cases e
  · exact fls fun _ e => by cases e
  · exact bad_no (fun _ _ e => by cases e) (ns _ fun _ _ e => by cases e)
  · exact bad_no (fun _ _ e => by cases e) (ns _ fun _ _ e => by cases e)
  · exact bad_no (fun _ _ e => by cases e) (ns _ fun _ _ e => by cases e)
  · exact bad_no hp hp2
  · exact bad_no (fun _ _ e => by cases e) (ns _ fun _ _ e => by cases e)
end Core
end
section
set_option autoImplicit false
set_option maxRecDepth 100000
/-! k74: _law_other_kinds over values (own work). -/
namespace Core
open PySem PI PV
def BadL (xs : List Vv) (n : Nat) : Prop := xs.length ≤ n ∧ ∀ x ∈ xs, BadA x
theorem BadL.snoc {xs : List Vv} {n : Nat} {v : Vv} (h : BadL xs n) (k : BadA v) : BadL (xs ++ [v]) (n + 1) := ⟨by have := h.1; simp; omega, fun x hx => (List.mem_append.mp hx).elim (h.2 x) fun z => by simp at z; subst z; exact k⟩
theorem BadL.up {xs : List Vv} {n m : Nat} (h : BadL xs n) (k : n ≤ m) : BadL xs m := ⟨by have := h.1; omega, h.2⟩
def NotTk (v : Vv) : Prop := ∀ t : Tk, v ≠ tkE t
def Items7 (xs : List Vv) (n : Nat) : Prop := xs.length ≤ n ∧ ∀ x ∈ xs, NotTk x
theorem Items7.snoc {xs : List Vv} {n : Nat} {v : Vv} (h : Items7 xs n) (k : NotTk v) : Items7 (xs ++ [v]) (n + 1) := ⟨by have := h.1; simp; omega, fun x hx => (List.mem_append.mp hx).elim (h.2 x) fun z => by simp at z; subst z; exact k⟩
theorem Items7.up {xs : List Vv} {n m : Nat} (h : Items7 xs n) (k : n ≤ m) : Items7 xs m := ⟨by have := h.1; omega, h.2⟩
theorem bad_item {A Z : List Vv} {v : Vv} (h : NotTk v) (hl : A.length + Z.length < 1000) : BadA (.tup [.str YES, .tup (A ++ v :: Z)]) := bad_two yes_ok (fun xs e => by cases e; simp; omega) (fun _ ts e => by
  have e := Vv.tup.inj e
  have : v ∈ ts.map tkE := by rw [← e]; simp
  obtain ⟨t, _, e⟩ := List.mem_map.mp this
  exact h t e.symm) (fun e => (no_ne e.symm).elim)
theorem other_b2 {P : PrV} {n i : Nat} {a1 a2 : Nat} {B A Z ws : List Vv} {c s m : Int} {v0 v2 v5 v6 v7 v8 v9 v10 : Option Vv} {k : Nat} (ix : L2.atI B (i : Int) = some (tkE (c, s, m))) (hp : Place B i A Z) (hm : 1 ≤ m ∧ m ≤ 100000) (hw : BadL ws k) (hk : k < 100000) :
    W (vSs (callV P n) P.sub (c__law_other_kinds_b2 a1 a2) [v0, some (.tup B), v2, some (.lst ws), some (.int i), v5, v6, v7, v8, v9, v10])
      (fun f w => f = .nx ∧ ∃ ws' w5 w7 w8 w9 w10, BadL ws' (k + 9) ∧ w = [v0, some (.tup B), v2, some (.lst ws'), some (.int i), w5, v6, w7, w8, w9, w10]) noE := by
  have lg : m.natAbs.log2 < 1920 := log2_lt (by decide) (Nat.lt_of_lt_of_le (show m.natAbs < 2 ^ 20 by omega) (by decide))
  have bs : b1V .str (.int m) = some (.str ((toString m : String) : Str)) := by
    show g1 _ _ = _
    exact g1_pos lg
  have pa := hp.a
  have pz := hp.z
  have pl := hp.l
  simp only [c__law_other_kinds_b2]
  refine W_cons ?_
  simp [ix, tkE]
  refine W_cons ?_
  simp [bs]
  have h0 : Items7 [Vv.lst [.int c, .int s, .int m], .tup [.int c, .int s], .tup [.int c, .int s, .int m, .int 0], .non, .tup [.int c, .int s, .non], .tup [.int c, .int s, .str ((toString m : String) : Str)]] 6 := by
    refine ⟨by simp, fun x hx => ?_⟩
    simp only [List.mem_cons, List.not_mem_nil, or_false] at hx
    rcases hx with rfl | rfl | rfl | rfl | rfl | rfl <;> exact fun t e => by simp [tkE] at e
  have h0' : Items7 [Vv.lst [.int c, .int s, .int m], .tup [.int c, .int s], .tup [.int c, .int s, .int m, .int 0], .non, .tup [.int c, .int s, .non], .tup [.int c, .int s, .str (Str.ofString m.repr)]] 6 := h0
  clear h0
  generalize [Vv.lst [.int c, .int s, .int m], .tup [.int c, .int s], .tup [.int c, .int s, .int m, .int 0], .non, .tup [.int c, .int s, .non], .tup [.int c, .int s, .str (Str.ofString m.repr)]] = it0 at h0'
  refine W_cons ?_
  refine (show W _ (fun f w => f = .nx ∧ ∃ it, Items7 it 7 ∧ w = [v0, some (.tup B), v2, some (.lst ws), some (.int (i : Nat)), v5, v6, some (.lst it), some (.int c), some (.int s), some (.int m)]) noE from ?body).imp ?_ (fun _ z => z)
  case body =>
    have z : it0.length < 16777216 := by have := h0'.1; omega
    by_cases h : m = 1
    · subst h
      simp [z]
      exact h0'.snoc fun t e => by simp [tkE] at e
    · simp [h]
      exact h0'.up (by omega)
  rintro f w ⟨rfl, it1, h1, rfl⟩
  simp only [onF_nx]
  refine W_cons ?_
  refine (show W _ (fun f w => f = .nx ∧ ∃ it, Items7 it 8 ∧ w = [v0, some (.tup B), v2, some (.lst ws), some (.int (i : Nat)), v5, v6, some (.lst it), some (.int c), some (.int s), some (.int m)]) noE from ?body2).imp ?_ (fun _ z => z)
  case body2 =>
    have z : it1.length < 16777216 := by have := h1.1; omega
    by_cases h : c < 2
    · simp [h, z]
      exact h1.snoc fun t e => by simp [tkE] at e
    · simp [h]
      exact h1.up (by omega)
  rintro f w ⟨rfl, it2, h2, rfl⟩
  simp only [onF_nx]
  refine W_cons ?_
  refine (show W _ (fun f w => f = .nx ∧ ∃ it, Items7 it 9 ∧ w = [v0, some (.tup B), v2, some (.lst ws), some (.int (i : Nat)), v5, v6, some (.lst it), some (.int c), some (.int s), some (.int m)]) noE from ?body3).imp ?_ (fun _ z => z)
  case body3 =>
    have z : it2.length < 16777216 := by have := h2.1; omega
    by_cases h : s < 2
    · simp [h, z]
      exact h2.snoc fun t e => by simp [tkE] at e
    · simp [h]
      exact h2.up (by omega)
  rintro f w ⟨rfl, it3, h3, rfl⟩
  simp
  refine W_forV (fun j w => ∃ ws w5, BadL ws (k + j) ∧ w = [v0, some (.tup B), v2, some (.lst ws), some (.int (i : Nat)), w5, v6, some (.lst it3), some (.int c), some (.int s), some (.int m)]) ⟨ws, v5, hw, rfl⟩ ?_ ?_
  · rintro j x w ex ⟨ws, w5, hw, rfl⟩
    have hj := (List.getElem?_eq_some_iff.mp ex).1
    have h9 := h3.1
    have z : ws.length < 16777216 := by have := hw.1; omega
    have y2 : A.length + 1 ≤ 16777216 := by omega
    have y3 : A.length + (Z.length + 1) ≤ 16777216 := by omega
    have y4 : A.length + 1 + Z.length ≤ 16777216 := by omega
    have y8 : A.length ≤ 16777215 := by omega
    simp [c__law_other_kinds_b3, pa, pz, z, y2, y3, y4, y8]
    exact hw.snoc (bad_item (h3.2 x (List.mem_of_getElem? ex)) (by omega))
  · rintro w ⟨ws, w5, hw, rfl⟩
    have h9 := h3.1
    simp
    exact hw.up (by omega)
def S_other (F : FnsV) (i : Nat) : Prop := ∀ (cs ss : List Pr) (k : Int) (base : List Tk) (a b : Int), StOk cs ss k → base.length ≤ 256 → (∀ t ∈ base, TkOk cs ss t) → F i [stk cs ss k, .tup (base.map tkE), .tup [.int a, .int b]] = .ok (.bl true) []
theorem other_s {P : PrV} {f a b : Nat} (hf : P.fns[f]? = some (f__law_other_kinds a b)) (ha : Sp P a 1 S_shapes) (hb : Sp P b 5 S_upholds2) : Sp P f 6 S_other := .mk fun n hn cs ss k base a0 b0 ok lb hT => by
  have ea := ha n (by omega)
  have eb := fun v (h : BadA v) => hb n (by omega) cs ss k v false ok h.w h.s h.up
  have e1 := ea YES (.tup (base.map tkE)) (by decide +kernel)
  have e2 := ea NO (.tup [.int a0, .int b0]) (by decide +kernel)
  have hB := allTk_map base
  have lB : (base.map tkE).length ≤ 256 := by simpa using lb
  have pl := fun i hi => place base i lb hi
  have tka : ∀ i, i < base.length → L2.atI (base.map tkE) (i : Int) = some (tkE (tkAt base i)) := fun i hi => tk_at hi
  have lbb : (base.map tkE).length = base.length := by simp
  have s1 : ∀ v ∈ shapes YES (.tup (base.map tkE)), BadA v := shapes_bad (.inl rfl) (fun xs e => by cases e; omega) (fun v q e => by
    have e := Vv.tup.inj e
    have : Vv.str v ∈ base.map tkE := by rw [e]; simp
    obtain ⟨t, _, e⟩ := List.mem_map.mp this
    cases e) (fun w xs e => by
    have e := Vv.tup.inj e
    have : Vv.tup xs ∈ base.map tkE := by rw [e]; simp
    obtain ⟨t, _, e⟩ := List.mem_map.mp this
    have := congrArg List.length (Vv.tup.inj e)
    simp at this
    omega) ⟨_, rfl⟩
  have s2 : ∀ v ∈ shapes NO (.tup [.int a0, .int b0]), BadA v := shapes_bad (.inr rfl) (fun xs e => by cases e; simp) (fun v q e => by simp at e) (fun w xs e => by simp at e) ⟨_, rfl⟩
  refine call_is hf rfl rfl ?_
  simp only [c__law_other_kinds, startV]
  generalize base.map tkE = B at *
  have g1 : B.length ≤ 16777216 := by omega
  have csp : ∀ x y : Vv, cutL [x, y] none (some 1) = [x] := fun x y => by unfold cutL HT.sIx; simp
  refine W_cons ?_
  simp [g1, csp]
  refine W_cons ?_
  simp
  have hw0 : BadL [Vv.tup [.str YES, .lst B], .tup [.str NO, .lst [.int a0, .int b0]], .tup [.str NO, .tup [.int a0]], .tup [.str NO, .tup [.int a0, .int b0, .int a0]], .tup [.str NO, .tup [.int a0, .non]], .tup [.str NO, .tup [.non, .int b0]], .tup [.str NO, .tup [.str (Str.ofString "0"), .int b0]], .tup [.str NO, .tup [.int a0, .bl true]], .tup [.str NO, .tup [.bl false, .int b0]]] 9 := by
    refine ⟨by simp, fun x hx => ?_⟩
    have no : ∀ {p : Vv}, (∀ xs, p = .tup xs → xs.length < 100) → (∀ a b : Int, p ≠ .tup [.int a, .int b]) → BadA (.tup [.str NO, p]) := fun hs h => bad_two no_ok (fun xs e => by have := hs xs e; omega) (fun e => (no_ne e).elim) (fun _ => h)
    simp only [List.mem_cons, List.not_mem_nil, or_false] at hx
    rcases hx with rfl | rfl | rfl | rfl | rfl | rfl | rfl | rfl | rfl
    · exact bad_two yes_ok (fun _ e => by cases e) (fun _ ts e => by cases e) (fun e => (no_ne e.symm).elim)
    all_goals exact no (fun _ e => by cases e <;> simp) (fun _ _ e => by simp at e)
  simp only [YES, NO] at hw0
  generalize [Vv.tup [.str (Str.ofString "yes"), .lst B], .tup [.str (Str.ofString "no"), .lst [.int a0, .int b0]], .tup [.str (Str.ofString "no"), .tup [.int a0]], .tup [.str (Str.ofString "no"), .tup [.int a0, .int b0, .int a0]], .tup [.str (Str.ofString "no"), .tup [.int a0, .non]], .tup [.str (Str.ofString "no"), .tup [.non, .int b0]], .tup [.str (Str.ofString "no"), .tup [.str (Str.ofString "0"), .int b0]], .tup [.str (Str.ofString "no"), .tup [.int a0, .bl true]], .tup [.str (Str.ofString "no"), .tup [.bl false, .int b0]]] = ws0 at hw0
  refine W_cons ?_
  simp [lbb, isr_nat (show base.length < 2 ^ 61 by omega), rng0]
  refine W_for (fun i w => ∃ ws w4 w5 w7 w8 w9 w10, BadL ws (9 + 9 * i) ∧ w = [some (stk cs ss k), some (.tup B), some (.tup [.int a0, .int b0]), some (.lst ws), w4, w5, none, w7, w8, w9, w10]) ⟨ws0, _, _, _, _, _, _, hw0, rfl⟩ ?_ ?_
  · rintro i q w eq ⟨ws, w4, w5, w7, w8, w9, w10, hw, rfl⟩
    have hi : i < base.length ∧ q = i := by
      obtain ⟨q1, q2⟩ := List.getElem?_eq_some_iff.mp eq
      rw [List.getElem_range] at q2
      exact ⟨by simpa using q1, q2.symm⟩
    obtain ⟨hi, rfl⟩ := hi
    obtain ⟨A, Z, hp⟩ := pl q hi
    have ix := tka q hi
    have hok : TkOk cs ss (tkAt base q) := hT _ (by
      unfold tkAt
      rw [List.getD_eq_getElem?_getD, List.getElem?_eq_getElem hi]
      exact List.getElem_mem hi)
    obtain ⟨⟨c, s, m⟩, htk⟩ : ∃ t : Tk, tkAt base q = t := ⟨_, rfl⟩
    rw [htk] at ix hok
    refine (other_b2 ix hp ⟨hok.2.2.1, hok.2.2.2⟩ hw (by omega)).imp ?_ (fun _ z => z)
    rintro f w ⟨rfl, ws', u5, u7, u8, u9, u10, hw', rfl⟩
    exact ⟨ws', _, u5, u7, u8, u9, u10, hw'.up (by omega), rfl⟩
  · rintro w ⟨ws, w4, w5, w7, w8, w9, w10, hw, rfl⟩
    simp only [onF_nx]
    rw [List.length_range] at hw
    refine W_cons ?_
    simp
    refine W_forV (fun j w => ∃ ws w5, BadL ws (9 + 9 * base.length + j) ∧ w = [some (stk cs ss k), some (.tup B), some (.tup [.int a0, .int b0]), some (.lst ws), w4, w5, none, w7, w8, w9, w10]) ⟨ws, w5, hw, rfl⟩ ?_ ?_
    · rintro j x w ex ⟨ws, w5, hw, rfl⟩
      have hj := (List.getElem?_eq_some_iff.mp ex).1
      simp at hj
      have hx := List.mem_of_getElem? ex
      have z : ws.length < 16777216 := by have := hw.1; omega
      have y : B.length + 1 ≤ 16777216 := by omega
      have y' : B.length ≤ 16777215 := by omega
      have hn : NotTk x := by
        simp only [List.mem_cons, List.not_mem_nil, or_false] at hx
        rcases hx with rfl | rfl | rfl | rfl <;> exact fun t e => by simp [tkE] at e
      simp [c__law_other_kinds_b1, z, y, y']
      have := hw.snoc (bad_item (A := B) (Z := []) hn (by simp; omega))
      exact this
    rintro w ⟨ws, w5, hw, rfl⟩
    simp at hw
    have lws := hw.1
    have e1' : callV P n a [.str (Str.ofString "yes"), .tup B] = .ok (.lst (shapes YES (.tup B))) [] := e1
    have e2' : callV P n a [.str (Str.ofString "no"), .tup [.int a0, .int b0]] = .ok (.lst (shapes NO (.tup [.int a0, .int b0]))) [] := e2
    have l1 : (shapes YES (.tup B)).length = 17 := rfl
    have l2 : (shapes NO (.tup [.int a0, .int b0])).length = 17 := rfl
    have hall : ∀ v ∈ ws ++ (shapes YES (.tup B) ++ shapes NO (.tup [.int a0, .int b0])), BadA v := fun v hv => by
      rcases List.mem_append.mp hv with h | h
      · exact hw.2 v h
      · rcases List.mem_append.mp h with h | h
        · exact s1 v h
        · exact s2 v h
    generalize shapes YES (.tup B) = S1 at *
    generalize shapes NO (.tup [.int a0, .int b0]) = S2 at *
    simp only [onF_nx]
    refine W_cons ?_
    have y1 : ws.length + S1.length ≤ 16777216 := by omega
    have y2 : ws.length + S1.length + S2.length ≤ 16777216 := by omega
    have y3 : ws.length + (S1.length + S2.length) ≤ 16777216 := by omega
    simp [e1', e2', l1, l2]
    refine ⟨by omega, by omega, ?_⟩
    refine W_forV (fun j w => ∃ w6, w = [some (stk cs ss k), some (.tup B), some (.tup [.int a0, .int b0]), some (.lst ws), w4, w5, w6, w7, w8, w9, w10]) ⟨_, rfl⟩ ?_ ?_
    · rintro j x w ex ⟨w6, rfl⟩
      have hx := hall x (List.mem_of_getElem? ex)
      simp [c__law_other_kinds_b0, eb x hx]
    · rintro w ⟨w6, rfl⟩
      simp
end Core
end
section
set_option autoImplicit false
set_option maxRecDepth 100000
/-! k74: the law over values (own work). -/
namespace Core
open PySem PI PV
theorem up_yes {cs ss : List Pr} {k : Int} {ts : List Tk} : upV2 cs ss k (.tup [.str YES, .tup (ts.map tkE)]) (fillB cs ss k ts) := by
  unfold upV2
  constructor
  · intro h
    exact .inl ⟨ts, rfl, h⟩
  · rintro (⟨ts', e, h⟩ | ⟨x, y, e, _⟩)
    · have e := Vv.tup.inj e
      simp at e
      have : ts' = ts := ((List.map_inj_right (f := tkE) (fun _ _ h => tkE_inj h)).mp e.symm)
      rw [← this]; exact h
    · have e := Vv.tup.inj e
      simp at e
      exact (no_ne e.1.symm).elim
theorem up_no {cs ss : List Pr} {k a b : Int} : upV2 cs ss k (.tup [.str NO, .tup [.int a, .int b]]) (shortB cs ss k a b) := by
  unfold upV2
  constructor
  · intro h
    exact .inr ⟨a, b, rfl, h⟩
  · rintro (⟨ts', e, h⟩ | ⟨x, y, e, h⟩)
    · have e := Vv.tup.inj e
      simp at e
      exact (no_ne e.1).elim
    · cases e; exact h
def S_law0 (F : FnsV) (i : Nat) : Prop := ∀ sc : List Int, F i [.ro (sc.map .int)] = .ok (.bl true) []
theorem law74_s {P : PrV} {f a1 a2 a3 a4 a5 a6 a7 a8 a9 a10 : Nat} (hf : P.fns[f]? = some (f_law_4 a1 a2 a3 a4 a5 a6 a7 a8 a9 a10))
    (h1 : Sp P a1 6 S_other) (h2 : Sp P a2 1 S_sameB) (h3 : Sp P a3 1 S_short) (h4 : Sp P a4 5 S_upholds2) (h5 : Sp P a5 1 S_spans) (h6 : Sp P a6 1 S_tries) (h7 : Sp P a7 1 S_isfill) (h8 : Sp P a8 1 S_lfilled) (h9 : Sp P a9 2 S_lsub) (h10 : Sp P a10 1 S_numbers) : Sp P f 7 S_law0 := .mk fun n hn sc => by
  obtain ⟨ns, e10, l60, hns⟩ := h10 n (by omega) sc 60 (by omega)
  obtain ⟨cs, ss, k, e9, ok⟩ := h9 n (by omega) ns l60 hns
  have lc := ok.lc
  have ls := ok.ls
  obtain ⟨b0, e80, t0, m0⟩ := h8 n (by omega) cs ss k false ok
  obtain ⟨b1, e81, t1, m1⟩ := h8 n (by omega) cs ss k true ok
  have e7 := fun ts (h : ts.length < 2 ^ 60) => h7 n (by omega) cs ss k ts (by omega) (by omega) h
  have e6 := fun b => h6 n (by omega) cs ss k b lc ls
  have e5 := fun ns => h5 n (by omega) cs ss k ns ls
  have e4 := h4 n (by omega) cs ss k
  have e3 := fun a b => h3 n (by omega) cs ss k a b (by omega) (by omega)
  have e2 := h2 n (by omega)
  unfold S_sameB at e2
  have e1 := fun b x y => h1 n (by omega) cs ss k b x y ok
  have wdY : ∀ p, Wd (.tup [.str YES, p]) := fun p w q e => by cases e; exact yes_ok
  have wdN : ∀ p, Wd (.tup [.str NO, p]) := fun p w q e => by cases e; exact no_ok
  have upY : ∀ ts : List Tk, ts.length ≤ 1000 → callV P n a4 [stk cs ss k, .tup [.str (Str.ofString "yes"), .tup (ts.map tkE)]] = .ok (.bl (fillB cs ss k ts)) [] := fun ts hl => e4 _ _ ok (wdY _) (fun w xs e => by
    have e := Vv.tup.inj e
    simp at e
    rw [← e.2]; simp; omega) up_yes
  have upN : ∀ x y : Int, callV P n a4 [stk cs ss k, .tup [.str (Str.ofString "no"), .tup [.int x, .int y]]] = .ok (.bl (shortB cs ss k x y)) [] := fun x y => e4 _ _ ok (wdN _) (fun w xs e => by
    have e := Vv.tup.inj e
    simp at e
    rw [← e.2]; simp) up_no
  have e10' : callV P n a10 [.ro (sc.map .int), .int 60] = _ := e10
  refine call_is hf rfl rfl ?_
  simp only [c_law_4, startV]
  refine W_cons ?_
  simp [e10']
  refine W_cons ?_
  simp [e9]
  refine W_cons ?_
  simp [e80, e81]
  refine W_cons ?_
  have f0 := e7 b0 (by omega)
  have f1 := e7 b1 (by omega)
  have u0 := upY b0 (by omega)
  have u1 := upY b1 (by omega)
  simp [loopF_cons, loopF_nil, c_law_4_b2, f0, f1, u0, u1, e2]
  have gi : ∀ j : Nat, j < 60 → ∃ x : Int, L2.atI (ns.map Vv.int) (j : Int) = some (.int x) ∧ 0 ≤ x := fun j hj => by
    have hj' : j < ns.length := by omega
    exact ⟨ns[j], at_map hj', (hns _ (List.getElem_mem hj')).1⟩
  obtain ⟨x50, g50, p50⟩ := gi 50 (by omega)
  obtain ⟨x55, g55, p55⟩ := gi 55 (by omega)
  have g50 : L2.atI (ns.map Vv.int) 50 = some (.int x50) := g50
  have g55 : L2.atI (ns.map Vv.int) 55 = some (.int x55) := g55
  obtain ⟨base, eb, tb, mb⟩ : ∃ base : List Tk, L2.atI [Vv.tup (b0.map tkE), .tup (b1.map tkE)] (x50 % 2) = some (.tup (base.map tkE)) ∧ (∀ t ∈ base, TkOk cs ss t) ∧ base.length ≤ 256 := by
    have m1' := Int.emod_nonneg x50 (b := 2) (by decide)
    have m2' := Int.emod_lt_of_pos x50 (b := 2) (by decide)
    have : x50 % 2 = 0 ∨ x50 % 2 = 1 := by omega
    rcases this with h | h
    · rw [h]; exact ⟨b0, by simp, t0, m0⟩
    · rw [h]; exact ⟨b1, by simp, t1, m1⟩
  have cn : cutL (ns.map Vv.int) (some 51) (some 55) = ((ns.drop 51).take 4).map .int := by
    have := cut_mid (xs := ns.map Vv.int) (a := 51) (b := 55) (by simp [l60]) (by omega)
    rw [List.map_take, List.map_drop]
    exact this
  obtain ⟨ps, e6', hP⟩ := e6 base mb
  obtain ⟨sp, e5', hS⟩ := e5 ((ns.drop 51).take 4) (by simp; omega)
  have l4 : ((ns.drop 51).take 4).length ≤ 4 := by rw [List.length_take]; omega
  generalize (ns.drop 51).take 4 = n4 at *
  generalize ns.map Vv.int = L at *
  refine W_cons ?_
  simp [g50, eb]
  refine W_cons ?_
  simp [e6']
  refine W_forV (fun i w => ∃ w5, w = [some (.ro (sc.map .int)), some (.lst L), some (stk cs ss k), some (.lst [.tup (b0.map tkE), .tup (b1.map tkE)]), some (.tup (base.map tkE)), w5, none, none]) ⟨none, rfl⟩ ?_ ?_
  · rintro i x w ex ⟨w5, rfl⟩
    obtain ⟨ys, rfl, h2', h3'⟩ := hP.2 x (List.mem_of_getElem? ex)
    obtain ⟨ts, rfl⟩ := h2'.list
    have hl : ts.length ≤ 600 := by simpa using h3'
    have q1 := e7 ts (by omega)
    have q2 := upY ts (by omega)
    simp [c_law_4_b1, q1, q2, e2]
  · rintro w ⟨w5, rfl⟩
    simp only [onF_nx]
    refine W_cons ?_
    have l4' : n4.length ≤ 16777216 := by omega
    simp [cn, e5', l4']
    obtain ⟨pl, rfl⟩ := hS.list
    have hS1 := hS.1
    have hS2 := hS.2.1
    simp at hS1 hS2
    refine W_cons ?_
    simp
    refine W_for (fun i w => ∃ w7, w = [some (.ro (sc.map .int)), some (.lst L), some (stk cs ss k), some (.lst [.tup (b0.map tkE), .tup (b1.map tkE)]), some (.tup (base.map tkE)), w5, some (.lst (pl.map prE)), w7]) ⟨none, rfl⟩ ?_ ?_
    · rintro i ⟨x, y⟩ w ex ⟨w7, rfl⟩
      have q1 := e3 x y
      have q2 := upN x y
      simp [c_law_4_b0, prE, q1, q2, e2]
    · rintro w ⟨w7, rfl⟩
      have p0 : 0 < (pl.length : Int) := by omega
      have m1' := Int.emod_nonneg x55 (b := (pl.length : Int)) (by omega)
      have m2' := Int.emod_lt_of_pos x55 (b := (pl.length : Int)) p0
      have pa := pr_at (ps := pl) (i := x55 % (pl.length : Int)) m1' m2'
      have q1 := e1 base (prAt pl (x55 % (pl.length : Int))).1 (prAt pl (x55 % (pl.length : Int))).2 mb tb
      have p0' : 0 < pl.length := by omega
      simp [g55, p0', pa, prE, q1]
end Core
end
section
set_option maxRecDepth 100000
set_option maxHeartbeats 0
namespace Core
open PySem PI L2 PV
def d_is_whole : DefI := ⟨"is_whole", 4, [("value" : Str)], [("value" : Str)], c_is_whole⟩
def d_is_whole_in : DefI := ⟨"is_whole_in", 5, [("value" : Str), ("low" : Str), ("high" : Str)], [("value" : Str), ("low" : Str), ("high" : Str)], (c_is_whole_in 0)⟩
def d_is_tuple_of : DefI := ⟨"is_tuple_of", 6, [("value" : Str), ("low" : Str), ("high" : Str)], [("value" : Str), ("low" : Str), ("high" : Str)], c_is_tuple_of⟩
def d_is_answer : DefI := ⟨"is_answer", 7, [("value" : Str)], [("value" : Str)], (c_is_answer 2)⟩
def d_check_pairs : DefI := ⟨"check_pairs", 12, [("pairs" : Str), ("pair" : Str)], [("pairs" : Str)], (c_check_pairs 1 2 1)⟩
def d_check_stock : DefI := ⟨"check_stock", 13, [("subject" : Str)], [("subject" : Str)], (c_check_stock 1 4 2 1)⟩
def d_cast_between : DefI := ⟨"cast_between", 14, [("casts" : Str), ("first" : Str), ("last" : Str), ("day" : Str), ("number" : Str)], [("casts" : Str), ("first" : Str), ("last" : Str)], c_cast_between⟩
def d_due_between : DefI := ⟨"due_between", 15, [("sales" : Str), ("keep" : Str), ("first" : Str), ("last" : Str), ("day" : Str), ("number" : Str)], [("sales" : Str), ("keep" : Str), ("first" : Str), ("last" : Str)], c_due_between⟩
def d_is_short_span : DefI := ⟨"is_short_span", 16, [("subject" : Str), ("first" : Str), ("last" : Str), ("casts" : Str), ("sales" : Str), ("keep" : Str)], [("subject" : Str), ("first" : Str), ("last" : Str)], (c_is_short_span 7 6)⟩
def d_is_take : DefI := ⟨"is_take", 18, [("subject" : Str), ("item" : Str), ("day" : Str), ("casts" : Str), ("sales" : Str), ("keep" : Str)], [("subject" : Str), ("item" : Str)], (c_is_take 0 1 2)⟩
def d_sums_by : DefI := ⟨"sums_by", 19, [("count" : Str), ("takes" : Str), ("place" : Str), ("sums" : Str), ("take" : Str), ("index" : Str)], [("count" : Str), ("takes" : Str), ("place" : Str)], c_sums_by⟩
def d_fills : DefI := ⟨"fills", 20, [("subject" : Str), ("paper" : Str), ("item" : Str), ("at" : Str), ("used" : Str), ("got" : Str), ("casts" : Str), ("sales" : Str), ("keep" : Str), ("day" : Str), ("number" : Str)], [("subject" : Str), ("paper" : Str)], (c_fills 10 9)⟩
def d_is_shortage : DefI := ⟨"is_shortage", 21, [("subject" : Str), ("paper" : Str)], [("subject" : Str), ("paper" : Str)], (c_is_shortage 8 0 2)⟩
def d_upholds_stock : DefI := ⟨"upholds_stock", 22, [("subject" : Str), ("answer" : Str)], [("subject" : Str), ("answer" : Str)], (c_upholds_stock 12 11 3 5)⟩
def d__law_same : DefI := ⟨"_law_same", 24, [("actual" : Str), ("due" : Str), ("one" : Str), ("other" : Str)], [("actual" : Str), ("due" : Str)], (c__law_same_2 14)⟩
def d__law_numbers : DefI := ⟨"_law_numbers", 25, [("script" : Str), ("count" : Str), ("rest" : Str), ("numbers" : Str), ("state" : Str), ("k" : Str), ("cell" : Str), ("at" : Str)], [("script" : Str), ("count" : Str)], c__law_numbers⟩
def d__law_pairs : DefI := ⟨"_law_pairs", 26, [("numbers" : Str), ("many" : Str), ("base" : Str), ("wide" : Str), ("size" : Str), ("pairs" : Str), ("k" : Str), ("day" : Str), ("number" : Str)], [("numbers" : Str), ("many" : Str), ("base" : Str), ("wide" : Str), ("size" : Str)], c__law_pairs_2⟩
def d__law_subject : DefI := ⟨"_law_subject", 27, [("numbers" : Str), ("wide" : Str), ("base" : Str), ("keep" : Str), ("many" : Str), ("sold" : Str), ("size" : Str), ("casts" : Str), ("sales" : Str)], [("numbers" : Str)], (c__law_subject 16)⟩
def d__law_short : DefI := ⟨"_law_short", 28, [("subject" : Str), ("first" : Str), ("last" : Str), ("wanted" : Str), ("casts" : Str), ("sales" : Str), ("keep" : Str), ("day" : Str), ("number" : Str)], [("subject" : Str), ("first" : Str), ("last" : Str)], c__law_short⟩
def d__law_wrong_shapes : DefI := ⟨"_law_wrong_shapes", 29, [("word" : Str), ("paper" : Str)], [("word" : Str), ("paper" : Str)], c__law_wrong_shapes⟩
def d__law_filled : DefI := ⟨"_law_filled", 30, [("subject" : Str), ("newest" : Str), ("left" : Str), ("by_day" : Str), ("takes" : Str), ("casts" : Str), ("sales" : Str), ("keep" : Str), ("day" : Str), ("sale" : Str), ("missing" : Str), ("cast_day" : Str), ("cast" : Str), ("taken" : Str), ("number" : Str), ("k" : Str)], [("subject" : Str), ("newest" : Str)], c__law_filled⟩
def d__law_is_filling : DefI := ⟨"_law_is_filling", 31, [("subject" : Str), ("paper" : Str), ("used" : Str), ("got" : Str), ("at" : Str), ("k" : Str), ("casts" : Str), ("sales" : Str), ("keep" : Str), ("pair" : Str), ("cast" : Str), ("sale" : Str), ("number" : Str), ("day" : Str)], [("subject" : Str), ("paper" : Str)], c__law_is_filling⟩
def d__law_fillings_to_try : DefI := ⟨"_law_fillings_to_try", 32, [("subject" : Str), ("base" : Str), ("papers" : Str), ("at" : Str), ("casts" : Str), ("sales" : Str), ("keep" : Str), ("other" : Str), ("k" : Str), ("cast" : Str), ("sale" : Str), ("number" : Str)], [("subject" : Str), ("base" : Str)], c__law_fillings_to_try⟩
def d__law_spans_to_try : DefI := ⟨"_law_spans_to_try", 33, [("subject" : Str), ("numbers" : Str), ("spans" : Str), ("number" : Str), ("casts" : Str), ("sales" : Str), ("keep" : Str), ("last" : Str), ("first" : Str), ("other" : Str)], [("subject" : Str), ("numbers" : Str)], c__law_spans_to_try⟩
def d__law_other_kinds : DefI := ⟨"_law_other_kinds", 34, [("subject" : Str), ("base" : Str), ("span" : Str), ("wrong" : Str), ("at" : Str), ("item" : Str), ("answer" : Str), ("items" : Str), ("cast" : Str), ("sale" : Str), ("number" : Str)], [("subject" : Str), ("base" : Str), ("span" : Str)], (c__law_other_kinds 19 13)⟩
def d_law : DefI := ⟨"law", 35, [("script" : Str), ("numbers" : Str), ("subject" : Str), ("bases" : Str), ("base" : Str), ("paper" : Str), ("spans" : Str), ("span" : Str)], [("script" : Str)], (c_law_4 24 14 18 13 23 22 21 20 17 15)⟩
def dl0 : List DefI := [d_is_whole, d_is_whole_in, d_is_tuple_of, d_is_answer, d_check_pairs, d_check_stock, d_cast_between, d_due_between, d_is_short_span, d_is_take, d_sums_by, d_fills, d_is_shortage, d_upholds_stock, d__law_same, d__law_numbers, d__law_pairs, d__law_subject, d__law_short, d__law_wrong_shapes]
def dl1 : List DefI := [d__law_filled, d__law_is_filling, d__law_fillings_to_try, d__law_spans_to_try, d__law_other_kinds, d_law]
def dl : List DefI := dl0 ++ dl1
def gcons0 : List (Str × Lit) := [(("MOST_PAIRS" : Str), (.int 16)), (("LAST_DAY" : Str), (.int 5000)), (("MOST_NUMBER" : Str), (.int 100000))]
def gcons : List (Str × Lit) := gcons0
def L : LawI := ⟨dl, gcons, [("FoundryError" : Str), ("BadStock" : Str)], [("ValueError" : Str), ("abs" : Str), ("all" : Str), ("bool" : Str), ("enumerate" : Str), ("int" : Str), ("isinstance" : Str), ("len" : Str), ("list" : Str), ("min" : Str), ("range" : Str), ("sorted" : Str), ("str" : Str), ("sum" : Str), ("tuple" : Str), ("zip" : Str)], [], [[true, false], [true, true]]⟩
def ans : List An := [a_is_whole, a_is_whole_in, a_is_tuple_of, a_is_answer, a_check_pairs, a_check_stock, a_cast_between, a_due_between, a_is_short_span, a_is_take, a_sums_by, a_fills, a_is_shortage, a_upholds_stock, a__law_same_2, a__law_numbers, a__law_pairs_2, a__law_subject, a__law_short, a__law_wrong_shapes, a__law_filled, a__law_is_filling, a__law_fillings_to_try, a__law_spans_to_try, a__law_other_kinds, a_law_4]
def VP : PrV := ⟨List.zipWith FnV.mk (dl.map DefI.fn) ans, L.subF⟩
theorem h_is_whole : VP.fns[0]? = some f_is_whole := by rfl
theorem h_is_whole_in : VP.fns[1]? = some (f_is_whole_in 0) := by rfl
theorem h_is_tuple_of : VP.fns[2]? = some f_is_tuple_of := by rfl
theorem h_is_answer : VP.fns[3]? = some (f_is_answer 2) := by rfl
theorem h_check_pairs : VP.fns[4]? = some (f_check_pairs 1 2 1) := by rfl
theorem h_check_stock : VP.fns[5]? = some (f_check_stock 1 4 2 1) := by rfl
theorem h_cast_between : VP.fns[6]? = some f_cast_between := by rfl
theorem h_due_between : VP.fns[7]? = some f_due_between := by rfl
theorem h_is_short_span : VP.fns[8]? = some (f_is_short_span 7 6) := by rfl
theorem h_is_take : VP.fns[9]? = some (f_is_take 0 1 2) := by rfl
theorem h_sums_by : VP.fns[10]? = some f_sums_by := by rfl
theorem h_fills : VP.fns[11]? = some (f_fills 10 9) := by rfl
theorem h_is_shortage : VP.fns[12]? = some (f_is_shortage 8 0 2) := by rfl
theorem h_upholds_stock : VP.fns[13]? = some (f_upholds_stock 12 11 3 5) := by rfl
theorem h__law_same : VP.fns[14]? = some (f__law_same_2 14) := by rfl
theorem h__law_numbers : VP.fns[15]? = some f__law_numbers := by rfl
theorem h__law_pairs : VP.fns[16]? = some f__law_pairs_2 := by rfl
theorem h__law_subject : VP.fns[17]? = some (f__law_subject 16) := by rfl
theorem h__law_short : VP.fns[18]? = some f__law_short := by rfl
theorem h__law_wrong_shapes : VP.fns[19]? = some f__law_wrong_shapes := by rfl
theorem h__law_filled : VP.fns[20]? = some f__law_filled := by rfl
theorem h__law_is_filling : VP.fns[21]? = some f__law_is_filling := by rfl
theorem h__law_fillings_to_try : VP.fns[22]? = some f__law_fillings_to_try := by rfl
theorem h__law_spans_to_try : VP.fns[23]? = some f__law_spans_to_try := by rfl
theorem h__law_other_kinds : VP.fns[24]? = some (f__law_other_kinds 19 13) := by rfl
theorem h_law : VP.fns[25]? = some (f_law_4 24 14 18 13 23 22 21 20 17 15) := by rfl
def lo0 : List Str := [("FoundryError" : Str), ("BadStock" : Str), ("is_whole" : Str), ("is_whole_in" : Str), ("is_tuple_of" : Str), ("is_answer" : Str), ("MOST_PAIRS" : Str), ("LAST_DAY" : Str), ("MOST_NUMBER" : Str), ("check_pairs" : Str), ("check_stock" : Str), ("cast_between" : Str), ("due_between" : Str), ("is_short_span" : Str), ("is_take" : Str), ("sums_by" : Str), ("fills" : Str), ("is_shortage" : Str), ("upholds_stock" : Str), ("_law_same" : Str)]
def lo1 : List Str := [("_law_numbers" : Str), ("_law_pairs" : Str), ("_law_subject" : Str), ("_law_short" : Str), ("_law_wrong_shapes" : Str), ("_law_filled" : Str), ("_law_is_filling" : Str), ("_law_fillings_to_try" : Str), ("_law_spans_to_try" : Str), ("_law_other_kinds" : Str)]
def lo : List Str := lo0 ++ lo1
abbrev R : PySem.W.OpenRow := PySem.W.OpenLaw.row PySem.Challenge.rw_typefoundry_k74_stock_judge
abbrev PG : PySem.Program := PySem.Challenge.pw_typefoundry_k74_stock_judge
theorem chk : L.chk PG = true := by decide +kernel
def ob (s : PySem.W.SharedT) : He.AlD := L.obsG PG 4 (HandSHeadRun.getT s)
theorem ob_eq (s : PySem.W.SharedT) : ob s = (L.hook PG 4).obs s.abs := LawI.obsG_eq (HandSHeadRun.getT_eq s)
theorem run (w : PySem.World) : HandSHeadRun.RunEq R (PySem.W.view R.prog [35]) (L.hook PG 4) ob 4000 lo w := by
  intro os
  kernel_rfl
theorem vok : VP.ok = true := by decide +kernel
theorem vpr : VP.pr = L.prog := by rfl
end Core
end
section
set_option maxRecDepth 100000
namespace Core
open PySem PI PV
theorem run74 : Sp VP 25 7 S_law0 := by
  have w := is_whole_s h_is_whole
  have wi := is_whole_in_s h_is_whole_in w
  have tu := is_tuple_of_s h_is_tuple_of
  have an := is_answer_s h_is_answer tu
  have cp := check_pairs_s h_check_pairs wi tu
  have ck := check_stock_s h_check_stock wi cp tu
  have cb := cast_between_s h_cast_between
  have db := due_between_s h_due_between
  have sh := is_short_span_s h_is_short_span db cb
  have tk := is_take_s h_is_take w wi tu
  have sb := sums_by_s h_sums_by
  have fi := fills_s h_fills sb tk
  have sg := is_shortage_s h_is_shortage sh w tu
  have up := upholds2_s h_upholds_stock sg fi an ck
  have sm := same2_s h__law_same
  have nu := numbers_s h__law_numbers
  have lp := lpairs_s h__law_pairs
  have su := lsub_s h__law_subject lp
  have ls := lshort_s h__law_short
  have ws := shapes_s h__law_wrong_shapes
  have lf := lfilled_s h__law_filled
  have fl := isfill_s h__law_is_filling
  have tr := tries_s h__law_fillings_to_try
  have sp := spans_s h__law_spans_to_try
  have ot := other_s h__law_other_kinds ws up
  exact law74_s h_law ot sm ls up sp tr fl lf su nu
theorem holds : ∀ ns : List Int, ns.length ≤ 63 → ∀ k : Bool, ∃ h, callN L.prog 61 25 [.ref 0] [.ro k (ns.map .int)] = .ok (.bl true) h := fun ns _ k => by
  rw [← vpr]
  exact run_ok VP vok rfl (run74 61 (by decide) ns) k
end Core
end
set_option maxRecDepth 100000
set_option maxHeartbeats 0
open PySem PySem.W PySem.Calls PyProof.Rows
theorem PySem.Challenge.cw_typefoundry_k74_stock_judge_holds : PySem.Challenge.rw_typefoundry_k74_stock_judge.Holds := by
  w_on; o_law
  refine HandSHeadRun.head_any (r := OpenLaw.row PySem.Challenge.rw_typefoundry_k74_stock_judge) (q := view (OpenLaw.row PySem.Challenge.rw_typefoundry_k74_stock_judge).prog [35]) (H := Core.L.hook Core.PG 4) (ob := Core.ob) (M := 4000) (loose := Core.lo) (d := HandSHeadRun.topDef (OpenLaw.row PySem.Challenge.rw_typefoundry_k74_stock_judge).prog 35) (kwd := []) Core.ob_eq
    (by kernel_rfl) (fun s => by kernel_rfl) Core.run (by kernel_rfl) (by kernel_rfl) (by kernel_rfl) (by rfl) (by first | assumption | decide +kernel) (by decide +kernel) ⟨rfl, rfl, rfl, rfl, rfl, by decide +kernel⟩ ?hw ?hc
  case hw => w_witness2
  case hc =>
    exact PI.LawI.walk (L := Core.L) (p := Core.PG) (l := PySem.Challenge.rw_typefoundry_k74_stock_judge) (m := 63) (n := 60) (f := 25) (di := Core.d_law) (x := "script") rfl (by decide) (by kernel_rfl) ⟨rfl, by decide, by decide⟩ (by kernel_rfl) rfl rfl Core.chk Core.holds

