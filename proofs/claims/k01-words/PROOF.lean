import PyProof.Rows.All
import Wide.All
import OpenK.AllK
import Wide.FinOn
import HandS.ForMost
import HandS.ForExc
import HandS.Wide
import HandS.IsInst
import HandS.ExcIs
import KE.KExcIs
import HandS.HotCalls
import HandS.Conv
import HandS.SortInts
import HandS.RaiseMore
import HandS.ExcInit
import HandS.Defaults
import HandS.ExcInitHot
import HandS.HeadHook4
import HandS.HeadEnd
import HandS.HeadWalk
import PyProof.StrLawsTight
import KE.DataEq
import KE.KIntText
import HandS.Head2
import Lean
import PySem.Challenge.RW_closedfull_k01_words_and_numbers
set_option Elab.async false
set_option linter.all false
set_option maxRecDepth 100000
/-! Mp: a small interpreter of its own over a plain heap. A: values, heap, text, evaluator. -/
namespace Mp
open PySem
/-- a value; ref n: the n-th object of the heap; cls c: the c-th class of the program -/
inductive W where
  | non | bl (b : Bool) | int (i : Int) | str (x : Str) | ref (n : Nat) | ty (n : String) | cls (c : Nat)
  deriving DecidableEq, Inhabited
/-- an object -/
inductive Ob where
  | lst (xs : List W) | tup (xs : List W) | frl (xs : List W)
  | dct (kvs : List (L2.Key × W)) | ins (c : Nat) (fs : List (Str × W)) | exc (c : Nat) (w : W) | dead
  deriving DecidableEq, Inhabited
abbrev Hq := List Ob
/-- an end: a value, or an exception of class c with its what -/
inductive Er (α : Type) where
  | ok (a : α) | exc (c : Nat) (w : W)
abbrev M (α : Type) := Option (Er α × Hq)
def ret {α : Type} (a : α) (h : Hq) : M α := some (.ok a, h)
def bnd {α β : Type} (r : M α) (f : α → Hq → M β) : M β :=
  match r with
  | none => none
  | some (.ok a, h) => f a h
  | some (.exc c w, h) => some (.exc c w, h)
@[simp] theorem bnd_none {α β : Type} (f : α → Hq → M β) : bnd none f = none := rfl
@[simp] theorem bnd_ok {α β : Type} (a : α) (h : Hq) (f : α → Hq → M β) : bnd (some (.ok a, h)) f = f a h := rfl
@[simp] theorem bnd_ret {α β : Type} (a : α) (h : Hq) (f : α → Hq → M β) : bnd (ret a h) f = f a h := rfl
@[simp] theorem bnd_exc {α β : Type} (c : Nat) (w : W) (h : Hq) (f : α → Hq → M β) : bnd (some (.exc c w, h)) f = some (.exc c w, h) := rfl
def alloc (o : Ob) (h : Hq) : M W := some (.ok (.ref h.length), h ++ [o])
/-- the line of sizes -/
abbrev line : Nat := 16777216

/-! ### by values -/
inductive BOp | add | sub | mul | fdiv | mod | pow
  deriving DecidableEq
inductive COp | eq | ne | lt | le | gt | ge | isin | nin
  deriving DecidableEq
def lstOf (h : Hq) : W → Option (List W)
  | .ref a => match h[a]? with
    | some (.lst xs) => some xs
    | some (.frl xs) => some xs
    | _ => none
  | _ => none
def tupOf (h : Hq) : W → Option (List W)
  | .ref a => match h[a]? with
    | some (.tup xs) => some xs
    | _ => none
  | _ => none
def seqOf (h : Hq) (w : W) : Option (List W) := match lstOf h w with
  | some xs => some xs
  | none => tupOf h w
def addV (x y : W) (h : Hq) : M W := match x, y with
  | .int i, .int j => ret (.int (i + j)) h
  | .str a, .str b => if a.length + b.length ≤ line then ret (.str (a ++ b)) h else none
  | .ref a, .ref b => match h[a]?, h[b]? with
    | some (.lst xs), some (.lst ys) => if xs.length + ys.length ≤ line then alloc (.lst (xs ++ ys)) h else none
    | some (.tup xs), some (.tup ys) => if xs.length + ys.length ≤ line ∧ xs ≠ [] then (if ys = [] then ret x h else alloc (.tup (xs ++ ys)) h) else none
    | _, _ => none
  | _, _ => none
def subV (x y : W) (h : Hq) : M W := match x, y with
  | .int i, .int j => ret (.int (i - j)) h
  | _, _ => none
/-- a text k times -/
def repS (x : Str) (n : Int) : Str := if n < 1 then Str.empty else if (n == 1 || x.length == 0) = true then x else ⟨(List.replicate n.toNat x.cps).foldl (· ++ ·) #[]⟩
def mulV (x y : W) (h : Hq) : M W := match x, y with
  | .int i, .int j => if i.natAbs.log2 + j.natAbs.log2 < 1000000 then ret (.int (i * j)) h else none
  | .str a, .int n => if -1000000 ≤ n ∧ n ≤ 1000000 ∧ a.length * n.toNat ≤ line then ret (.str (repS a n)) h else none
  | .ref a, .int n => match h[a]? with
    | some (.lst xs) => if -1000000 ≤ n ∧ n ≤ 1000000 ∧ xs.length * n.toNat ≤ line then alloc (.lst (List.replicate n.toNat xs).flatten) h else none
    | _ => none
  | _, _ => none
def fdivV (x y : W) (h : Hq) : M W := match x, y with
  | .int i, .int j => if 0 < j ∧ j.natAbs.log2 < 9000 then ret (.int (i / j)) h else none
  | _, _ => none
def modV (x y : W) (h : Hq) : M W := match x, y with
  | .int i, .int j => if 0 < j then ret (.int (i % j)) h else none
  | _, _ => none
def powV (x y : W) (h : Hq) : M W := match x, y with
  | .int i, .int n => if 0 ≤ n ∧ (Builtin.Int.intBits i : Int) * n ≤ 134217728 then ret (.int (i ^ n.toNat)) h else none
  | _, _ => none
def augV (o : BOp) (x y : W) (h : Hq) : M W := match o, x, y with
  | .add, .int i, .int j => ret (.int (i + j)) h
  | .add, .str a, .str b => if a.length + b.length ≤ line then ret (.str (a ++ b)) h else none
  | .sub, .int i, .int j => ret (.int (i - j)) h
  | _, _, _ => none
def binV : BOp → W → W → Hq → M W
  | .add => addV | .sub => subV | .mul => mulV | .fdiv => fdivV | .mod => modV | .pow => powV
/-- plain values that == tells as data -/
def scalW : W → W → Bool
  | .non, .non => true | .non, .int _ => true | .int _, .non => true | .non, .bl _ => true | .bl _, .non => true | .non, .str _ => true | .str _, .non => true
  | .int _, .int _ => true | .bl _, .bl _ => true | .str _, .str _ => true
  | .int _, .str _ => true | .str _, .int _ => true | .bl _, .str _ => true | .str _, .bl _ => true
  | _, _ => false
/-- a value read as data, n deep -/
def rdD (h : Hq) : Nat → W → Option PyData
  | 0, _ => none
  | n + 1, w => match w with
    | .non => some .none
    | .bl b => some (.bool b)
    | .int i => some (.int i)
    | .str x => some (.str x)
    | .ref a => match h[a]? with
      | some (.lst xs) => (xs.mapM (rdD h n)).map .list
      | some (.frl xs) => (xs.mapM (rdD h n)).map .list
      | some (.tup xs) => (xs.mapM (rdD h n)).map .tuple
      | _ => none
    | _ => none
def eqV (x y : W) (h : Hq) : Option Bool :=
  if scalW x y then some (decide (x = y)) else match rdD h 12 x, rdD h 12 y with
    | some d, some e => if SeqAt.shaped d && SeqAt.shaped e then some (PyData.eqv d e) else none
    | _, _ => none
def flatW : W → Bool
  | .non => true | .bl _ => true | .int _ => true | .str _ => true | _ => false
def eqF : W → W → Bool
  | .non, .non => true
  | .bl a, .bl b => a == b
  | .bl a, .int b => (if a then 1 else 0) == b
  | .int a, .bl b => a == (if b then 1 else 0)
  | .int a, .int b => a == b
  | .str a, .str b => a == b
  | _, _ => false
def keyOf : W → Option L2.Key
  | .int i => some (.inl i)
  | .str x => some (.inr x)
  | _ => none
/-- a text in a text -/
def hasS (x z : Str) : Bool := !(Builtin.Str.occurrences z x 0 z.length 1).isEmpty
/-- x in y -/
def inW (x y : W) (h : Hq) : Option Bool := match x, y with
  | .str a, .str b => some (hasS a b)
  | x, .ref a => match h[a]? with
    | some (.lst ys) => if flatW x && ys.all flatW then some (ys.any fun y => eqF y x) else none
    | some (.frl ys) => if flatW x && ys.all flatW then some (ys.any fun y => eqF y x) else none
    | some (.tup ys) => if flatW x && ys.all flatW then some (ys.any fun y => eqF y x) else none
    | _ => none
  | _, _ => none
def ltS (a b : Str) : Bool := decide (a.cps.toList < b.cps.toList)
def ordV (f : Int → Int → Bool) (g : Str → Str → Bool) (x y : W) : Option Bool := match x, y with
  | .int i, .int j => some (f i j)
  | .str a, .str b => some (g a b)
  | _, _ => none
def cmpV : COp → W → W → Hq → Option Bool
  | .eq, x, y, h => eqV x y h
  | .ne, x, y, h => (eqV x y h).map (!·)
  | .lt, x, y, _ => ordV (fun i j => decide (i < j)) ltS x y
  | .le, x, y, _ => ordV (fun i j => decide (i ≤ j)) (fun a b => !ltS b a) x y
  | .gt, x, y, _ => ordV (fun i j => decide (j < i)) (fun a b => ltS b a) x y
  | .ge, x, y, _ => ordV (fun i j => decide (j ≤ i)) (fun a b => !ltS a b) x y
  | .isin, x, y, h => inW x y h
  | .nin, x, y, h => (inW x y h).map (!·)
def optB (o : Option Bool) (h : Hq) : M W := match o with
  | some b => ret (.bl b) h
  | none => none
/-- truth -/
def truV (h : Hq) : W → Option Bool
  | .non => some false
  | .bl b => some b
  | .int i => some (i != 0)
  | .str x => if x.length ≤ line then some ((x.length : Int) != 0) else none
  | .ref a => match h[a]? with
    | some (.lst xs) => some (!xs.isEmpty)
    | some (.frl xs) => some (!xs.isEmpty)
    | some (.tup xs) => some (!xs.isEmpty)
    | some (.dct kvs) => some (!kvs.isEmpty)
    | _ => none
  | _ => none
def optT (o : Option Bool) (h : Hq) : M Bool := match o with
  | some b => ret b h
  | none => none
/-- x[i] -/
def ixV (x i : W) (h : Hq) : M W := match i with
  | .int k => match x with
    | .str z => if z.length ≤ line then (match L2.atI z.cps.toList k with
      | some c => ret (.str ⟨#[c]⟩) h
      | none => none) else none
    | .ref a => match h[a]? with
      | some (.lst xs) => (match L2.atI xs k with | some v => ret v h | none => none)
      | some (.frl xs) => (match L2.atI xs k with | some v => ret v h | none => none)
      | some (.tup xs) => (match L2.atI xs k with | some v => ret v h | none => none)
      | _ => none
    | _ => none
  | _ => none
def cutL {α : Type} (xs : List α) (lo hi : Option Int) : List α := (xs.drop (HT.sIx xs.length 0 lo)).take (HT.sIx xs.length xs.length hi - HT.sIx xs.length 0 lo)
/-- x[lo:hi] -/
def cutW (x : W) (lo hi : Option Int) (h : Hq) : M W := match x with
  | .str z => if z.length ≤ line then ret (.str (L2.cutS z lo hi)) h else none
  | .ref a => match h[a]? with
    | some (.lst xs) => alloc (.lst (cutL xs lo hi)) h
    | some (.frl xs) => alloc (.lst (cutL xs lo hi)) h
    | _ => none
  | _ => none
/-- o[i] = v -/
def setV (o i v : W) (h : Hq) : Option Hq := match o with
  | .ref a => match h[a]? with
    | some (.lst xs) => (match i with
      | .int k => (L2.ixN xs.length k).map fun j => h.set a (.lst (xs.set j v))
      | _ => none)
    | _ => none
  | _ => none
/-- built-in functions and types that are called -/
inductive Fn | len | int | str | abs | min | max | list | isi | sorted
  deriving DecidableEq
/-- a value's type, a built-in one -/
def tyOf (h : Hq) : W → Option String
  | .non => some "NoneType"
  | .bl _ => some "bool"
  | .int _ => some "int"
  | .str _ => some "str"
  | .ref a => match h[a]? with
    | some (.lst _) => some "list"
    | some (.frl _) => some "list"
    | some (.tup _) => some "tuple"
    | some (.dct _) => some "dict"
    | _ => none
  | _ => none
/-- an object's own class; is it an exception -/
def clsOf (h : Hq) : W → Option (Bool × Nat)
  | .ref a => match h[a]? with
    | some (.ins c _) => some (false, c)
    | some (.exc c _) => some (true, c)
    | _ => none
  | _ => none
/-- methods of built-in types -/
inductive Mt | append | pop | upper | split | join | strip | startswith | find
  deriving DecidableEq
/-- the receiver's kind, ahead of the arguments -/
def mthPre (m : Mt) (x : W) (h : Hq) : Bool := match m with
  | .append => (lstOf h x).isSome
  | .pop => (lstOf h x).isSome
  | _ => (match x with | .str _ => true | _ => false)
/-! ### the text -/
mutual
inductive E where
  | var (i : Nat) | cst (w : W) | glob (g : Nat) | ty (n : String) | cls (c : Nat)
  | bin (o : BOp) (a b : E) | neg (a : E)
  | cmp (o : COp) (a b : E) | isN (k : Bool) (a : E) | chn (o p : COp) (a b c : E)
  | not (a : E) | and (a b : E) | or (a b : E) | ite (c a b : E)
  | call (f : Nat) (es : Es) | fn (b : Fn) (es : Es) | mth (m : Mt) (o : E) (es : Es)
  | attr (f : Str) (o : E)
  | lrg (a : E) | lrg2 (a b : E) | ix (a i : E) | cut (a : E) (lo hi : Op)
  | tup (es : Es) | lst (es : Es)
  | comp (x : Nat) (s : Src) (c : Op) (el : E)
inductive Es where | nil | cons (e : E) (es : Es)
inductive Op where | no | yes (e : E)
inductive Src where | any (e : E) | rng (e : E) | rng2 (a b : E)
end
inductive Tg where | one (i : Nat) | two (i j : Nat) | three (i j k : Nat)
mutual
inductive S where
  | asg (i : Nat) (e : E) | asc (i : Nat) (e : E)
  | unp (is : List Nat) (e : E) | sto (o i e : E)
  | aug (i : Nat) (o : BOp) (e : E) | exp (e : E)
  | ite (c : E) (a b : Ss) | whl (c : E) (b : Ss) | for (t : Nat) (s : Src) (b : Ss)
  | ret (e : E) | ret0 | rse (c : Nat) (e : E) | try (b : Ss) (c : Nat) (i : Nat) (hb : Ss)
  | brk | cnt | pas | frz (is : List Nat)
inductive Ss where | nil | cons (s : S) (r : Ss)
end
structure FnD where
  ar : Nat
  n : Nat
  body : Ss
structure Gam where
  fn : Nat → Option FnD
  glob : Nat → Option W
  /-- which are classes of the program; which of them are exceptions -/
  hc : Nat → Bool
  exc : Nat → Bool
  sub : Nat → Nat → Bool
  /-- the class c under a built-in class -/
  subT : Nat → String → Bool
  tys : List String
abbrev Calls := Nat → List W → Hq → M W
abbrev Env := List (Option W)
/-- a statement's end -/
inductive Fl where
  | nx (ρ : Env) | ret (v : W) | brk (ρ : Env) | ct (ρ : Env) | exc (c : Nat) (w : W) (ρ : Env)
abbrev RS := Option (Fl × Hq)
def lft {α : Type} (r : M α) (ρ : Env) (f : α → Hq → RS) : RS := match r with
  | none => none
  | some (.ok a, h) => f a h
  | some (.exc c w, h) => some (.exc c w ρ, h)
@[simp] theorem lft_none {α : Type} (ρ : Env) (f : α → Hq → RS) : lft none ρ f = none := rfl
@[simp] theorem lft_ok {α : Type} (a : α) (h : Hq) (ρ : Env) (f : α → Hq → RS) : lft (some (.ok a, h)) ρ f = f a h := rfl
@[simp] theorem lft_ret {α : Type} (a : α) (h : Hq) (ρ : Env) (f : α → Hq → RS) : lft (Mp.ret a h) ρ f = f a h := rfl
@[simp] theorem lft_exc {α : Type} (c : Nat) (w : W) (h : Hq) (ρ : Env) (f : α → Hq → RS) : lft (some (.exc c w, h) : M α) ρ f = some (.exc c w ρ, h) := rfl
def sq (r : RS) (f : Env → Hq → RS) : RS := match r with
  | some (.nx ρ, h) => f ρ h
  | r => r
@[simp] theorem sq_none (f : Env → Hq → RS) : sq none f = none := rfl
@[simp] theorem sq_nx (ρ : Env) (h : Hq) (f : Env → Hq → RS) : sq (some (.nx ρ, h)) f = f ρ h := rfl
@[simp] theorem sq_ret (v : W) (h : Hq) (f : Env → Hq → RS) : sq (some (.ret v, h)) f = some (.ret v, h) := rfl
@[simp] theorem sq_brk (ρ : Env) (h : Hq) (f : Env → Hq → RS) : sq (some (.brk ρ, h)) f = some (.brk ρ, h) := rfl
@[simp] theorem sq_ct (ρ : Env) (h : Hq) (f : Env → Hq → RS) : sq (some (.ct ρ, h)) f = some (.ct ρ, h) := rfl
@[simp] theorem sq_exc (c : Nat) (w : W) (ρ : Env) (h : Hq) (f : Env → Hq → RS) : sq (some (.exc c w ρ, h)) f = some (.exc c w ρ, h) := rfl
def isiV (Γ : Gam) (h : Hq) (x t : W) : Option Bool := match tyOf h x with
  | some a => (match t with
    | .ty b => L2.kitB a b
    | _ => none)
  | none => (match clsOf h x with
    | some (e, c) => if Γ.hc c = true ∧ Γ.exc c = e then (match t with
      | .cls d => if Γ.hc d = true then some (Γ.sub c d) else none
      | .ty b => if b ∈ Γ.tys then some (Γ.subT c b) else none
      | _ => none) else none
    | none => none)
def rngL (i j : Int) : List W := (List.range (j - i).toNat).map fun (k : Nat) => W.int (i + k)
def rngOk (i : Int) : Bool := decide (-1000000000 ≤ i ∧ i ≤ 1000000000)
/-- texts, all of them -/
def strsOf : List W → Option (List Str)
  | [] => some []
  | .str z :: r => (strsOf r).map (z :: ·)
  | _ :: _ => none
def intsOf : List W → Option (List Int)
  | [] => some []
  | .int z :: r => (intsOf r).map (z :: ·)
  | _ :: _ => none
/-- ints in order -/
def insI (x : Int) : List Int → List Int
  | [] => [x]
  | y :: r => if x ≤ y then x :: y :: r else y :: insI x r
def sortI : List Int → List Int
  | [] => []
  | x :: r => insI x (sortI r)
def fnV (Γ : Gam) (b : Fn) (vs : List W) (h : Hq) : M W := match b, vs with
  | .len, [.str z] => if z.length ≤ line then ret (.int z.length) h else none
  | .len, [.ref a] => (match h[a]? with
    | some (.lst xs) => ret (.int xs.length) h
    | some (.frl xs) => ret (.int xs.length) h
    | some (.tup xs) => ret (.int xs.length) h
    | _ => none)
  | .int, [.int i] => ret (.int i) h
  | .abs, [.int i] => ret (.int (if i < 0 then -i else i)) h
  | .min, [.int i, .int j] => ret (.int (if j < i then j else i)) h
  | .max, [.int i, .int j] => ret (.int (if j > i then j else i)) h
  | .str, [.int i] => if i.natAbs.log2 < 1920 then ret (.str (toString i)) h else none
  | .str, [.str z] => ret (.str z) h
  | .int, [.str z] => (match PySem.intText? z with
    | some n => if z.length ≤ 640 then ret (.int n) h else none
    | none => none)
  | .sorted, [x] => (match (lstOf h x).bind intsOf with
    | some ns => alloc (.lst ((sortI ns).map .int)) h
    | none => none)
  | .list, [.ref a] => (match h[a]? with
    | some (.lst xs) => alloc (.lst xs) h
    | some (.frl xs) => alloc (.lst xs) h
    | some (.tup xs) => alloc (.lst xs) h
    | _ => none)
  | .isi, [x, t] => optB (isiV Γ h x t) h
  | _, _ => none
def lrgV (x y : W) (h : Hq) : M W := match x, y with
  | .int i, .int j => if rngOk i && rngOk j && decide ((j - i).toNat ≤ line) then alloc (.lst (rngL i j)) h else none
  | _, _ => none
def mthV (m : Mt) (o : W) (vs : List W) (h : Hq) : M W := match m, o, vs with
  | .append, .ref a, [y] => (match h[a]? with
    | some (.lst xs) => if xs.length < line then ret .non (h.set a (.lst (xs ++ [y]))) else none
    | _ => none)
  | .pop, .ref a, [] => (match h[a]? with
    | some (.lst xs) => (match xs[xs.length - 1]? with
      | some y => ret y (h.set a (.lst xs.dropLast))
      | none => none)
    | _ => none)
  | .upper, .str z, [] => if z.length ≤ 5592405 then ret (.str (Txt.upper z)) h else none
  | .split, .str z, [.str b] => if (b.length == 0) = false ∧ z.length + 2 ≤ line then alloc (.lst ((Txt.split z b).map .str)) h else none
  | .join, .str z, [y] => (match (seqOf h y).bind strsOf with
    | some ys => if (ys.map (·.length)).sum + ys.length * z.length ≤ 16777216 then ret (.str (Txt.join z ys)) h else none
    | none => none)
  | .strip, .str z, [] => if z.length ≤ line then ret (.str (Txt.strip z)) h else none
  | .startswith, .str z, [.str b] => ret (.bl (Txt.startswith z b)) h
  | .find, .str z, [.str b] => ret (.int (Txt.find z b)) h
  | _, _, _ => none
def attrV (Γ : Gam) (f : Str) (o : W) (h : Hq) : M W := match o with
  | .ref a => (match h[a]? with
    | some (.exc c w) => if (Γ.hc c && Γ.exc c) = true then ret w h else none
    | _ => none)
  | _ => none
/-- what a loop walks: the object that must stay, the items -/
abbrev Wk := Option (Nat × Ob) × List W
def stays (g : Option (Nat × Ob)) (h : Hq) : Bool := match g with
  | none => true
  | some (a, o) => decide (h[a]? = some o)
def walkOf (w : W) (h : Hq) : M Wk := match w with
  | .str z => ret (none, z.cps.toList.map fun c => W.str ⟨#[c]⟩) h
  | .ref a => match h[a]? with
    | some (.lst xs) => ret (some (a, .lst xs), xs) h
    | some (.frl xs) => ret (some (a, .frl xs), xs) h
    | some (.tup xs) => ret (some (a, .tup xs), xs) h
    | _ => none
  | _ => none
/-- a loop's turns -/
def forL (g : Option (Nat × Ob)) (t : Nat) (body : Env → Hq → RS) : List W → Env → Hq → RS
  | [], ρ, h => if stays g h then some (.nx ρ, h) else none
  | x :: xs, ρ, h => if stays g h then (match body (ρ.set t (some x)) h with
    | some (.nx ρ', h') => forL g t body xs ρ' h'
    | some (.ct ρ', h') => forL g t body xs ρ' h'
    | some (.brk ρ', h') => some (.nx ρ', h')
    | r => r) else none
/-- a comprehension's turns: the new list stands at D; an exception is not carried -/
def compL (g : Option (Nat × Ob)) (D : Nat) (t : W → Hq → M Bool) (el : W → Hq → M W) : List W → Hq → Option Hq
  | [], h => if stays g h then some h else none
  | x :: xs, h => if stays g h then (match t x h with
    | some (.ok true, h1) => (match el x h1 with
      | some (.ok y, h2) => (match h2[D]? with
        | some (.lst acc) => if acc.length < line then compL g D t el xs (h2.set D (.lst (acc ++ [y]))) else none
        | _ => none)
      | _ => none)
    | some (.ok false, h1) => compL g D t el xs h1
    | _ => none) else none
def whileL (t : Env → Hq → M Bool) (body : Env → Hq → RS) : Nat → Env → Hq → RS
  | 0, _, _ => none
  | n + 1, ρ, h => match t ρ h with
    | none => none
    | some (.exc c w, h) => some (.exc c w ρ, h)
    | some (.ok false, h) => some (.nx ρ, h)
    | some (.ok true, h) => match body ρ h with
      | some (.nx ρ', h') => whileL t body n ρ' h'
      | some (.ct ρ', h') => whileL t body n ρ' h'
      | some (.brk ρ', h') => some (.nx ρ', h')
      | r => r
mutual
def evE (Γ : Gam) (k : Calls) : E → Env → Hq → M W
  | .var i, ρ, h => (match ρ[i]? with | some (some v) => ret v h | _ => none)
  | .cst w, _, h => ret w h
  | .glob g, _, h => (match Γ.glob g with | some v => ret v h | none => none)
  | .ty n, _, h => ret (.ty n) h
  | .cls c, _, h => ret (.cls c) h
  | .bin o a b, ρ, h => bnd (evE Γ k a ρ h) fun x h => bnd (evE Γ k b ρ h) fun y h => binV o x y h
  | .neg a, ρ, h => bnd (evE Γ k a ρ h) fun x h => (match x with | .int i => ret (.int (-i)) h | _ => none)
  | .cmp o a b, ρ, h => bnd (evE Γ k a ρ h) fun x h => bnd (evE Γ k b ρ h) fun y h => optB (cmpV o x y h) h
  | .isN s a, ρ, h => bnd (evE Γ k a ρ h) fun x h => ret (.bl (s == decide (x = .non))) h
  | .chn o p a b c, ρ, h => bnd (evE Γ k a ρ h) fun x h => bnd (evE Γ k b ρ h) fun y h => bnd (optT (cmpV o x y h) h) fun t h =>
      if t = true then bnd (evE Γ k c ρ h) fun z h => optB (cmpV p y z h) h else ret (.bl false) h
  | .not a, ρ, h => bnd (evE Γ k a ρ h) fun x h => (match x with | .bl b => ret (.bl (!b)) h | _ => none)
  | .and a b, ρ, h => bnd (evE Γ k a ρ h) fun x h => (match x with | .bl true => evE Γ k b ρ h | .bl false => ret (.bl false) h | _ => none)
  | .or a b, ρ, h => bnd (evE Γ k a ρ h) fun x h => (match x with | .bl true => ret (.bl true) h | .bl false => evE Γ k b ρ h | _ => none)
  | .ite c a b, ρ, h => bnd (evT Γ k c ρ h) fun t h => if t = true then evE Γ k a ρ h else evE Γ k b ρ h
  | .call f es, ρ, h => bnd (evEs Γ k es ρ h) fun vs h => k f vs h
  | .fn b es, ρ, h => bnd (evEs Γ k es ρ h) fun vs h => fnV Γ b vs h
  | .mth m o es, ρ, h => bnd (evE Γ k o ρ h) fun x h => if mthPre m x h = true then bnd (evEs Γ k es ρ h) fun vs h => mthV m x vs h else none
  | .attr f o, ρ, h => bnd (evE Γ k o ρ h) fun x h => attrV Γ f x h
  | .lrg a, ρ, h => bnd (evE Γ k a ρ h) fun x h => lrgV (.int 0) x h
  | .lrg2 a b, ρ, h => bnd (evE Γ k a ρ h) fun x h => bnd (evE Γ k b ρ h) fun y h => lrgV x y h
  | .ix a i, ρ, h => bnd (evE Γ k a ρ h) fun x h => bnd (evE Γ k i ρ h) fun y h => ixV x y h
  | .cut a lo hi, ρ, h => bnd (evE Γ k a ρ h) fun x h => bnd (evO Γ k lo ρ h) fun l h => bnd (evO Γ k hi ρ h) fun u h => cutW x l u h
  | .tup es, ρ, h => bnd (evEs Γ k es ρ h) fun vs h => if vs.length ≤ line then alloc (.tup vs) h else none
  | .lst es, ρ, h => bnd (evEs Γ k es ρ h) fun vs h => if vs.length ≤ line then alloc (.lst vs) h else none
  | .comp x s c el, ρ, h => bnd (evS Γ k s ρ h) fun w h =>
      match compL w.1 h.length (fun v h => evC Γ k c (ρ.set x (some v)) h) (fun v h => evE Γ k el (ρ.set x (some v)) h) w.2 (h ++ [.lst []]) with
      | some h' => ret (.ref h.length) h'
      | none => none
def evT (Γ : Gam) (k : Calls) : E → Env → Hq → M Bool
  | .not a, ρ, h => bnd (evT Γ k a ρ h) fun b h => ret (!b) h
  | .and a b, ρ, h => bnd (evT Γ k a ρ h) fun t h => if t = true then evT Γ k b ρ h else ret false h
  | .or a b, ρ, h => bnd (evT Γ k a ρ h) fun t h => if t = true then ret true h else evT Γ k b ρ h
  | .cmp o a b, ρ, h => bnd (evE Γ k a ρ h) fun x h => bnd (evE Γ k b ρ h) fun y h => optT (cmpV o x y h) h
  | .isN s a, ρ, h => bnd (evE Γ k a ρ h) fun x h => ret (s == decide (x = .non)) h
  | .chn o p a b c, ρ, h => bnd (evE Γ k a ρ h) fun x h => bnd (evE Γ k b ρ h) fun y h => bnd (optT (cmpV o x y h) h) fun t h =>
      if t = true then bnd (evE Γ k c ρ h) fun z h => optT (cmpV p y z h) h else ret false h
  | .ite _ _ _, _, _ => none
  | .var i, ρ, h => (match ρ[i]? with | some (some v) => optT (truV h v) h | _ => none)
  | .call f es, ρ, h => bnd (evEs Γ k es ρ h) fun vs h => bnd (k f vs h) fun x h => optT (truV h x) h
  | .fn b es, ρ, h => bnd (evEs Γ k es ρ h) fun vs h => bnd (fnV Γ b vs h) fun x h => optT (truV h x) h
  | .ix a i, ρ, h => bnd (evE Γ k a ρ h) fun x h => bnd (evE Γ k i ρ h) fun y h => bnd (ixV x y h) fun x h => optT (truV h x) h
  | .attr f o, ρ, h => bnd (evE Γ k o ρ h) fun x h => bnd (attrV Γ f x h) fun x h => optT (truV h x) h
  | .mth m o es, ρ, h => bnd (evE Γ k o ρ h) fun x h => if mthPre m x h = true then bnd (evEs Γ k es ρ h) fun vs h => bnd (mthV m x vs h) fun x h => optT (truV h x) h else none
  | _, _, _ => none
def evEs (Γ : Gam) (k : Calls) : Es → Env → Hq → M (List W)
  | .nil, _, h => ret [] h
  | .cons e es, ρ, h => bnd (evE Γ k e ρ h) fun v h => bnd (evEs Γ k es ρ h) fun vs h => ret (v :: vs) h
def evO (Γ : Gam) (k : Calls) : Op → Env → Hq → M (Option Int)
  | .no, _, h => ret none h
  | .yes e, ρ, h => bnd (evE Γ k e ρ h) fun v h => (match v with | .int i => ret (some i) h | _ => none)
def evC (Γ : Gam) (k : Calls) : Op → Env → Hq → M Bool
  | .no, _, h => ret true h
  | .yes e, ρ, h => evT Γ k e ρ h
def evS (Γ : Gam) (k : Calls) : Src → Env → Hq → M Wk
  | .any e, ρ, h => bnd (evE Γ k e ρ h) fun v h => walkOf v h
  | .rng e, ρ, h => bnd (evE Γ k e ρ h) fun v h => (match v with | .int j => if rngOk j then ret (none, rngL 0 j) h else none | _ => none)
  | .rng2 a b, ρ, h => bnd (evE Γ k a ρ h) fun v h => bnd (evE Γ k b ρ h) fun w h => (match v, w with | .int i, .int j => if rngOk i && rngOk j then ret (none, rngL i j) h else none | _, _ => none)
end
/-- the handled exception is let go -/
def killX : Ob → Ob
  | .exc _ _ => .dead
  | o => o
/-- slots from a list -/
def setAll : List Nat → List W → Env → Option Env
  | [], [], ρ => some ρ
  | i :: is, v :: vs, ρ => setAll is vs (ρ.set i (some v))
  | _, _, _ => none
mutual
def exS (Γ : Gam) (wf : Nat) (k : Calls) : S → Env → Hq → RS
  | .asg i e, ρ, h => lft (evE Γ k e ρ h) ρ fun v h => some (.nx (ρ.set i (some v)), h)
  | .asc i e, ρ, h => lft (evE Γ k e ρ h) ρ fun v h => some (.nx (ρ.set i (some v)), h)
  | .unp is e, ρ, h => lft (evE Γ k e ρ h) ρ fun v h => (match tupOf h v with
    | some xs => (match setAll is xs ρ with | some ρ' => some (.nx ρ', h) | none => none)
    | none => none)
  | .sto o i e, ρ, h => lft (evE Γ k e ρ h) ρ fun v h => lft (evE Γ k o ρ h) ρ fun x h => lft (evE Γ k i ρ h) ρ fun y h =>
      (match setV x y v h with | some h' => some (.nx ρ, h') | none => none)
  | .aug i o e, ρ, h => (match ρ[i]? with
    | some (some x) => lft (evE Γ k e ρ h) ρ fun y h => lft (augV o x y h) ρ fun z h => some (.nx (ρ.set i (some z)), h)
    | _ => none)
  | .exp e, ρ, h => lft (evE Γ k e ρ h) ρ fun _ h => some (.nx ρ, h)
  | .ite c a b, ρ, h => lft (evT Γ k c ρ h) ρ fun t h => if t = true then exSs Γ wf k a ρ h else exSs Γ wf k b ρ h
  | .whl c b, ρ, h => whileL (fun ρ h => evT Γ k c ρ h) (fun ρ h => exSs Γ wf k b ρ h) wf ρ h
  | .for t s b, ρ, h => lft (evS Γ k s ρ h) ρ fun w h => forL w.1 t (fun ρ h => exSs Γ wf k b ρ h) w.2 ρ h
  | .ret e, ρ, h => lft (evE Γ k e ρ h) ρ fun v h => some (.ret v, h)
  | .ret0, _, h => some (.ret .non, h)
  | .rse c e, ρ, h => lft (evE Γ k e ρ h) ρ fun v h => some (.exc c v ρ, h)
  | .try b c i hb, ρ, h => (match exSs Γ wf k b ρ h with
    | some (.exc c' w ρ', h') => if (Γ.hc c' && Γ.exc c') = true then (if Γ.sub c' c = true then (match exSs Γ wf k hb (ρ'.set i (some (.ref h'.length))) (h' ++ [.exc c' w]) with
        | some (.nx ρ2, h2) => some (.nx (ρ2.set i none), h2.map killX)
        | some (.ret v, h2) => some (.ret v, h2.map killX)
        | _ => none) else some (.exc c' w ρ', h')) else none
    | r => r)
  | .brk, ρ, h => some (.brk ρ, h)
  | .cnt, ρ, h => some (.ct ρ, h)
  | .pas, ρ, h => some (.nx ρ, h)
  | .frz _, ρ, h => some (.nx ρ, h)
def exSs (Γ : Gam) (wf : Nat) (k : Calls) : Ss → Env → Hq → RS
  | .nil, ρ, h => some (.nx ρ, h)
  | .cons s r, ρ, h => sq (exS Γ wf k s ρ h) fun ρ h => exSs Γ wf k r ρ h
end
/-- a def's frame at its start -/
def start (n : Nat) (vs : List W) : Env := vs.map some ++ List.replicate (n - vs.length) none
def endF : RS → M W
  | some (.nx _, h) => some (.ok .non, h)
  | some (.ret v, h) => some (.ok v, h)
  | some (.exc c w _, h) => some (.exc c w, h)
  | _ => none
/-- a call, n deep -/
def call (Γ : Gam) (wf : Nat) : Nat → Calls
  | 0, _, _, _ => none
  | n + 1, f, vs, h => match Γ.fn f with
    | some d => if vs.length = d.ar then endF (exSs Γ wf (call Γ wf n) d.body (start d.n vs) h) else none
    | none => none
end Mp
set_option Elab.async false
set_option linter.all false
set_option maxRecDepth 100000
set_option maxHeartbeats 4000000
/-! Mp B: how the plain heap lies in the abstract one; what is asked of a computation. -/
namespace Mp
open PySem PySem.Spec PyProof.Rows L2
abbrev Plc := Nat → Addr
/-- what the place of a plain object and of a class is -/
def tv (cl m : Plc) : W → V
  | .non => .non | .bl b => .bl b | .int i => .int i | .str x => .str x | .ref n => .ref (m n) | .ty n => .ty n | .cls c => .ref (cl c)
def wfW (n : Nat) : W → Prop
  | .ref k => k < n
  | _ => True
def wfO (n : Nat) : Ob → Prop
  | .lst xs => ∀ w ∈ xs, wfW n w
  | .tup xs => ∀ w ∈ xs, wfW n w
  | .frl xs => ∀ w ∈ xs, wfW n w
  | .dct kvs => ∀ p ∈ kvs, wfW n p.2
  | .ins _ fs => ∀ p ∈ fs, wfW n p.2
  | .exc _ w => wfW n w
  | .dead => True
theorem wfW.mono {n k : Nat} (h : n ≤ k) : ∀ {w : W}, wfW n w → wfW k w
  | .ref _, q => Nat.lt_of_lt_of_le q h
  | .non, _ => trivial | .bl _, _ => trivial | .int _, _ => trivial | .str _, _ => trivial | .ty _, _ => trivial | .cls _, _ => trivial
theorem wfO.mono {n k : Nat} (h : n ≤ k) : ∀ {o : Ob}, wfO n o → wfO k o
  | .lst _, q => fun w hw => (q w hw).mono h
  | .tup _, q => fun w hw => (q w hw).mono h
  | .frl _, q => fun w hw => (q w hw).mono h
  | .dct _, q => fun p hp => (q p hp).mono h
  | .ins _ _, q => fun p hp => (q p hp).mono h
  | .exc _ _, q => wfW.mono h (show wfW n _ from q)
  | .dead, _ => trivial
/-- the fixed part: where the classes stand, the written part, the exception that is handled -/
structure St0 where
  cl : Plc
  K : PySem.W.Frag
  px : Option (Addr × Obj)
abbrev wht : Str := Str.ofString "what"
/-- a list that is read and never written: frozen, or of the written part -/
def Frl (K : PySem.W.Frag) (H : Hp) (a : Addr) (xs : List V) : Prop :=
  (∃ o, H a = some (.frz o (.lst xs))) ∨ ∃ (o : Obj) (its : Array Value) (n : Nat), K.lookup a = some o ∧ o.cls = .type "list" ∧ o.dict = none ∧ o.data = .seq its n ∧ its.size ≤ sizeLine ∧ Vals xs its.toList
theorem Frl.sq {K : PySem.W.Frag} {H : Hp} {a : Addr} {xs : List V} : Frl K H a xs → SqL K H a xs
  | .inl ⟨o, e⟩ => .inl (.inr ⟨o, e⟩)
  | .inr e => .inr e
def ObR (Z : St0) (m : Plc) (H : Hp) (a : Addr) : Ob → Prop
  | .lst xs => H a = some (.lst (xs.map (tv Z.cl m)))
  | .tup xs => H a = some (.tup (xs.map (tv Z.cl m)))
  | .frl xs => Frl Z.K H a (xs.map (tv Z.cl m))
  | .dct kvs => H a = some (.dK (kvs.map fun p => (p.1, tv Z.cl m p.2)))
  | .ins c fs => ∃ dx, H a = some (.ins (Z.cl c) dx (fs.map fun p => (p.1, tv Z.cl m p.2)))
  | .exc c w => ∃ oe d, Z.px = some (a, oe) ∧ oe.cls = .ref (Z.cl c) ∧ oe.dict = some d ∧ H d = some (.xd [(wht, tv Z.cl m w)])
  | .dead => True
def isMut : Ob → Bool
  | .lst _ => true | .dct _ => true | .ins _ _ => true | _ => false
structure RelH (Z : St0) (m : Plc) (h : Hq) (H : Hp) : Prop where
  ob : ∀ (i : Nat) (o : Ob), h[i]? = some o → ObR Z m H (m i) o
  inj : ∀ (i j : Nat) (o u : Ob), h[i]? = some o → h[j]? = some u → isMut o = true → isMut u = true → m i = m j → i = j
  wf : ∀ (i : Nat) (o : Ob), h[i]? = some o → wfO h.length o
/-- the places of what stood stay -/
structure Ext (m m' : Plc) (h h' : Hq) : Prop where
  le : h.length ≤ h'.length
  eq : ∀ i, i < h.length → m' i = m i
theorem Ext.refl {m : Plc} {h : Hq} : Ext m m h h := ⟨Nat.le_refl _, fun _ _ => rfl⟩
theorem Ext.trans {m m1 m2 : Plc} {h h1 h2 : Hq} (a : Ext m m1 h h1) (b : Ext m1 m2 h1 h2) : Ext m m2 h h2 :=
  ⟨Nat.le_trans a.le b.le, fun i hi => (b.eq i (Nat.lt_of_lt_of_le hi a.le)).trans (a.eq i hi)⟩
theorem Ext.tv {cl m m' : Plc} {h h' : Hq} (e : Ext m m' h h') : ∀ {w : W}, wfW h.length w → tv cl m' w = tv cl m w
  | .ref n, q => congrArg V.ref (e.eq n q)
  | .non, _ => rfl | .bl _, _ => rfl | .int _, _ => rfl | .str _, _ => rfl | .ty _, _ => rfl | .cls _, _ => rfl
theorem Ext.map {cl m m' : Plc} {h h' : Hq} (e : Ext m m' h h') {xs : List W} (q : ∀ w ∈ xs, wfW h.length w) : xs.map (Mp.tv cl m') = xs.map (Mp.tv cl m) :=
  List.map_congr_left fun w hw => e.tv (q w hw)
theorem Ext.map2 {κ : Type} {cl m m' : Plc} {h h' : Hq} (e : Ext m m' h h') {xs : List (κ × W)} (q : ∀ p ∈ xs, wfW h.length p.2) : xs.map (fun p => (p.1, Mp.tv cl m' p.2)) = xs.map (fun p => (p.1, Mp.tv cl m p.2)) :=
  List.map_congr_left fun p hp => by rw [e.tv (q p hp)]
/-- slots -/
def envV (cl m : Plc) (ρ : Env) : L2.St := ρ.map (Option.map (tv cl m))
def wfE (n : Nat) (ρ : Env) : Prop := ∀ w, some w ∈ ρ → wfW n w
theorem wfE.mono {n k : Nat} (h : n ≤ k) {ρ : Env} (q : wfE n ρ) : wfE k ρ := fun w hw => (q w hw).mono h
theorem Ext.env {cl m m' : Plc} {h h' : Hq} (e : Ext m m' h h') {ρ : Env} (q : wfE h.length ρ) : envV cl m' ρ = envV cl m ρ :=
  List.map_congr_left fun o ho => by
    cases o with
    | none => rfl
    | some w => exact congrArg some (e.tv (q w ho))
theorem wfE.set {n : Nat} {ρ : Env} {i : Nat} {w : W} (q : wfE n ρ) (hw : wfW n w) : wfE n (ρ.set i (some w)) := fun x hx => by
  rcases List.mem_or_eq_of_mem_set hx with h | h
  · exact q x h
  · cases h; exact hw
theorem wfE.setN {n : Nat} {ρ : Env} {i : Nat} (q : wfE n ρ) : wfE n (ρ.set i none) := fun x hx => by
  rcases List.mem_or_eq_of_mem_set hx with h | h
  · exact q x h
  · cases h
theorem envV_set (cl m : Plc) (ρ : Env) (i : Nat) (w : W) : envV cl m (ρ.set i (some w)) = (envV cl m ρ).set i (some (tv cl m w)) := by
  unfold envV; rw [List.map_set]; rfl
theorem envV_setN (cl m : Plc) (ρ : Env) (i : Nat) : envV cl m (ρ.set i none) = (envV cl m ρ).set i none := by
  unfold envV; rw [List.map_set]; rfl
theorem envV_get {cl m : Plc} {ρ : Env} {i : Nat} {w : W} (h : ρ[i]? = some (some w)) : (envV cl m ρ)[i]? = some (some (tv cl m w)) := by
  unfold envV; rw [List.getElem?_map, h]; rfl
theorem wfE.get {n : Nat} {ρ : Env} (q : wfE n ρ) {i : Nat} {w : W} (h : ρ[i]? = some (some w)) : wfW n w := q w (List.mem_of_getElem? h)
/-- a plain object's description stays where what it leans on stays -/
theorem ObR.ext {Z : St0} {m m' : Plc} {h h' : Hq} {H : Hp} {a : Addr} (e : Ext m m' h h') : ∀ {o : Ob}, wfO h.length o → ObR Z m H a o → ObR Z m' H a o
  | .lst xs, q, r => by show _ = _; rw [e.map q]; exact r
  | .tup xs, q, r => by show _ = _; rw [e.map q]; exact r
  | .frl xs, q, r => by show Frl _ _ _ _; rw [e.map q]; exact r
  | .dct xs, q, r => by show _ = _; rw [e.map2 q]; exact r
  | .ins c xs, q, r => by
    obtain ⟨dx, r⟩ := r
    exact ⟨dx, by rw [e.map2 q]; exact r⟩
  | .exc c w, q, r => by
    obtain ⟨oe, d, h1, h2, h3, h4⟩ := r
    exact ⟨oe, d, h1, h2, h3, by rw [e.tv q]; exact h4⟩
  | .dead, _, _ => trivial
/-- .. at another abstract heap that has the same there -/
theorem ObR.at {Z : St0} {m : Plc} {H H' : Hp} {a : Addr} : ∀ {o : Ob}, ObR Z m H a o → (∀ u, H a = some u → H' a = some u) → (∀ d fs, H d = some (.xd fs) → H' d = some (.xd fs)) → ObR Z m H' a o
  | .lst _, r, k, _ => k _ r
  | .tup _, r, k, _ => k _ r
  | .frl _, r, k, _ => r.elim (fun ⟨o, e⟩ => .inl ⟨o, k _ e⟩) .inr
  | .dct _, r, k, _ => k _ r
  | .ins _ _, r, k, _ => let ⟨dx, e⟩ := r; ⟨dx, k _ e⟩
  | .exc _ _, r, _, k => let ⟨oe, d, h1, h2, h3, h4⟩ := r; ⟨oe, d, h1, h2, h3, k _ _ h4⟩
  | .dead, _, _, _ => trivial
theorem ObR.mut {Z : St0} {m : Plc} {H : Hp} {a : Addr} : ∀ {o : Ob}, isMut o = true → ObR Z m H a o → ∃ u, H a = some u ∧ (∀ xs, u ≠ .tup xs) ∧ (∀ q v, u ≠ .frz q v) ∧ (∀ fs, u ≠ .xd fs)
  | .lst _, _, r => ⟨_, r, (fun _ z => nomatch z), (fun _ _ z => nomatch z), (fun _ z => nomatch z)⟩
  | .dct _, _, r => ⟨_, r, (fun _ z => nomatch z), (fun _ _ z => nomatch z), (fun _ z => nomatch z)⟩
  | .ins _ _, _, r => let ⟨_, e⟩ := r; ⟨_, e, (fun _ z => nomatch z), (fun _ _ z => nomatch z), (fun _ z => nomatch z)⟩
/-- a new object -/
theorem RelH.push {Z : St0} {m : Plc} {h : Hq} {H H' : Hp} {p : Addr} {o : Ob} (R : RelH Z m h H) (hp : H p = none) (hk : ∀ b, b ≠ p → H' b = H b)
    (ho : ∀ m', Ext m m' h (h ++ [o]) → m' h.length = p → ObR Z m' H' p o) (hw : wfO (h.length + 1) o) :
    ∃ m', Ext m m' h (h ++ [o]) ∧ m' h.length = p ∧ RelH Z m' (h ++ [o]) H' := by
  refine ⟨fun i => if i = h.length then p else m i, ?_, if_pos rfl, ?_⟩
  · exact ⟨by rw [List.length_append]; exact Nat.le_add_right _ _, fun i hi => if_neg (Nat.ne_of_lt hi)⟩
  have E : Ext m (fun i => if i = h.length then p else m i) h (h ++ [o]) := ⟨by rw [List.length_append]; exact Nat.le_add_right _ _, fun i hi => if_neg (Nat.ne_of_lt hi)⟩
  have split : ∀ (i : Nat) (u : Ob), (h ++ [o])[i]? = some u → (i < h.length ∧ h[i]? = some u) ∨ (i = h.length ∧ u = o) := fun i u e => by
    by_cases hi : i < h.length
    · rw [List.getElem?_append_left hi] at e; exact .inl ⟨hi, e⟩
    · rw [List.getElem?_append_right (by omega)] at e
      have : i - h.length = 0 := by
        by_cases z : i - h.length = 0
        · exact z
        · rw [List.getElem?_eq_none (by simp; omega)] at e; cases e
      rw [this] at e
      exact .inr ⟨by omega, (Option.some.inj e).symm⟩
  have ne : ∀ (i : Nat) (u : Ob), h[i]? = some u → ∀ v, H (m i) = some v → m i ≠ p := fun i u _ v e z => by rw [z, hp] at e; cases e
  refine ⟨fun i u e => ?_, fun i j u v e1 e2 h1 h2 he => ?_, fun i u e => ?_⟩
  · rcases split i u e with ⟨hi, e'⟩ | ⟨hi, rfl⟩
    · show ObR Z _ H' (if i = h.length then p else m i) u
      rw [if_neg (Nat.ne_of_lt hi)]
      refine ((R.ob i u e').ext E (R.wf i u e')).at (fun v hv => ?_) fun d fs hd => ?_
      · rw [hk _ (ne i u e' v hv)]; exact hv
      · rw [hk _ (fun z => by rw [z, hp] at hd; cases hd)]; exact hd
    · subst hi
      show ObR Z _ H' (if h.length = h.length then p else m h.length) u
      rw [if_pos rfl]
      exact ho _ E (if_pos rfl)
  · have he : (if i = h.length then p else m i) = (if j = h.length then p else m j) := he
    rcases split i u e1 with ⟨hi, f1⟩ | ⟨hi, rfl⟩
    · rw [if_neg (Nat.ne_of_lt hi)] at he
      obtain ⟨x, hx, _⟩ := (R.ob i u f1).mut h1
      rcases split j v e2 with ⟨hj, f2⟩ | ⟨hj, _⟩
      · rw [if_neg (Nat.ne_of_lt hj)] at he
        exact R.inj i j u v f1 f2 h1 h2 he
      · rw [if_pos hj] at he
        exact absurd he (ne i u f1 x hx)
    · rw [if_pos hi] at he
      rcases split j v e2 with ⟨hj, f2⟩ | ⟨hj, _⟩
      · rw [if_neg (Nat.ne_of_lt hj)] at he
        obtain ⟨x, hx, _⟩ := (R.ob j v f2).mut h2
        exact absurd he.symm (ne j v f2 x hx)
      · exact hi.trans hj.symm
  · rw [List.length_append]
    rcases split i u e with ⟨hi, e'⟩ | ⟨hi, rfl⟩
    · exact (R.wf i u e').mono (Nat.le_add_right _ _)
    · exact hw
/-- an object is written -/
theorem RelH.write {Z : St0} {m : Plc} {h : Hq} {H H' : Hp} {i : Nat} {o u : Ob} (R : RelH Z m h H) (hi : h[i]? = some o) (mo : isMut o = true) (hk : ∀ b, b ≠ m i → H' b = H b)
    (hu : ObR Z m H' (m i) u) (hw : wfO h.length u) : RelH Z m (h.set i u) H' := by
  obtain ⟨x, hx, h1, h2, h3⟩ := (R.ob i o hi).mut mo
  have hlt : i < h.length := (List.getElem?_eq_some_iff.mp hi).1
  have split : ∀ (j : Nat) (v : Ob), (h.set i u)[j]? = some v → (j = i ∧ v = u) ∨ (j ≠ i ∧ h[j]? = some v) := fun j v e => by
    by_cases hj : i = j
    · subst hj; rw [List.getElem?_set_self hlt] at e; exact .inl ⟨rfl, (Option.some.inj e).symm⟩
    · rw [List.getElem?_set_ne hj] at e; exact .inr ⟨Ne.symm hj, e⟩
  refine ⟨fun j v e => ?_, fun j k v w e1 e2 m1 m2 he => ?_, fun j v e => ?_⟩
  · rcases split j v e with ⟨rfl, rfl⟩ | ⟨hj, e⟩
    · exact hu
    · have r := R.ob j v e
      have dd : ∀ d fs, H d = some (.xd fs) → H' d = some (.xd fs) := fun d fs hd => by
        rw [hk d (fun z => by rw [z, hx] at hd; exact h3 fs (Option.some.inj hd))]; exact hd
      cases v with
      | lst xs => exact r.at (fun q hq => by rw [hk _ (fun z => hj (R.inj j i _ _ e hi rfl mo z))]; exact hq) dd
      | dct xs => exact r.at (fun q hq => by rw [hk _ (fun z => hj (R.inj j i _ _ e hi rfl mo z))]; exact hq) dd
      | ins c xs => exact r.at (fun q hq => by rw [hk _ (fun z => hj (R.inj j i _ _ e hi rfl mo z))]; exact hq) dd
      | tup xs =>
        have r' : H (m j) = some (.tup _) := r
        exact r.at (fun q hq => by rw [hk _ (fun z => by rw [z, hx] at r'; exact h1 _ (Option.some.inj r'))]; exact hq) dd
      | frl xs =>
        rcases r with ⟨q, r⟩ | r
        · exact .inl ⟨q, by rw [hk _ (fun z => by rw [z, hx] at r; exact h2 _ _ (Option.some.inj r))]; exact r⟩
        · exact .inr r
      | exc c w => obtain ⟨oe, d, p1, p2, p3, p4⟩ := r; exact ⟨oe, d, p1, p2, p3, dd _ _ p4⟩
      | dead => trivial
  · have old : ∀ (j : Nat) (v : Ob), (h.set i u)[j]? = some v → isMut v = true → ∃ v', h[j]? = some v' ∧ isMut v' = true := fun j v e mv => by
      rcases split j v e with ⟨rfl, rfl⟩ | ⟨hj, e⟩
      · exact ⟨o, hi, mo⟩
      · exact ⟨v, e, mv⟩
    obtain ⟨v', e1', mv'⟩ := old j v e1 m1
    obtain ⟨w', e2', mw'⟩ := old k w e2 m2
    exact R.inj j k v' w' e1' e2' mv' mw' he
  · rw [List.length_set]
    rcases split j v e with ⟨rfl, rfl⟩ | ⟨hj, e⟩
    · exact hw
    · exact R.wf j v e
/-- nothing of ours is touched -/
theorem RelH.same {Z : St0} {m : Plc} {h : Hq} {H H' : Hp} (R : RelH Z m h H) (hk : ∀ b u, H b = some u → H' b = some u) : RelH Z m h H' :=
  ⟨fun i o e => (R.ob i o e).at (fun u q => hk _ u q) fun d fs q => hk d _ q, R.inj, R.wf⟩

/-! ### what is asked of a computation -/
abbrev Ok (α : Type) := Plc → Hp → α → Hq → Prop
def Res {α : Type} (Z : St0) (m : Plc) (h : Hq) (r : M α) (Q : Ok α) (X : Value → Option Addr → Hp → Prop) : Prop :=
  match r with
  | none => False
  | some (.ok a, h') => ∀ m' H', Ext m m' h h' → RelH Z m' h' H' → Q m' H' a h'
  | some (.exc c w, h') => ∀ m' H' d, Ext m m' h h' → RelH Z m' h' H' → wfW h'.length w → H' d = some (.xd [(wht, tv Z.cl m' w)]) → X (.ref (Z.cl c)) (some d) H'
theorem Res.mono {α : Type} {Z : St0} {m : Plc} {h : Hq} {r : M α} {Q Q' : Ok α} {X : Value → Option Addr → Hp → Prop} (a : Res Z m h r Q X)
    (k : ∀ m' H' v h', Ext m m' h h' → RelH Z m' h' H' → Q m' H' v h' → Q' m' H' v h') : Res Z m h r Q' X := by
  match r, a with
  | some (.ok v, h'), a => exact fun m' H' e R => k m' H' v h' e R (a m' H' e R)
  | some (.exc c w, h'), a => exact a
theorem Res.bnd {α β : Type} {Z : St0} {m : Plc} {h : Hq} {r : M α} {f : α → Hq → M β} {Q : Ok β} {X : Value → Option Addr → Hp → Prop} (a : Res Z m h (bnd r f) Q X) :
    Res Z m h r (fun m1 _ v h1 => Res Z m1 h1 (f v h1) Q X) X := by
  match r, a with
  | some (.ok v, h1), a =>
    intro m1 H1 e1 R1
    have a : Res Z m h (f v h1) Q X := a
    match hf : f v h1, a with
    | some (.ok u, h2), a => rw [hf] at *; exact fun m2 H2 e2 R2 => a m2 H2 (e1.trans e2) R2
    | some (.exc c w, h2), a => rw [hf] at *; exact fun m2 H2 d e2 R2 => a m2 H2 d (e1.trans e2) R2
    | none, a => exact a.elim
  | some (.exc c w, h'), a => exact a
theorem Res.of_ret {α : Type} {Z : St0} {m : Plc} {h : Hq} {v : α} {H : Hp} {Q : Ok α} {X : Value → Option Addr → Hp → Prop} (a : Res Z m h (ret v h) Q X) (R : RelH Z m h H) : Q m H v h := a m H .refl R
/-- a new object's end -/
theorem Res.of_alloc {Z : St0} {m : Plc} {h : Hq} {o : Ob} {H H' : Hp} {p : Addr} {Q : Ok W} {X : Value → Option Addr → Hp → Prop} (a : Res Z m h (alloc o h) Q X) (R : RelH Z m h H) (hp : H p = none) (hk : ∀ b, b ≠ p → H' b = H b)
    (ho : ∀ m', Ext m m' h (h ++ [o]) → m' h.length = p → ObR Z m' H' p o) (hw : wfO (h.length + 1) o) : ∃ m', Ext m m' h (h ++ [o]) ∧ tv Z.cl m' (.ref h.length) = .ref p ∧ RelH Z m' (h ++ [o]) H' ∧ Q m' H' (.ref h.length) (h ++ [o]) := by
  obtain ⟨m', e, hm, R'⟩ := R.push hp hk ho hw
  exact ⟨m', e, congrArg V.ref hm, R', a m' H' e R'⟩
end Mp
set_option Elab.async false
set_option linter.all false
set_option maxRecDepth 100000
set_option maxHeartbeats 4000000
/-! Mp C: each operation by values: what the interpreter gives, the hand layer's reading asks. -/
namespace Mp
open PySem PySem.Spec PyProof.Rows L2
/-- what a value's end asks -/
abbrev qW (Z : St0) (Q : VK) : Ok W := fun m' H' v h' => wfW h'.length v → Q (tv Z.cl m' v) H'
theorem allocL {Z : St0} {m : Plc} {h : Hq} {H : Hp} {xs : List W} {Q : VK} {X : Value → Option Addr → Hp → Prop} (a : Res Z m h (alloc (.lst xs) h) (qW Z Q) X) (R : RelH Z m h H) (hw : ∀ w ∈ xs, wfW h.length w) :
    ∀ p, H p = none → Q (.ref p) (upd H p (.lst (xs.map (tv Z.cl m)))) := fun p hp => by
  obtain ⟨m', e, et, R', q⟩ := a.of_alloc (H' := upd H p (.lst (xs.map (tv Z.cl m)))) R hp (fun b hb => upd_ne hb) (fun m' e _ => by show _ = _; rw [upd_same, e.map hw]) (fun w hw' => (hw w hw').mono (Nat.le_succ _))
  have q := q (by show h.length < (h ++ [Ob.lst xs]).length; rw [List.length_append]; exact Nat.lt_succ_self _)
  rw [et] at q
  exact q
theorem allocT {Z : St0} {m : Plc} {h : Hq} {H : Hp} {xs : List W} {Q : VK} {X : Value → Option Addr → Hp → Prop} (a : Res Z m h (alloc (.tup xs) h) (qW Z Q) X) (R : RelH Z m h H) (hw : ∀ w ∈ xs, wfW h.length w) :
    ∀ p, H p = none → Q (.ref p) (upd H p (.tup (xs.map (tv Z.cl m)))) := fun p hp => by
  obtain ⟨m', e, et, R', q⟩ := a.of_alloc (H' := upd H p (.tup (xs.map (tv Z.cl m)))) R hp (fun b hb => upd_ne hb) (fun m' e _ => by show _ = _; rw [upd_same, e.map hw]) (fun w hw' => (hw w hw').mono (Nat.le_succ _))
  have q := q (by show h.length < (h ++ [Ob.tup xs]).length; rw [List.length_append]; exact Nat.lt_succ_self _)
  rw [et] at q
  exact q
/-- a rule of two values serves the interpreter's function -/
def Op2 (Z : St0) (r : R2) (f : W → W → Hq → M W) : Prop := ∀ (m : Plc) (h : Hq) (H : Hp) (x y : W) (Q : VK) (X : Value → Option Addr → Hp → Prop),
  RelH Z m h H → wfW h.length x → wfW h.length y → Res Z m h (f x y h) (qW Z Q) X → r (tv Z.cl m x) (tv Z.cl m y) H Q
theorem line_eq : line = sizeLine := sizeLine_eq.symm
section
variable {Z : St0} {X : Cx}
theorem Res.none' {α : Type} {m : Plc} {h : Hq} {Q : Ok α} {X : Value → Option Addr → Hp → Prop} {P : Prop} (a : Res Z m h (none : M α) Q X) : P := False.elim a
abbrev rAdd4 (K : PySem.W.Frag) : R2 := fun x y H Q => rI0 (fun i j => .int (i + j)) x y H Q ∨ (∃ i j, x = .str i ∧ y = .str j ∧ i.length + j.length ≤ sizeLine ∧ Q (.str (i ++ j)) H) ∨ rCat x y H Q ∨ rCatT K x y H Q
theorem opAdd : OpR X (binaryOp .Add) (rAdd4 X.K) := op_add.or (op_add_str.or (op_cat.or op_catT))
theorem op2_add : Op2 Z (rAdd4 Z.K) addV := by
  intro m h H x y Q X R wx wy a
  cases x with
  | int i => cases y with
    | int j => exact .inl ⟨i, j, rfl, rfl, a.of_ret R trivial⟩
    | _ => exact a.none'
  | str s => cases y with
    | str t =>
      unfold addV at a
      dsimp only at a
      split at a
      · rename_i hz
        exact .inr (.inl ⟨s, t, rfl, rfl, by rw [← line_eq]; exact hz, a.of_ret R trivial⟩)
      · exact a.none'
    | _ => exact a.none'
  | ref i => cases y with
    | ref j =>
      unfold addV at a
      dsimp only at a
      split at a
      · rename_i xs ys hi hj
        split at a
        · rename_i hz
          have ri : H (m i) = some (.lst (xs.map (tv Z.cl m))) := R.ob i _ hi
          have rj : H (m j) = some (.lst (ys.map (tv Z.cl m))) := R.ob j _ hj
          refine .inr (.inr (.inl ⟨m i, m j, _, _, rfl, rfl, ri, rj, by rw [List.length_map, List.length_map, ← line_eq]; exact hz, ?_⟩))
          have q := allocL a R (fun w hw => (List.mem_append.mp hw).elim (fun z => R.wf i _ hi w z) fun z => R.wf j _ hj w z)
          rw [List.map_append] at q
          exact q
        · exact a.none'
      · rename_i xs ys hi hj
        split at a
        · rename_i hz
          have ri : H (m i) = some (.tup (xs.map (tv Z.cl m))) := R.ob i _ hi
          have rj : H (m j) = some (.tup (ys.map (tv Z.cl m))) := R.ob j _ hj
          refine .inr (.inr (.inr ⟨m i, m j, _, _, rfl, rfl, .of ri, .of rj, fun z => hz.2 (List.map_eq_nil_iff.mp z), by rw [List.length_map, List.length_map, ← line_eq]; exact hz.1, fun z => ?_, fun z => ?_⟩))
          · rw [if_pos (List.map_eq_nil_iff.mp z)] at a
            exact a.of_ret R wx
          · rw [if_neg (fun e => z (by rw [e]; rfl))] at a
            have q := allocT a R (fun w hw => (List.mem_append.mp hw).elim (fun z => R.wf i _ hi w z) fun z => R.wf j _ hj w z)
            rw [List.map_append] at q
            exact q
        · exact a.none'
      · exact a.none'
    | _ => exact a.none'
  | _ => exact a.none'
theorem op2_sub : Op2 Z (rI0 fun i j => .int (i - j)) subV := by
  intro m h H x y Q X R wx wy a
  cases x with
  | int i => cases y with
    | int j => exact ⟨i, j, rfl, rfl, a.of_ret R trivial⟩
    | _ => exact a.none'
  | _ => exact a.none'
/-- a text, k times -/
def rRepS : R2 := fun x y H Q => ∃ s n, x = .str s ∧ y = .int n ∧ (-1000000 ≤ n ∧ n ≤ 1000000 ∧ s.length * n.toNat ≤ line) ∧ Q (.str (repS s n)) H
theorem op_rep_str : OpR X (binaryOp .Mult) rRepS := by
  intro pins s σ H x y v u Q I rx ry h
  obtain ⟨z, n, rfl, rfl, ⟨h1, h2, h3⟩, q⟩ := h
  obtain ⟨t, rfl⟩ := rx
  obtain ⟨t', rfl⟩ := ry
  have hl : ¬ n < 1 → (n == 1 || z.length == 0) = false → Builtin.Str.tooLong (z.length * n.toNat) = false := fun _ _ => by
    unfold Builtin.Str.tooLong
    exact decide_eq_false (by rw [sizeLine_eq]; exact Nat.not_lt.mpr h3)
  refine P.mul_str (by rw [decide_eq_false (by omega), decide_eq_false (by omega)] <;> rfl) (fun g1 g2 => ?_) hl ?_
  · have g3 : 1 ≤ n := by omega
    have g4 : (z.length : Int) * n ≤ 16777216 := by
      have : ((z.length * n.toNat : Nat) : Int) ≤ ((line : Nat) : Int) := Int.ofNat_le.mpr h3
      rw [Int.natCast_mul, Int.toNat_of_nonneg (by omega)] at this
      exact this
    have g5 : (z.length : Int) ≤ (2 ^ 63 - 1) / n := by
      rw [Int.le_ediv_iff_mul_le (by omega)]
      omega
    omega
  · unfold repS at q
    split
    · rename_i c
      rw [if_pos c] at q
      exact ⟨by decide, .str Str.empty, H, I.tok _, ⟨_, rfl⟩, q⟩
    · rename_i c
      rw [if_neg c] at q
      split
      · rename_i d
        rw [if_pos d] at q
        exact ⟨.str z, H, I, ⟨_, rfl⟩, q⟩
      · rename_i d
        rw [if_neg d] at q
        exact ⟨PySem.fits_reps (hl (by omega) (by simpa using d)), .str _, H, I.tok _, ⟨_, rfl⟩, q⟩

abbrev rMul3 : R2 := fun x y H Q => rI CMulW (fun i j => .int (i * j)) x y H Q ∨ rRepS x y H Q ∨ rRep x y H Q
theorem opMul : OpR X (binaryOp .Mult) rMul3 := op_mulW.or (op_rep_str.or op_rep)
theorem op2_mul : Op2 Z rMul3 mulV := by
  intro m h H x y Q X R wx wy a
  cases x with
  | int i => cases y with
    | int j =>
      unfold mulV at a
      dsimp only at a
      split at a
      · rename_i hc
        exact .inl ⟨i, j, rfl, rfl, hc, a.of_ret R trivial⟩
      · exact a.none'
    | _ => exact a.none'
  | str s => cases y with
    | int n =>
      unfold mulV at a
      dsimp only at a
      split at a
      · rename_i hc
        exact .inr (.inl ⟨s, n, rfl, rfl, hc, a.of_ret R trivial⟩)
      · exact a.none'
    | _ => exact a.none'
  | ref i => cases y with
    | int n =>
      unfold mulV at a
      dsimp only at a
      split at a
      · rename_i xs hi
        split at a
        · rename_i hc
          have ri : H (m i) = some (.lst (xs.map (tv Z.cl m))) := R.ob i _ hi
          refine .inr (.inr ⟨m i, n, _, rfl, rfl, ri, by omega, by omega, by rw [List.length_map, ← line_eq]; exact hc.2.2, ?_⟩)
          have q := allocL a R (fun w hw => by
            obtain ⟨l, hl, hw⟩ := List.mem_flatten.mp hw
            rw [(List.mem_replicate.mp hl).2] at hw
            exact R.wf i _ hi w hw)
          rw [List.map_flatten, List.map_replicate] at q
          exact q
        · exact a.none'
      · exact a.none'
    | _ => exact a.none'
  | _ => exact a.none'
theorem op2_fdiv : Op2 Z (rI CDivW fun i j => .int (i / j)) fdivV := by
  intro m h H x y Q X R wx wy a
  cases x with
  | int i => cases y with
    | int j =>
      unfold fdivV at a
      dsimp only at a
      split at a
      · rename_i hc
        exact ⟨i, j, rfl, rfl, hc, a.of_ret R trivial⟩
      · exact a.none'
    | _ => exact a.none'
  | _ => exact a.none'
theorem op2_mod : Op2 Z (rI (fun _ j => 0 < j) fun i j => .int (i % j)) modV := by
  intro m h H x y Q X R wx wy a
  cases x with
  | int i => cases y with
    | int j =>
      unfold modV at a
      dsimp only at a
      split at a
      · rename_i hc
        exact ⟨i, j, rfl, rfl, hc, a.of_ret R trivial⟩
      · exact a.none'
    | _ => exact a.none'
  | _ => exact a.none'
def CPowW (i n : Int) : Prop := 0 ≤ n ∧ (Builtin.Int.intBits i : Int) * n ≤ 134217728
theorem op_powW : OpR X (binaryOp .Pow) (rI CPowW fun i j => .int (i ^ j.toNat)) := opI fun _ _ _ _ _ _ _ hc q => pow_int hc.1 hc.2 q
theorem op2_pow : Op2 Z (rI CPowW fun i j => .int (i ^ j.toNat)) powV := by
  intro m h H x y Q X R wx wy a
  cases x with
  | int i => cases y with
    | int j =>
      unfold powV at a
      dsimp only at a
      split at a
      · rename_i hc
        exact ⟨i, j, rfl, rfl, hc, a.of_ret R trivial⟩
      · exact a.none'
    | _ => exact a.none'
  | _ => exact a.none'
/-- the binary operators -/
def opOf : BOp → Operator
  | .add => .Add | .sub => .Sub | .mul => .Mult | .fdiv => .FloorDiv | .mod => .Mod | .pow => .Pow
def rBin (K : PySem.W.Frag) : BOp → R2
  | .add => rAdd4 K | .sub => rI0 fun i j => .int (i - j) | .mul => rMul3 | .fdiv => rI CDivW fun i j => .int (i / j)
  | .mod => rI (fun _ j => 0 < j) fun i j => .int (i % j) | .pow => rI CPowW fun i j => .int (i ^ j.toNat)
theorem opBin : ∀ o : BOp, OpR X (binaryOp (opOf o)) (rBin X.K o)
  | .add => opAdd | .sub => op_sub | .mul => opMul | .fdiv => op_fdivW | .mod => op_mod | .pow => op_powW
theorem op2Bin : ∀ o : BOp, Op2 Z (rBin Z.K o) (binV o)
  | .add => op2_add | .sub => op2_sub | .mul => op2_mul | .fdiv => op2_fdiv | .mod => op2_mod | .pow => op2_pow
/-! ### x op= y -/
def rAug : BOp → R2
  | .add => fun x y H Q => rI0 (fun i j => .int (i + j)) x y H Q ∨ (∃ i j, x = .str i ∧ y = .str j ∧ i.length + j.length ≤ sizeLine ∧ Q (.str (i ++ j)) H)
  | .sub => rI0 fun i j => .int (i - j)
  | _ => fun _ _ _ _ => False
theorem pip_of {op : Operator} {r : R2} (h : OpR X (inplaceOp op) r) : PIp X op r := fun pins s σ H x y v u Q I rx ry q => h pins s σ H x y v u Q I rx ry q
theorem opAug : ∀ o : BOp, PIp X (opOf o) (rAug o)
  | .add => pip_of (iop_add.or iop_add_str)
  | .sub => pip_of iop_sub
  | .mul => fun _ _ _ _ _ _ _ _ _ _ _ _ q => q.elim
  | .fdiv => fun _ _ _ _ _ _ _ _ _ _ _ _ q => q.elim
  | .mod => fun _ _ _ _ _ _ _ _ _ _ _ _ q => q.elim
  | .pow => fun _ _ _ _ _ _ _ _ _ _ _ _ q => q.elim
theorem op2Aug : ∀ o : BOp, Op2 Z (rAug o) (augV o) := by
  intro o m h H x y Q X R wx wy a
  cases o with
  | add => cases x with
    | int i => cases y with
      | int j => exact .inl ⟨i, j, rfl, rfl, a.of_ret R trivial⟩
      | _ => exact a.none'
    | str s => cases y with
      | str t =>
        unfold augV at a
        dsimp only at a
        split at a
        · rename_i hz
          exact .inr ⟨s, t, rfl, rfl, by rw [← line_eq]; exact hz, a.of_ret R trivial⟩
        · exact a.none'
      | _ => exact a.none'
    | _ => exact a.none'
  | sub => cases x with
    | int i => cases y with
      | int j => exact ⟨i, j, rfl, rfl, a.of_ret R trivial⟩
      | _ => exact a.none'
    | _ => exact a.none'
  | _ => exact a.none'
/-! ### comparisons -/
theorem scal_tv {m : Plc} {x y : W} (h : scalW x y = true) : scal (tv Z.cl m x) (tv Z.cl m y) = true ∧ decide (tv Z.cl m x = tv Z.cl m y) = decide (x = y) := by
  cases x <;> cases y <;> first | cases h; done | (refine ⟨rfl, ?_⟩; simp [tv])
theorem rdD_ok {m : Plc} {h : Hq} {H : Hp} (R : RelH Z m h H) : ∀ (n : Nat) (w : W) (d : PyData), rdD h n w = some d → Dp Z.K H (tv Z.cl m w) d := by
  intro n
  induction n with
  | zero => intro w d e; cases e
  | succ n ih =>
    have all : ∀ (xs : List W) (ds : List PyData), xs.mapM (rdD h n) = some ds → DpAll Z.K H (xs.map (tv Z.cl m)) ds := by
      intro xs
      induction xs with
      | nil => intro ds e; simp at e; subst e; exact .nil
      | cons x xs ihx =>
        intro ds e
        rw [List.mapM_cons] at e
        cases e1 : rdD h n x with
        | none => rw [e1] at e; cases e
        | some d1 =>
          cases e2 : xs.mapM (rdD h n) with
          | none => rw [e1, e2] at e; cases e
          | some d2 =>
            rw [e1, e2] at e
            cases e
            exact .cons (ih _ _ e1) (ihx _ e2)
    intro w d e
    cases w with
    | non => cases e; exact .non
    | bl b => cases e; exact .bl b
    | int i => cases e; exact .int i
    | str x => cases e; exact .str x
    | ty n => cases e
    | cls c => cases e
    | ref a =>
      unfold rdD at e
      dsimp only at e
      cases ha : h[a]? with
      | none => rw [ha] at e; cases e
      | some o =>
        rw [ha] at e
        have r := R.ob a o ha
        cases o with
        | lst xs =>
          dsimp only at e
          cases e2 : xs.mapM (rdD h n) with
          | none => rw [e2] at e; cases e
          | some ds => rw [e2] at e; cases e; exact .lst (.of r) (all _ _ e2)
        | frl xs =>
          dsimp only at e
          cases e2 : xs.mapM (rdD h n) with
          | none => rw [e2] at e; cases e
          | some ds => rw [e2] at e; cases e; exact .lst (Frl.sq r) (all _ _ e2)
        | tup xs =>
          dsimp only at e
          cases e2 : xs.mapM (rdD h n) with
          | none => rw [e2] at e; cases e
          | some ds => rw [e2] at e; cases e; exact .tup (.of r) (all _ _ e2)
        | _ => cases e
/-- a comparison by values -/
def Cmp2 (Z : St0) (r : R2) (f : W → W → Hq → Option Bool) : Prop := ∀ (m : Plc) (h : Hq) (H : Hp) (x y : W) (b : Bool) (Q : VK),
  RelH Z m h H → f x y h = some b → Q (.bl b) H → r (tv Z.cl m x) (tv Z.cl m y) H Q
abbrev rEq2 (K : PySem.W.Frag) : R2 := fun x y H Q => rEq x y H Q ∨ rEqD K x y H Q
abbrev rNe2 (K : PySem.W.Frag) : R2 := fun x y H Q => rNe x y H Q ∨ rNeD K x y H Q
theorem cmp_eq : Cmp2 Z (rEq2 Z.K) eqV := by
  intro m h H x y b Q R e q
  unfold eqV at e
  split at e
  · rename_i hs
    obtain ⟨h1, h2⟩ := scal_tv (Z := Z) (m := m) hs
    cases e
    exact .inl ⟨h1, by rw [h2]; exact q⟩
  · split at e
    · rename_i d1 d2 e1 e2
      split at e
      · rename_i hc
        cases e
        obtain ⟨c1, c2⟩ := Bool.and_eq_true_iff.mp hc
        exact .inr ⟨d1, d2, rdD_ok R _ _ _ e1, rdD_ok R _ _ _ e2, c1, c2, q⟩
      · cases e
    · cases e
theorem cmp_ne : Cmp2 Z (rNe2 Z.K) fun x y h => (eqV x y h).map (!·) := by
  intro m h H x y b Q R e q
  have e : Option.map (fun x => !x) (eqV x y h) = some b := e
  cases e0 : eqV x y h with
  | none => rw [e0] at e; cases e
  | some c =>
    rw [e0] at e
    have e : some (!c) = some b := e
    cases e
    unfold eqV at e0
    split at e0
    · rename_i hs
      obtain ⟨h1, h2⟩ := scal_tv (Z := Z) (m := m) hs
      cases e0
      exact .inl ⟨h1, by rw [h2]; exact q⟩
    · split at e0
      · rename_i d1 d2 e1 e2
        split at e0
        · rename_i hc
          cases e0
          obtain ⟨c1, c2⟩ := Bool.and_eq_true_iff.mp hc
          exact .inr ⟨d1, d2, rdD_ok R _ _ _ e1, rdD_ok R _ _ _ e2, c1, c2, q⟩
        · cases e0
      · cases e0
def rOrd (f : Int → Int → Bool) (g : Str → Str → Bool) : R2 := fun x y H Q => rI0 (fun i j => .bl (f i j)) x y H Q ∨ ∃ i j, x = .str i ∧ y = .str j ∧ Q (.bl (g i j)) H
theorem cmp_ord {f : Int → Int → Bool} {g : Str → Str → Bool} : Cmp2 Z (rOrd f g) fun x y _ => ordV f g x y := by
  intro m h H x y b Q R e q
  cases x with
  | int i => cases y with
    | int j => cases e; exact .inl ⟨i, j, rfl, rfl, q⟩
    | _ => cases e
  | str i => cases y with
    | str j => cases e; exact .inr ⟨i, j, rfl, rfl, q⟩
    | _ => cases e
  | _ => cases y <;> cases e
theorem flat_tv {m : Plc} {x : W} (h : flatW x = true) : flatV (tv Z.cl m x) = true := by cases x <;> first | rfl | cases h
theorem flats_tv {m : Plc} {xs : List W} (h : xs.all flatW = true) : (xs.map (tv Z.cl m)).all flatV = true := by
  rw [List.all_map]; exact List.all_eq_true.mpr fun x hx => flat_tv (List.all_eq_true.mp h x hx)
theorem eqF_tv {m : Plc} {x y : W} (hx : flatW x = true) (hy : flatW y = true) : L2.eqV (tv Z.cl m x) (tv Z.cl m y) = eqF x y := by
  cases x <;> cases y <;> first | rfl | cases hx; done | cases hy
theorem inV_tv {m : Plc} {x : W} {xs : List W} (hx : flatW x = true) (h : xs.all flatW = true) : inV (tv Z.cl m x) (xs.map (tv Z.cl m)) = xs.any fun y => eqF y x := by
  unfold inV
  rw [List.any_map]
  rw [Bool.eq_iff_iff, List.any_eq_true, List.any_eq_true]
  constructor
  · rintro ⟨y, hy, e⟩; exact ⟨y, hy, by rw [← eqF_tv (Z := Z) (m := m) (List.all_eq_true.mp h y hy) hx]; exact e⟩
  · rintro ⟨y, hy, e⟩; exact ⟨y, hy, by show L2.eqV _ _ = true; rw [eqF_tv (List.all_eq_true.mp h y hy) hx]; exact e⟩
abbrev rIn2 (K : PySem.W.Frag) (n : Bool) : R2 := fun x y H Q => (∃ i j, x = .str i ∧ y = .str j ∧ Q (.bl (if n then !hasS i j else hasS i j)) H) ∨ rIn K n x y H Q
theorem opIn : OpR X (compareOp .In) (rIn2 X.K false) := op_in_str.or op_in_seq
theorem opNin : OpR X (compareOp .NotIn) (rIn2 X.K true) := op_notIn_str.or op_notIn_seq
theorem in_core {m : Plc} {h : Hq} {H : Hp} {x y : W} {b n : Bool} {Q : VK} (R : RelH Z m h H) (e : inW x y h = some b) (q : Q (.bl (if n then !b else b)) H) : rIn2 Z.K n (tv Z.cl m x) (tv Z.cl m y) H Q := by
  have seq : ∀ (a : Nat) (ys : List W), (SqL Z.K H (m a) (ys.map (tv Z.cl m)) ∨ SqT Z.K H (m a) (ys.map (tv Z.cl m))) → y = .ref a → (if flatW x && ys.all flatW then some (ys.any fun y => eqF y x) else none) = some b → rIn2 Z.K n (tv Z.cl m x) (tv Z.cl m y) H Q := by
    intro a ys hs ey e'
    clear e
    subst ey
    split at e'
    · rename_i hc
      obtain ⟨h1, h2⟩ := Bool.and_eq_true_iff.mp hc
      cases e'
      refine .inr ⟨m a, _, rfl, hs, flat_tv h1, flats_tv h2, ?_⟩
      rw [inV_tv h1 h2]
      exact q
    · cases e'
  cases y with
  | str t => cases x with
    | str s => cases e; exact .inl ⟨s, t, rfl, rfl, q⟩
    | _ => cases e
  | ref a =>
    have e : (match h[a]? with
      | some (.lst ys) => if flatW x && ys.all flatW then some (ys.any fun y => eqF y x) else none
      | some (.frl ys) => if flatW x && ys.all flatW then some (ys.any fun y => eqF y x) else none
      | some (.tup ys) => if flatW x && ys.all flatW then some (ys.any fun y => eqF y x) else none
      | _ => none) = some b := by cases x <;> exact e
    cases ha : h[a]? with
    | none => rw [ha] at e; cases e
    | some o =>
      rw [ha] at e
      have r := R.ob a o ha
      cases o with
      | lst ys => exact seq a ys (.inl (.of r)) rfl e
      | frl ys => exact seq a ys (.inl (Frl.sq r)) rfl e
      | tup ys => exact seq a ys (.inr (.of r)) rfl e
      | _ => cases e
  | _ => cases x <;> cases e
theorem cmp_in : Cmp2 Z (rIn2 Z.K false) inW := fun m h H x y b Q R e q => in_core R e q
theorem cmp_nin : Cmp2 Z (rIn2 Z.K true) fun x y h => (inW x y h).map (!·) := fun m h H x y b Q R e q => by
  have e : Option.map (fun x => !x) (inW x y h) = some b := e
  cases e0 : inW x y h with
  | none => rw [e0] at e; cases e
  | some c =>
    rw [e0] at e
    have e : some (!c) = some b := e
    cases e
    exact in_core R e0 q
def copOf : COp → CmpOp
  | .eq => .Eq | .ne => .NotEq | .lt => .Lt | .le => .LtE | .gt => .Gt | .ge => .GtE | .isin => .In | .nin => .NotIn
def rCmp (K : PySem.W.Frag) : COp → R2
  | .eq => rEq2 K | .ne => rNe2 K | .lt => rOrd (fun i j => decide (i < j)) ltS | .le => rOrd (fun i j => decide (i ≤ j)) (fun a b => !ltS b a)
  | .gt => rOrd (fun i j => decide (j < i)) (fun a b => ltS b a) | .ge => rOrd (fun i j => decide (j ≤ i)) (fun a b => !ltS a b) | .isin => rIn2 K false | .nin => rIn2 K true
theorem opCmp (hu : X.A.units + 64 < cLine) : ∀ o : COp, OpR X (compareOp (copOf o)) (rCmp X.K o)
  | .eq => op_eq.or (op_eqD hu) | .ne => op_ne.or (op_neD hu)
  | .lt => op_lt.or op_lt_str | .le => op_le.or op_le_str | .gt => op_gt.or op_gt_str | .ge => op_ge.or op_ge_str
  | .isin => opIn | .nin => opNin
theorem cmp2 : ∀ o : COp, Cmp2 Z (rCmp Z.K o) (cmpV o)
  | .eq => cmp_eq | .ne => cmp_ne | .lt => cmp_ord | .le => cmp_ord | .gt => cmp_ord | .ge => cmp_ord | .isin => cmp_in | .nin => cmp_nin
end
end Mp
set_option Elab.async false
set_option linter.all false
set_option maxRecDepth 100000
set_option maxHeartbeats 4000000
/-! Mp D: truth, items, slices, stores, built-in functions, methods, by values. -/
namespace Mp
open PySem PySem.Spec PyProof.Rows L2
section
variable {Z : St0} {X : Cx}
theorem isEmpty_map {α β : Type} (f : α → β) (xs : List α) : (xs.map f).isEmpty = xs.isEmpty := by cases xs <;> rfl
theorem tru_tv {m : Plc} {h : Hq} {H : Hp} {w : W} {b : Bool} (R : RelH Z m h H) (e : truV h w = some b) : TruV Z.K (tv Z.cl m w) H b := by
  cases w with
  | non => cases e; rfl
  | bl c => cases e; rfl
  | int i => cases e; rfl
  | str x =>
    unfold truV at e
    dsimp only at e
    split at e
    · rename_i hz; cases e; exact ⟨by rw [← line_eq]; exact hz, rfl⟩
    · cases e
  | ref a =>
    unfold truV at e
    dsimp only at e
    cases ha : h[a]? with
    | none => rw [ha] at e; cases e
    | some o =>
      rw [ha] at e
      have r := R.ob a o ha
      cases o with
      | lst xs => cases e; exact .inl ⟨_, .of r, by rw [isEmpty_map]⟩
      | frl xs => cases e; exact .inl ⟨_, Frl.sq r, by rw [isEmpty_map]⟩
      | tup xs => cases e; exact .inr (.inl ⟨_, .of r, by rw [isEmpty_map]⟩)
      | dct xs => cases e; exact .inr (.inr ⟨_, r, by rw [isEmpty_map]⟩)
      | _ => cases e
  | ty n => cases e
  | cls c => cases e
/-! ### x[i] -/
theorem atI_map {α β : Type} (f : α → β) (xs : List α) (i : Int) : atI (xs.map f) i = (atI xs i).map f := by
  unfold atI
  rw [List.length_map]
  cases ixN xs.length i with
  | none => rfl
  | some j => show (xs.map f)[j]? = (xs[j]?).map f; rw [List.getElem?_map]
theorem atI_mem {α : Type} {xs : List α} {i : Int} {v : α} (h : atI xs i = some v) : v ∈ xs := by
  obtain ⟨j, _, e, _⟩ := atI_get h
  exact List.mem_of_getElem? e
theorem op2_ix : Op2 Z (rIx Z.K) ixV := by
  intro m h H x y Q Xc R wx wy a
  cases y with
  | int k =>
    cases x with
    | str z =>
      unfold ixV at a
      dsimp only at a
      split at a
      · rename_i hz
        split at a
        · rename_i c hc
          exact .inr (.inr ⟨z, k, c, rfl, rfl, by rw [← line_eq]; exact hz, hc, a.of_ret R trivial⟩)
        · exact a.none'
      · exact a.none'
    | ref i =>
      unfold ixV at a
      dsimp only at a
      cases hi : h[i]? with
      | none => rw [hi] at a; exact a.none'
      | some o =>
        rw [hi] at a
        have r := R.ob i o hi
        have wfo := R.wf i o hi
        cases o with
        | lst xs =>
          dsimp only at a
          split at a
          · rename_i v hv
            exact .inl ⟨m i, _, k, _, rfl, rfl, .of r, by rw [atI_map, hv]; rfl, a.of_ret R (wfo v (atI_mem hv))⟩
          · exact a.none'
        | frl xs =>
          dsimp only at a
          split at a
          · rename_i v hv
            exact .inl ⟨m i, _, k, _, rfl, rfl, Frl.sq r, by rw [atI_map, hv]; rfl, a.of_ret R (wfo v (atI_mem hv))⟩
          · exact a.none'
        | tup xs =>
          dsimp only at a
          split at a
          · rename_i v hv
            exact .inr (.inl ⟨m i, _, k, _, rfl, rfl, .of r, by rw [atI_map, hv]; rfl, a.of_ret R (wfo v (atI_mem hv))⟩)
          · exact a.none'
        | _ => exact a.none'
    | _ => exact a.none'
  | _ => cases x <;> exact a.none'
/-! ### slices -/
theorem cut_map {α β : Type} (f : α → β) (xs : List α) (lo hi : Option Int) : (cutL xs lo hi).map f = cutL (xs.map f) lo hi := by
  unfold cutL
  rw [List.length_map, List.map_take, List.map_drop]
theorem cut_mem {α : Type} {xs : List α} {lo hi : Option Int} {x : α} (h : x ∈ cutL xs lo hi) : x ∈ xs := List.mem_of_mem_drop (List.mem_of_mem_take h)
abbrev rSl2 (K : PySem.W.Frag) : V → Option Int → Option Int → Hp → VK → Prop := fun x lo hi H Q => rSlL K x lo hi H Q ∨ rSlS x lo hi H Q
theorem slBoth : SlR X (rSl2 X.K) := sl_list.or sl_str
theorem cut_ok {m : Plc} {h : Hq} {H : Hp} {x : W} {lo hi : Option Int} {Q : VK} {Xc : Value → Option Addr → Hp → Prop} (R : RelH Z m h H) (a : Res Z m h (cutW x lo hi h) (qW Z Q) Xc) : rSl2 Z.K (tv Z.cl m x) lo hi H Q := by
  cases x with
  | str z =>
    unfold cutW at a
    dsimp only at a
    split at a
    · rename_i hz
      exact .inr ⟨z, rfl, by rw [← line_eq]; exact hz, a.of_ret R trivial⟩
    · exact a.none'
  | ref i =>
    unfold cutW at a
    dsimp only at a
    cases hi' : h[i]? with
    | none => rw [hi'] at a; exact a.none'
    | some o =>
      rw [hi'] at a
      have r := R.ob i o hi'
      have wfo := R.wf i o hi'
      cases o with
      | lst xs =>
        refine .inl ⟨m i, _, rfl, .of r, ?_⟩
        have q := allocL a R (fun w hw => wfo w (cut_mem hw))
        rw [cut_map] at q
        exact q
      | frl xs =>
        refine .inl ⟨m i, _, rfl, Frl.sq r, ?_⟩
        have q := allocL a R (fun w hw => wfo w (cut_mem hw))
        rw [cut_map] at q
        exact q
      | _ => exact a.none'
  | _ => exact a.none'
/-! ### o[i] = v -/
theorem set_ok {m : Plc} {h h' : Hq} {H : Hp} {o i v : W} {Q : Hp → Prop} (R : RelH Z m h H) (wv : wfW h.length v) (e : setV o i v h = some h') (q : ∀ H', RelH Z m h' H' → Q H') (ext : h'.length = h.length → True) :
    rSetL (tv Z.cl m o) (tv Z.cl m i) (tv Z.cl m v) H Q := by
  cases o with
  | ref a =>
    unfold setV at e
    dsimp only at e
    cases ha : h[a]? with
    | none => rw [ha] at e; cases e
    | some ob =>
      rw [ha] at e
      cases ob with
      | lst xs =>
        dsimp only at e
        cases i with
        | int k =>
          dsimp only at e
          cases hj : ixN xs.length k with
          | none => rw [hj] at e; cases e
          | some j =>
            rw [hj] at e
            have e : some (h.set a (.lst (xs.set j v))) = some h' := e
            cases e
            refine ⟨m a, _, k, j, rfl, rfl, R.ob a _ ha, by rw [List.length_map]; exact hj, q _ ?_⟩
            refine R.write ha rfl (fun b hb => upd_ne hb) ?_ (fun w hw => ?_)
            · show _ = _
              rw [upd_same, List.map_set]
            · rcases List.mem_or_eq_of_mem_set hw with z | z
              · exact R.wf a _ ha w z
              · rw [z]; exact wv
        | _ => cases e
      | _ => cases e
  | _ => cases e
/-! ### built-in functions -/
abbrev RC := List V → Hp → VK → Prop
def rFn (K : PySem.W.Frag) : Fn → RC
  | .len => fun xs H Q => ∃ x n, xs = [x] ∧ LenV K x H n ∧ Q (.int n) H
  | .int => fun xs H Q => ((∃ i, xs = [.int i] ∧ Q (.int i) H) ∨ ∃ k, xs = [.bl k] ∧ Q (.int (if k then 1 else 0)) H) ∨ ∃ a n, xs = [.str a] ∧ PySem.intText? a = some n ∧ a.length ≤ 640 ∧ Q (.int n) H
  | .str => fun xs H Q => (∃ i, xs = [.int i] ∧ i.natAbs.log2 < 1920 ∧ Q (.str (toString i)) H) ∨ ∃ a, xs = [.str a] ∧ Q (.str a) H
  | .abs => fun xs H Q => ∃ i, xs = [.int i] ∧ Q (.int (if i < 0 then -i else i)) H
  | .min => fun xs H Q => ∃ i j, xs = [.int i, .int j] ∧ Q (.int (if j < i then j else i)) H
  | .max => fun xs H Q => ∃ i j, xs = [.int i, .int j] ∧ Q (.int (if j > i then j else i)) H
  | .list => fun xs H Q => ∃ p ys, xs = [.ref p] ∧ (SqL K H p ys ∨ SqT K H p ys) ∧ ∀ l, H l = none → Q (.ref l) (upd H l (.lst ys))
  | .isi => rIsi K
  | .sorted => rSortedI K
def fnName : Fn → Str
  | .len => Str.ofString "len" | .int => Str.ofString "int" | .str => Str.ofString "str" | .abs => Str.ofString "abs" | .min => Str.ofString "min" | .max => Str.ofString "max" | .list => Str.ofString "list" | .isi => Str.ofString "isinstance" | .sorted => Str.ofString "sorted"
def fnVal : Fn → Value
  | .len => .builtin "len" | .int => .type "int" | .str => .type "str" | .abs => .builtin "abs" | .min => .builtin "min" | .max => .builtin "max" | .list => .type "list" | .isi => .builtin "isinstance" | .sorted => .builtin "sorted"
/-- what serves where an exception is handled too -/
def fnHot : Fn → Bool
  | .min => false | .max => false | .sorted => false | _ => true
theorem fnBoot : ∀ b : Fn, bootBuiltins (fnName b) = some (fnVal b) := by intro b; cases b <;> decide +kernel
theorem callFn : ∀ b : Fn, (fnHot b = false → X.calm = true) → CallR X (fnVal b) (rFn X.K b)
  | .len, _ => call_len | .int, _ => call_int1.or call_int_str | .str, _ => call_str_int.or SkE.call_str_str | .abs, _ => call_abs | .min, c => call_min2 (c rfl) | .max, c => call_max2 (c rfl) | .list, _ => call_list_of | .isi, _ => call_isi | .sorted, _ => cr_sortedI
/-- what the written part says of the program's classes -/
structure ClsF (Γ : Gam) (Z : St0) : Prop where
  kit : ∀ c d, Γ.hc c = true → Γ.hc d = true → PySem.W.kitOne Z.K (.ref (Z.cl c)) (.ref (Z.cl d)) = some (Γ.sub c d)
  kitT : ∀ c n, Γ.hc c = true → n ∈ Γ.tys → PySem.W.kitOne Z.K (.ref (Z.cl c)) (.type n) = some (Γ.subT c n)
  exc : ∀ c, Γ.hc c = true → Γ.exc c = true → ExcC Z.K (Z.cl c)
  ins : ∀ c, Γ.hc c = true → Γ.exc c = false → Cls Z.K (Z.cl c) ∧ PySem.W.findIn Z.K (.ref (Z.cl c)) "__class__" = some (some (.builtin "object.__class__")) ∧
    PySem.W.specialIn Z.K (.builtin "object.__class__") "__get__" = some (some (.builtin "getset_descriptor.__get__")) ∧ PySem.W.takesIn Z.K (.builtin "object.__class__") = some true ∧
    PySem.W.mroIn Z.K (Z.cl c) (.type "object") = some true
/-- isinstance of the exception that is handled -/
def rIsX (Z : St0) : RC := fun xs H Q => ∃ (a : Addr) (oe : Obj) (C d : Addr) (fs : List (Str × V)) (c : V) (cv : Value) (b : Bool), Z.px = some (a, oe) ∧ oe.cls = .ref C ∧ oe.dict = some d ∧ H d = some (.xd fs) ∧
  xs = [.ref a, c] ∧ ExcC Z.K C ∧ (∀ u, RelV c u → u = cv) ∧ PySem.W.kitOne Z.K (.ref C) cv = some b ∧ Q (.bl b) H
/-- the handled exception is pinned -/
def PxOk (X : Cx) (Z : St0) : Prop := ∀ a oe, Z.px = some (a, oe) → (a, oe) ∈ X.pn ∧ ∃ vs, oe.data = .fields vs
theorem call_isX (hK : X.K = Z.K) (px : PxOk X Z) : CallR X (.builtin "isinstance") (rIsX Z) := by
  intro pins s σ H xs us Q I r h
  obtain ⟨a, oe, C, d, fs, c, cv, b, hp, h1, h2, hd, rfl, F, hcv, e, q⟩ := h
  cases r with
  | cons rx rr =>
    cases rr with
    | cons rt rr =>
      cases rr
      cases rx
      have ec := hcv _ rt
      subst ec
      obtain ⟨hm, vs, hv⟩ := px a oe hp
      obtain ⟨hget, _⟩ := I.pin (a, oe) (List.mem_append_left _ hm)
      have hx : ObjOk X.prog X.w H s.heap d (.xd fs) := I.hok d _ hd
      obtain ⟨mA, hns, _⟩ := hx
      obtain ⟨od, ho, _⟩ := lookIn_ns hns
      have J : PySem.W.InstAt s.heap a oe C (some od) := by
        obtain ⟨oc, odd, oda, osl⟩ := oe
        dsimp only at h1 h2 hv
        subst h1 h2 hv
        exact ⟨hget, rfl, rfl, ho⟩
      rw [← hK] at F e
      obtain ⟨cdD, hcD, _⟩ := PySem.W.any_some F.hd
      exact PySem.W.kia_one (PySem.W.kitx_exc (by rw [hcD]; rfl) F.hg F.hk F.hs F.ha F.hn F.ht F.hm) I.kIn J e (fun z => nomatch z) fun tk => ⟨.bl b, H, I.kept (t' := tk) fun _ _ z => z, rfl, q⟩
def rFn2 (Z : St0) : Fn → RC
  | .isi => fun xs H Q => rIsi Z.K xs H Q ∨ rIsX Z xs H Q
  | b => rFn Z.K b
theorem callFn2 (hK : X.K = Z.K) (px : PxOk X Z) (b : Fn) (hc : fnHot b = false → X.calm = true) : CallR X (fnVal b) (rFn2 Z b) := by
  have k := callFn b hc
  rw [hK] at k
  cases b with
  | isi => exact k.or (call_isX hK px)
  | _ => exact k
theorem tyOf_ty {Γ : Gam} {m : Plc} {h : Hq} {H : Hp} {w : W} {n : String} (R : RelH Z m h H) (e : tyOf h w = some n) : TyX Z.K H (tv Z.cl m w) (.type n) := by
  cases w with
  | non => cases e; exact .base .non
  | bl b => cases e; exact .base (.bl b)
  | int i => cases e; exact .base (.int i)
  | str x => cases e; exact .base (.str x)
  | ty t => cases e
  | cls c => cases e
  | ref a =>
    unfold tyOf at e
    dsimp only at e
    cases ha : h[a]? with
    | none => rw [ha] at e; cases e
    | some o =>
      rw [ha] at e
      have r := R.ob a o ha
      cases o with
      | lst xs => cases e; exact .base (.lst r)
      | frl xs =>
        cases e
        rcases r with ⟨o, r⟩ | ⟨o, its, n, h1, h2, _⟩
        · exact .base (.frz r)
        · exact .kList h1 h2
      | tup xs => cases e; exact .base (.tup r)
      | dct xs => cases e; exact .base (.dK r)
      | _ => cases e
theorem clsV_tv {m : Plc} {t : W} (h : (∃ n, t = .ty n) ∨ ∃ c, t = .cls c) : ∃ u, ClsV (tv Z.cl m t) u := by
  rcases h with ⟨n, rfl⟩ | ⟨c, rfl⟩
  · exact ⟨_, .ty n⟩
  · exact ⟨_, .own _⟩
theorem isi_ok {Γ : Gam} (F : ClsF Γ Z) {m : Plc} {h : Hq} {H : Hp} {x t : W} {b : Bool} {Q : VK} (R : RelH Z m h H) (e : isiV Γ h x t = some b) (q : Q (.bl b) H) : rFn2 Z .isi [tv Z.cl m x, tv Z.cl m t] H Q := by
  have own : ∀ (k : Bool) (c : Nat) (cv : Value), clsOf h x = some (k, c) → Γ.hc c = true → Γ.exc c = k → ClsV (tv Z.cl m t) cv → PySem.W.kitOne Z.K (.ref (Z.cl c)) cv = some b → rFn2 Z .isi [tv Z.cl m x, tv Z.cl m t] H Q := by
    intro k c cv ex hc hx hcv hk
    cases x with
    | ref a =>
      unfold clsOf at ex
      dsimp only at ex
      cases ha : h[a]? with
      | none => rw [ha] at ex; cases ex
      | some o =>
        rw [ha] at ex
        have r := R.ob a o ha
        cases o with
        | ins c' fs =>
          cases ex
          obtain ⟨dx, r⟩ := r
          obtain ⟨f1, f2, f3, f4, f5⟩ := F.ins c hc hx
          exact .inl ⟨_, _, _, cv, b, rfl, hcv, .base (.ins r f1 f2 f3 f4 f5), hk, q⟩
        | exc c' w =>
          cases ex
          obtain ⟨oe, d, p1, p2, p3, p4⟩ := r
          exact .inr ⟨m a, oe, Z.cl c, d, _, _, cv, b, p1, p2, p3, p4, rfl, F.exc c hc hx, fun u ru => hcv.eq ru, hk, q⟩
        | _ => cases ex
    | _ => cases ex
  unfold isiV at e
  split at e
  · rename_i a ex
    split at e
    · rename_i n
      exact .inl ⟨_, _, _, _, b, rfl, .ty _, tyOf_ty (Γ := Γ) R ex, kit_ty e, q⟩
    · cases e
  · split at e
    · rename_i k c ex
      split at e
      · rename_i hc
        split at e
        · rename_i d
          split at e
          · rename_i hd
            cases e
            exact own k c _ ex hc.1 hc.2 (.own _) (F.kit c d hc.1 hd)
          · cases e
        · rename_i n
          split at e
          · rename_i hd
            cases e
            exact own k c _ ex hc.1 hc.2 (.ty _) (F.kitT c n hc.1 hd)
          · cases e
        · cases e
      · cases e
    · cases e
theorem lstOf_ok {m : Plc} {h : Hq} {H : Hp} {w : W} {xs : List W} (R : RelH Z m h H) (e : lstOf h w = some xs) : ∃ a, w = .ref a ∧ SqL Z.K H (m a) (xs.map (tv Z.cl m)) ∧ ∀ v ∈ xs, wfW h.length v := by
  cases w with
  | ref a =>
    unfold lstOf at e
    dsimp only at e
    cases ha : h[a]? with
    | none => rw [ha] at e; cases e
    | some o =>
      rw [ha] at e
      have r := R.ob a o ha
      have wfo := R.wf a o ha
      cases o with
      | lst ys => cases e; exact ⟨a, rfl, .of r, wfo⟩
      | frl ys => cases e; exact ⟨a, rfl, Frl.sq r, wfo⟩
      | _ => cases e
  | _ => cases e
theorem intsOf_ok {cl p : Plc} : ∀ {xs : List W} {ys : List Int}, intsOf xs = some ys → xs.map (tv cl p) = ys.map V.int
  | [], ys, e => by cases e; rfl
  | .int z :: r, ys, e => by
    unfold intsOf at e
    cases hr : intsOf r with
    | none => rw [hr] at e; cases e
    | some zs => rw [hr] at e; cases e; exact congrArg (V.int z :: ·) (intsOf_ok hr)
  | .non :: _, _, e => by cases e
  | .bl _ :: _, _, e => by cases e
  | .str _ :: _, _, e => by cases e
  | .ref _ :: _, _, e => by cases e
  | .ty _ :: _, _, e => by cases e
  | .cls _ :: _, _, e => by cases e
theorem insI_perm (x : Int) : ∀ l : List Int, (insI x l).Perm (x :: l)
  | [] => .refl _
  | y :: r => by
    unfold insI
    split
    · exact .refl _
    · exact ((insI_perm x r).cons y).trans (.swap x y r)
theorem sortI_perm : ∀ l : List Int, (sortI l).Perm l
  | [] => .refl _
  | x :: r => (insI_perm x _).trans ((sortI_perm r).cons x)
theorem insI_ord (x : Int) : ∀ {l : List Int}, l.Pairwise (· ≤ ·) → (insI x l).Pairwise (· ≤ ·)
  | [], _ => List.pairwise_singleton _ _
  | y :: r, h => by
    obtain ⟨h1, h2⟩ := List.pairwise_cons.mp h
    unfold insI
    split
    · rename_i hx
      refine List.pairwise_cons.mpr ⟨fun z hz => ?_, h⟩
      rcases List.mem_cons.mp hz with rfl | q
      · exact hx
      · exact Int.le_trans hx (h1 z q)
    · rename_i hx
      refine List.pairwise_cons.mpr ⟨fun z hz => ?_, insI_ord x h2⟩
      rcases List.mem_cons.mp ((insI_perm x r).mem_iff.mp hz) with rfl | q
      · omega
      · exact h1 z q
theorem sortI_ord : ∀ l : List Int, (sortI l).Pairwise (· ≤ ·)
  | [] => .nil
  | x :: r => insI_ord x (sortI_ord r)
theorem ord_uniq : ∀ {a b : List Int}, a.Perm b → a.Pairwise (· ≤ ·) → b.Pairwise (· ≤ ·) → a = b
  | [], b, p, _, _ => (List.Perm.nil_eq p)
  | x :: a, [], p, _, _ => by cases p.length_eq
  | x :: a, y :: b, p, ha, hb => by
    obtain ⟨a1, a2⟩ := List.pairwise_cons.mp ha
    obtain ⟨b1, b2⟩ := List.pairwise_cons.mp hb
    have e : x = y := by
      have hx : x ∈ y :: b := p.mem_iff.mp List.mem_cons_self
      have hy : y ∈ x :: a := p.mem_iff.mpr List.mem_cons_self
      rcases List.mem_cons.mp hx with q | q
      · exact q
      · rcases List.mem_cons.mp hy with r | r
        · exact r.symm
        · have := b1 x q
          have := a1 y r
          omega
    subst e
    rw [ord_uniq (List.Perm.cons_inv p) a2 b2]
theorem sortI_uniq {a b : List Int} (p : a.Perm b) (h : a.Pairwise (· ≤ ·)) : a = sortI b := ord_uniq (p.trans (sortI_perm b).symm) h (sortI_ord b)
theorem fn_ok {Γ : Gam} (F : ClsF Γ Z) (b : Fn) {m : Plc} {h : Hq} {H : Hp} {vs : List W} {Q : VK} {Xc : Value → Option Addr → Hp → Prop} (R : RelH Z m h H) (wv : ∀ w ∈ vs, wfW h.length w) (a : Res Z m h (fnV Γ b vs h) (qW Z Q) Xc) :
    rFn2 Z b (vs.map (tv Z.cl m)) H Q := by
  unfold fnV at a
  split at a
  · rename_i z
    split at a
    · rename_i hz
      exact ⟨_, _, rfl, ⟨by rw [← line_eq]; exact hz, rfl⟩, a.of_ret R trivial⟩
    · exact a.none'
  · rename_i i
    cases hi : h[i]? with
    | none => rw [hi] at a; exact a.none'
    | some o =>
      rw [hi] at a
      have r := R.ob i o hi
      cases o with
      | lst xs => exact ⟨_, _, rfl, .inl ⟨_, .of r, rfl⟩, by rw [List.length_map]; exact a.of_ret R trivial⟩
      | frl xs => exact ⟨_, _, rfl, .inl ⟨_, Frl.sq r, rfl⟩, by rw [List.length_map]; exact a.of_ret R trivial⟩
      | tup xs => exact ⟨_, _, rfl, .inr ⟨_, .of r, rfl⟩, by rw [List.length_map]; exact a.of_ret R trivial⟩
      | _ => exact a.none'
  · exact .inl (.inl ⟨_, rfl, a.of_ret R trivial⟩)
  · exact ⟨_, rfl, a.of_ret R trivial⟩
  · exact ⟨_, _, rfl, a.of_ret R trivial⟩
  · exact ⟨_, _, rfl, a.of_ret R trivial⟩
  · split at a
    · rename_i hz
      exact .inl ⟨_, rfl, hz, a.of_ret R trivial⟩
    · exact a.none'
  · exact .inr ⟨_, rfl, a.of_ret R trivial⟩
  · split at a
    · rename_i n hn
      split at a
      · rename_i hz
        exact .inr ⟨_, n, rfl, hn, hz, a.of_ret R trivial⟩
      · exact a.none'
    · exact a.none'
  · rename_i x
    split at a
    · rename_i ns hy
      obtain ⟨xs, hx, hs⟩ := Option.bind_eq_some_iff.mp hy
      obtain ⟨i, rfl, sq, _⟩ := lstOf_ok R hx
      rw [intsOf_ok hs] at sq
      refine ⟨m i, ns, rfl, sq, fun ns' q hp ho hq => ?_⟩
      have k := allocL a R (fun w hw => by
        obtain ⟨y, _, rfl⟩ := List.mem_map.mp hw
        trivial) q hq
      rw [List.map_map] at k
      rw [sortI_uniq hp ho]
      exact k
    · exact a.none'
  · rename_i i
    cases hi : h[i]? with
    | none => rw [hi] at a; exact a.none'
    | some o =>
      rw [hi] at a
      have r := R.ob i o hi
      have wfo := R.wf i o hi
      cases o with
      | lst xs => exact ⟨_, _, rfl, .inl (.of r), allocL a R fun w hw => wfo w hw⟩
      | frl xs => exact ⟨_, _, rfl, .inl (Frl.sq r), allocL a R fun w hw => wfo w hw⟩
      | tup xs => exact ⟨_, _, rfl, .inr (.of r), allocL a R fun w hw => wfo w hw⟩
      | _ => exact a.none'
  · rename_i x t
    unfold optB at a
    cases hb : isiV Γ h x t with
    | none => rw [hb] at a; exact a.none'
    | some b => rw [hb] at a; exact isi_ok F R hb (a.of_ret R trivial)
  · exact a.none'
/-! ### methods of built-in types -/
def mName : Mt → Str
  | .append => Str.ofString "append" | .pop => Str.ofString "pop" | .upper => Str.ofString "upper" | .split => Str.ofString "split" | .join => Str.ofString "join" | .strip => Str.ofString "strip"
  | .startswith => Str.ofString "startswith" | .find => Str.ofString "find"
def mTy : Mt → String
  | .append => "list" | .pop => "list" | _ => "str"
def mId : Mt → String
  | .append => "list.append" | .pop => "list.pop" | .upper => "str.upper" | .split => "str.split" | .join => "str.join" | .strip => "str.strip" | .startswith => "str.startswith" | .find => "str.find"
def rMt (K : PySem.W.Frag) : Mt → V → List V → Hp → VK → Prop
  | .append => rAppend | .pop => rPop | .upper => fun x xs H Q => ∃ a, x = .str a ∧ xs = [] ∧ a.length ≤ 5592405 ∧ Q (.str (Txt.upper a)) H
  | .split => fun x xs H Q => ∃ a b, x = .str a ∧ xs = [.str b] ∧ (b.length == 0) = false ∧ a.length + 2 ≤ sizeLine ∧ rNewStrs (Txt.split a b) H Q
  | .join => fun x xs H Q => ∃ a p, ∃ ys : List Str, x = .str a ∧ xs = [.ref p] ∧ (SqL K H p (ys.map V.str) ∨ SqT K H p (ys.map V.str)) ∧ (ys.map (·.length)).sum + ys.length * a.length ≤ 16777216 ∧ Q (.str (Txt.join a ys)) H
  | .strip => fun x xs H Q => ∃ a, x = .str a ∧ xs = [] ∧ a.length ≤ sizeLine ∧ Q (.str (Txt.strip a)) H
  | .startswith => fun x xs H Q => ∃ a b, x = .str a ∧ xs = [.str b] ∧ Q (.bl (Txt.startswith a b)) H
  | .find => fun x xs H Q => ∃ a b, x = .str a ∧ xs = [.str b] ∧ Q (.int (Txt.find a b)) H
theorem mSlot : ∀ m : Mt, Slot (mTy m) (mName m) (mId m)
  | .append => PySem.F.slot_list_append | .pop => PySem.F.slot_list_pop | .upper => PySem.F.slot_str_upper | .split => PySem.F.slot_str_split | .join => PySem.F.slot_str_join | .strip => PySem.F.slot_str_strip
  | .startswith => PySem.F.slot_str_startswith | .find => PySem.F.slot_str_find
theorem mPlain : ∀ m : Mt, PlainAttrs (mTy m)
  | .append => PySem.F.plainAttrs_list | .pop => PySem.F.plainAttrs_list | .upper => PySem.F.plainAttrs_str | .split => PySem.F.plainAttrs_str | .join => PySem.F.plainAttrs_str | .strip => PySem.F.plainAttrs_str
  | .startswith => PySem.F.plainAttrs_str | .find => PySem.F.plainAttrs_str
theorem mType : ∀ m : Mt, typeOf (.builtin (mId m)) = pure (.type "method_descriptor")
  | .append => PySem.F.type_list_append | .pop => PySem.F.type_list_pop | .upper => PySem.F.type_str_upper | .split => PySem.F.type_str_split | .join => PySem.F.type_str_join | .strip => PySem.F.type_str_strip
  | .startswith => PySem.F.type_str_startswith | .find => PySem.F.type_str_find
theorem mRule : ∀ m : Mt, MtR X (mId m) (rMt X.K m)
  | .append => mt_append | .pop => mt_pop | .upper => mt_upper | .split => mt_split | .join => mt_join | .strip => mt_strip | .startswith => mt_startswith | .find => mt_find
theorem strsOf_ok {cl p : Plc} : ∀ {xs : List W} {ys : List Str}, strsOf xs = some ys → xs.map (tv cl p) = ys.map V.str
  | [], ys, e => by cases e; rfl
  | .str z :: r, ys, e => by
    unfold strsOf at e
    cases hr : strsOf r with
    | none => rw [hr] at e; cases e
    | some zs => rw [hr] at e; cases e; exact congrArg (V.str z :: ·) (strsOf_ok hr)
  | .non :: _, _, e => by cases e
  | .bl _ :: _, _, e => by cases e
  | .int _ :: _, _, e => by cases e
  | .ref _ :: _, _, e => by cases e
  | .ty _ :: _, _, e => by cases e
  | .cls _ :: _, _, e => by cases e
theorem seqOf_ok {m : Plc} {h : Hq} {H : Hp} {w : W} {xs : List W} (R : RelH Z m h H) (e : seqOf h w = some xs) : ∃ a, w = .ref a ∧ (SqL Z.K H (m a) (xs.map (tv Z.cl m)) ∨ SqT Z.K H (m a) (xs.map (tv Z.cl m))) ∧ ∀ v ∈ xs, wfW h.length v := by
  cases w with
  | ref a =>
    unfold seqOf lstOf tupOf at e
    dsimp only at e
    cases ha : h[a]? with
    | none => rw [ha] at e; cases e
    | some o =>
      rw [ha] at e
      have r := R.ob a o ha
      have wfo := R.wf a o ha
      cases o with
      | lst ys => cases e; exact ⟨a, rfl, .inl (.of r), wfo⟩
      | frl ys => cases e; exact ⟨a, rfl, .inl (Frl.sq r), wfo⟩
      | tup ys => cases e; exact ⟨a, rfl, .inr (.of r), wfo⟩
      | _ => cases e
  | _ => cases e
theorem mthPre_ok {m : Mt} {p : Plc} {h : Hq} {H : Hp} {x : W} (R : RelH Z p h H) (e : mthPre m x h = true) : tyV Z.K (mTy m) (tv Z.cl p x) H := by
  have lst : (lstOf h x).isSome = true → tyV Z.K "list" (tv Z.cl p x) H := fun e => by
    obtain ⟨xs, e⟩ := Option.isSome_iff_exists.mp e
    obtain ⟨a, rfl, s, _⟩ := lstOf_ok R e
    exact .inl ⟨rfl, _, s⟩
  cases m with
  | append => exact lst e
  | pop => exact lst e
  | _ => cases x <;> first | cases e; done | rfl
theorem mth_ok {m : Mt} {p : Plc} {h : Hq} {H : Hp} {x : W} {vs : List W} {Q : VK} {Xc : Value → Option Addr → Hp → Prop} (R : RelH Z p h H) (wx : wfW h.length x) (wv : ∀ w ∈ vs, wfW h.length w) (a : Res Z p h (mthV m x vs h) (qW Z Q) Xc) :
    rMt Z.K m (tv Z.cl p x) (vs.map (tv Z.cl p)) H Q := by
  unfold mthV at a
  split at a
  · rename_i i y
    cases hi : h[i]? with
    | none => rw [hi] at a; exact a.none'
    | some o =>
      rw [hi] at a
      cases o with
      | lst xs =>
        dsimp only at a
        split at a
        · rename_i hz
          have r : H (p i) = some (.lst (xs.map (tv Z.cl p))) := R.ob i _ hi
          refine ⟨p i, _, _, rfl, rfl, r, by rw [List.length_map, ← line_eq]; exact hz, ?_⟩
          have R' : RelH Z p (h.set i (.lst (xs ++ [y]))) (upd H (p i) (.lst (xs.map (tv Z.cl p) ++ [tv Z.cl p y]))) := by
            refine R.write hi rfl (fun b hb => upd_ne hb) ?_ fun w hw => ?_
            · show _ = _
              rw [upd_same, List.map_append]; rfl
            · rcases List.mem_append.mp hw with z | z
              · exact R.wf i _ hi w z
              · rw [List.mem_singleton.mp z]; exact wv y List.mem_cons_self
          exact a p _ ⟨by rw [List.length_set]; exact Nat.le_refl _, fun _ _ => rfl⟩ R' trivial
        · exact a.none'
      | _ => exact a.none'
  · rename_i i
    cases hi : h[i]? with
    | none => rw [hi] at a; exact a.none'
    | some o =>
      rw [hi] at a
      cases o with
      | lst xs =>
        dsimp only at a
        split at a
        · rename_i y hy
          have r : H (p i) = some (.lst (xs.map (tv Z.cl p))) := R.ob i _ hi
          have wy : wfW h.length y := R.wf i _ hi y (List.mem_of_getElem? hy)
          refine ⟨p i, _, tv Z.cl p y, rfl, rfl, r, by rw [List.length_map, List.getElem?_map, hy]; rfl, ?_⟩
          have R' : RelH Z p (h.set i (.lst xs.dropLast)) (upd H (p i) (.lst (xs.map (tv Z.cl p)).dropLast)) := by
            refine R.write hi rfl (fun b hb => upd_ne hb) ?_ fun w hw => R.wf i _ hi w (List.dropLast_subset _ hw)
            show _ = _
            rw [upd_same, List.map_dropLast]
          exact a p _ ⟨by rw [List.length_set]; exact Nat.le_refl _, fun _ _ => rfl⟩ R' (by rw [List.length_set]; exact wy)
        · exact a.none'
      | _ => exact a.none'
  · split at a
    · rename_i hz
      exact ⟨_, rfl, rfl, hz, a.of_ret R trivial⟩
    · exact a.none'
  · rename_i z b
    split at a
    · rename_i hz
      refine ⟨z, b, rfl, rfl, hz.1, by rw [← line_eq]; exact hz.2, fun q hq => ?_⟩
      have k := allocL a R (fun w hw => by
        obtain ⟨y, _, rfl⟩ := List.mem_map.mp hw
        trivial) q hq
      rw [List.map_map] at k
      exact k
    · exact a.none'
  · rename_i z y
    split at a
    · rename_i ys hy
      obtain ⟨xs, hx, hs⟩ := Option.bind_eq_some_iff.mp hy
      obtain ⟨i, rfl, sq, _⟩ := seqOf_ok R hx
      rw [strsOf_ok hs] at sq
      split at a
      · rename_i hz
        exact ⟨z, p i, ys, rfl, rfl, sq, hz, a.of_ret R trivial⟩
      · exact a.none'
    · exact a.none'
  · split at a
    · rename_i hz
      exact ⟨_, rfl, rfl, by rw [← line_eq]; exact hz, a.of_ret R trivial⟩
    · exact a.none'
  · exact ⟨_, _, rfl, rfl, a.of_ret R trivial⟩
  · exact ⟨_, _, rfl, rfl, a.of_ret R trivial⟩
  · exact a.none'
end
end Mp
set_option Elab.async false
set_option linter.all false
set_option maxRecDepth 100000
set_option maxHeartbeats 4000000
/-! Mp E: loops and comprehensions, also where an exception is handled (over a range). -/
namespace Mp
open PySem PySem.Spec PyProof.Rows L2
/-- calm, or the handled exception is pinned -/
def Serves (hot : Bool) (X : Cx) : Prop := X.calm = true ∨ (hot = true ∧ L2H.HotC X)
/-- a walk that the context serves (the library's Turn, the handled exception told) -/
structure Trn (hot : Bool) (P : Program) (w : World) (K : PySem.W.Frag) (tg : Expr) (J : It) (fp : List Addr) (it : Addr) (tn : Nat → Heap → Prop) : Prop where
  mem : it ∈ fp
  obj : ∀ i h, tn i h → ∀ b ∈ fp, ∃ o, h.get? b = some o ∧ ∀ v, o.data ≠ .cell v
  keep : ∀ i h h', tn i h → (∀ b ∈ fp, ∀ o, h.get? b = some o → h'.get? b = some o) → tn i h'
  item : ∀ (X : Cx), X.prog = P → X.w = w → X.K = K → Serves hot X → ∀ (i : Nat) (pins : List (Addr × Obj)) (s : Shared) (σ : L2.St) (H : Hp) (E : Value → Shared → Prop), Inv X pins σ H s → (∀ b ∈ fp, FpOk X pins H b) → tn i s.heap → J.go i H →
    wpAny (model P w) X.A (pyNext (.ref it)) (fun r s1 => ∃ u, r = some u ∧
      wpAny (model P w) X.A (letOwnedTupleGo tg (.ref it) u) (fun _ s2 => ∃ x H', Inv X pins σ H' s2 ∧ RelV x u ∧ J.yld i H x H' ∧ tn (i + 1) s2.heap ∧ ∀ b ∈ fp, H' b = none) E s1) E s
  done : ∀ (X : Cx), X.prog = P → X.w = w → X.K = K → Serves hot X → ∀ (i : Nat) (pins : List (Addr × Obj)) (s : Shared) (σ : L2.St) (H : Hp) (E : Value → Shared → Prop), Inv X pins σ H s → (∀ b ∈ fp, FpOk X pins H b) → tn i s.heap → J.stop i H →
    wpAny (model P w) X.A (pyNext (.ref it)) (fun r s1 => r = none ∧ Inv X pins σ H s1) E s
  self : ∀ (A : Around) (i : Nat) (s : Shared) (Q : Value → Shared → Prop) (E : Value → Shared → Prop), tn i s.heap → Q (.ref it) s → wpAny (model P w) A (pyIter (.ref it)) Q E s
theorem Serves.calm {X : Cx} (h : Serves false X) : X.calm = true := h.elim id fun z => Bool.noConfusion z.1
/-- the library's walk, weakened -/
theorem Trn.of {P : Program} {w : World} {K : PySem.W.Frag} {tg : Expr} {J J' : It} {fp : List Addr} {it : Addr} {tn : Nat → Heap → Prop} (T : Turn P w K tg J fp it tn) (g : ∀ i H, J'.go i H → J.go i H)
    (y : ∀ i H x H', J'.go i H → J.yld i H x H' → J'.yld i H x H') (st : ∀ i H, J'.stop i H → J.stop i H) : Trn false P w K tg J' fp it tn where
  mem := T.mem
  obj := T.obj
  keep := T.keep
  item := fun X a b c hs i pins s σ H E I f t j => thn (T.item X a b c hs.calm i pins s σ H E I f t (g i H j)) fun r s1 ⟨u, e, q⟩ => ⟨u, e, thn q fun _ s2 ⟨x, H', I', rv, yl, t', n⟩ => ⟨x, H', I', rv, y i H x H' j yl, t', n⟩⟩
  done := fun X a b c hs i pins s σ H E I f t j => T.done X a b c hs.calm i pins s σ H E I f t (st i H j)
  self := T.self
/-- a range's walk, hot or calm -/
theorem Trn.range {P : Program} {w : World} {K : PySem.W.Frag} {tg : Expr} (it : Addr) (lo : Int) (n : Nat) (hot : Bool) : Trn hot P w K tg (Itr lo n) [it] it (fun i h => IsRangeIter h it (lo + (i : Nat)) ((n : Int) - (i : Nat)) 1) where
  mem := List.mem_singleton.mpr rfl
  obj := fun i h st b hb => by
    rw [List.mem_singleton.mp hb]
    exact ⟨_, st, fun v z => nomatch z⟩
  keep := fun i h h' st k => k it (List.mem_singleton.mpr rfl) _ st
  item := by
    intro X hP hw hK hs i pins s σ H E I hf st hg
    subst hP hw hK
    obtain ⟨f0, f1, f2, f3, f4, f5⟩ := hf it (List.mem_singleton.mpr rfl)
    have hg : i < n := hg
    refine wpAny_pyNext_range_item st (by omega) fun h' st' sb => ?_
    have e1 : lo + (i : Nat) + 1 = lo + ((i + 1 : Nat) : Int) := by omega
    have e2 : (n : Int) - (i : Nat) - 1 = (n : Int) - ((i + 1 : Nat) : Int) := by omega
    rw [e1, e2] at st'
    have I1 : Inv X pins σ H { s with heap := h', toks := s.toks + 1 } := I.turned (fun b o hb e => (sb.2 b hb).trans e) f0 f1 f3 f4 f5
    exact ⟨_, rfl, go_of (s := { s with heap := h', toks := s.toks + 1 }) (n := "range_iterator") st' rfl rfl (by decide) ⟨.int (lo + (i : Nat)), H, I1, ⟨_, rfl⟩, ⟨rfl, rfl⟩, st', fun b hb => (hf b hb).1⟩⟩
  done := by
    intro X hP hw hK hs i pins s σ H E I hf st hg
    subst hP hw hK
    obtain ⟨f0, f1, f2, f3, f4, f5⟩ := hf it (List.mem_singleton.mpr rfl)
    have hg : n ≤ i := hg
    rcases hs with hc | ⟨_, hc⟩
    · exact wpAny_pyNext_range_end (I.ok.hd hc) st (by omega) fun h' eb => ⟨rfl, I.turned (t' := s.toks) (fun b o hb e => eb b o hb e) f0 f1 f3 f4 f5⟩
    · obtain ⟨x1, hot⟩ := hc.at I
      exact HotX.pyNext_range_end_hot hot st (by omega) fun h' k => ⟨rfl, I.kept (t' := s.toks) k⟩
  self := fun _ _ _ _ _ st h => wpAny_pyIter_rangeiter st h
theorem Trn.imp {hot : Bool} {P : Program} {w : World} {K : PySem.W.Frag} {tg : Expr} {J J' : It} {fp : List Addr} {it : Addr} {tn : Nat → Heap → Prop} (T : Trn hot P w K tg J fp it tn) (g : ∀ i H, J'.go i H → J.go i H)
    (y : ∀ i H x H', J'.go i H → J.yld i H x H' → J'.yld i H x H') (st : ∀ i H, J'.stop i H → J.stop i H) : Trn hot P w K tg J' fp it tn where
  mem := T.mem
  obj := T.obj
  keep := T.keep
  item := fun X a b c hs i pins s σ H E I f t j => thn (T.item X a b c hs i pins s σ H E I f t (g i H j)) fun r s1 ⟨u, e, q⟩ => ⟨u, e, thn q fun _ s2 ⟨x, H', I', rv, yl, t', n⟩ => ⟨x, H', I', rv, y i H x H' j yl, t', n⟩⟩
  done := fun X a b c hs i pins s σ H E I f t j => T.done X a b c hs i pins s σ H E I f t (st i H j)
  self := T.self
/-- an iterator has come -/
def PIEH (hot : Bool) (X : Cx) (pins : List (Addr × Obj)) (σ : L2.St) (tg : Expr) (R : It → Hp → Prop) (itv : Value) (s2 : Shared) : Prop :=
  ∃ (it : Addr) (fp : List Addr) (tn : Nat → Heap → Prop) (J : It) (H' : Hp), itv = .ref it ∧ Inv X pins σ H' s2 ∧ Trn hot X.prog X.w X.K tg J fp it tn ∧ tn 0 s2.heap ∧ (∀ b ∈ fp, FpOk X pins H' b) ∧ R J H'
structure PIH (hot : Bool) (X : Cx) (tg iter : Expr) (wi : TI) : Prop where
  run : ∀ (pins : List (Addr × Obj)) (s : Shared) (σ : L2.St) (H : Hp) (R : It → Hp → Prop), Inv X pins σ H s → wi σ H R →
    wpAny (model X.prog X.w) X.A (eval iter X.env) (fun v s1 => wpAny (model X.prog X.w) X.A (pyIter v) (PIEH hot X pins σ tg R) X.xe s1) X.xe s
theorem one_it {hot : Bool} {X : Cx} {tg : Expr} {pins : List (Addr × Obj)} {σ : L2.St} {H : Hp} {s : Shared} {R : It → Hp → Prop} {J : It} {tn : Nat → Heap → Prop} {tk : Nat} (I : Inv X pins σ H s) (o : Obj)
    (T : Trn hot X.prog X.w X.K tg J [s.heap.objs.size] s.heap.objs.size tn) (st : tn 0 (s.heap.push o)) (q : R J H) : PIEH hot X pins σ tg R (.ref s.heap.objs.size) { s with heap := s.heap.push o, toks := tk } := by
  refine ⟨s.heap.objs.size, [s.heap.objs.size], tn, J, H, rfl, I.kept fun b ob e => Heap.get?_push_of_some _ e, T, st, fun b hb => ?_, q⟩
  rw [List.mem_singleton.mp hb]
  exact I.fpOk (Nat.le_refl _) (I.hok.fresh (Nat.le_refl _))
/-! ### our own walk: items as they were at the start, the walked object unchanged -/
def Stay (Z : St0) (m : Plc) (H : Hp) : Option (Nat × Ob) → Prop
  | none => True
  | some (a, o) => ObR Z m H (m a) o
def JW (Z : St0) (m : Plc) (g : Option (Nat × Ob)) (xs : List W) : It :=
  ⟨fun i H => i < xs.length ∧ Stay Z m H g, fun i H x H' => H' = H ∧ ∃ v, xs[i]? = some v ∧ x = tv Z.cl m v, fun i H => xs.length ≤ i ∧ Stay Z m H g⟩
section
variable {Z : St0} {X : Cx}
/-- a value is walked -/
theorem iter_val {m : Plc} {h : Hq} {H : Hp} {w : W} {wk : Wk} {tg : Expr} {pins : List (Addr × Obj)} {σ : L2.St} {s : Shared} {v : Value} {R : It → Hp → Prop} {E : Value → Shared → Prop} (hK : X.K = Z.K) (I : Inv X pins σ H s) (RH : RelH Z m h H)
    (rv : RelV (tv Z.cl m w) v) (e : walkOf w h = ret wk h) (q : R (JW Z m wk.1 wk.2) H) : wpAny (model X.prog X.w) X.A (pyIter v) (PIEH false X pins σ tg R) E s := by
  have seqL : ∀ (a : Nat) (xs : List W) (o : Ob), (∀ H', ObR Z m H' (m a) o → SqL Z.K H' (m a) (xs.map (tv Z.cl m))) → h[a]? = some o → w = .ref a → wk = (some (a, o), xs) → wpAny (model X.prog X.w) X.A (pyIter v) (PIEH false X pins σ tg R) E s := by
    intro a xs o hs ho hw hk
    subst hw hk
    obtain rfl : v = Value.ref (m a) := rv
    have hq := hs H (RH.ob a o ho)
    rw [← hK] at hq
    obtain ⟨its, rvs, p, hz⟩ := I.list hq
    refine wpAny_pyIter_list p.isList ?_
    refine one_it (tk := s.toks) I _ ((Trn.of (turn_list (m a) _) ?_ ?_ ?_)) ⟨_, Heap.get?_push_size _ rfl, rfl, rfl⟩ q
    · rintro i H' ⟨hi, st⟩
      exact ⟨_, tv Z.cl m xs[i], by rw [hK]; exact hs H' st, by rw [List.getElem?_map, List.getElem?_eq_getElem hi]; rfl⟩
    · rintro i H' x H2 ⟨hi, st⟩ ⟨e, y⟩
      refine ⟨e, xs[i], List.getElem?_eq_getElem hi, ?_⟩
      have := y _ (by rw [hK]; exact hs H' st)
      rw [List.getElem?_map, List.getElem?_eq_getElem hi] at this
      exact (Option.some.inj this).symm
    · rintro i H' ⟨hi, st⟩
      exact ⟨_, by rw [hK]; exact hs H' st, by rw [List.length_map]; exact hi⟩
  cases w with
  | str z =>
    cases e
    obtain ⟨t, rfl⟩ := rv
    have cv : ∀ (ty : String) (hty : ty = "str_ascii_iterator" ∨ ty = "str_iterator"), Trn false X.prog X.w X.K tg (JW Z m none (z.cps.toList.map fun c => W.str ⟨#[c]⟩)) [s.heap.objs.size] s.heap.objs.size (fun i h => h.IsStrIter s.heap.objs.size ty z t i) := fun ty hty => by
      refine Trn.of (turn_str _ z t ty hty) ?_ ?_ ?_
      · rintro i H' ⟨hi, _⟩
        rw [List.length_map] at hi
        exact (by simpa using hi : i < z.cps.size)
      · rintro i H' x H2 ⟨hi, _⟩ ⟨e, c, hc, rfl⟩
        refine ⟨e, .str ⟨#[c]⟩, ?_, rfl⟩
        rw [List.getElem?_map, Array.getElem?_toList, hc]; rfl
      · rintro i H' ⟨hi, _⟩
        rw [List.length_map] at hi
        exact (by simpa using hi : z.cps.size ≤ i)
    cases ha : z.cps.all (· < 128)
    · exact wpAny_pyIter_wide ha (one_it (tk := s.toks) I _ (cv "str_iterator" (.inr rfl)) ⟨_, Heap.get?_push_size _ rfl, rfl, rfl⟩ q)
    · exact wpAny_pyIter_ascii ha (one_it (tk := s.toks) I _ (cv "str_ascii_iterator" (.inl rfl)) ⟨_, Heap.get?_push_size _ rfl, rfl, rfl⟩ q)
  | ref a =>
    unfold walkOf at e
    dsimp only at e
    cases ha : h[a]? with
    | none => rw [ha] at e; cases e
    | some o =>
      rw [ha] at e
      cases o with
      | lst xs => cases e; exact seqL a xs (.lst xs) (fun H' r => .of r) ha rfl rfl
      | frl xs => cases e; exact seqL a xs (.frl xs) (fun H' r => Frl.sq r) ha rfl rfl
      | tup xs =>
        cases e
        obtain rfl : v = Value.ref (m a) := rv
        have hs : ∀ H', ObR Z m H' (m a) (.tup xs) → SqT X.K H' (m a) (xs.map (tv Z.cl m)) := fun H' r => .of r
        obtain ⟨its, rvs, p, hz⟩ := I.tuple (hs H (RH.ob a _ ha))
        refine wpAny_pyIter_tuple (show s.heap.IsTuple (m a) its.toArray from p) ?_
        refine one_it (tk := s.toks) I _ ((Trn.of (turn_tuple (m a) _) ?_ ?_ ?_)) ⟨_, Heap.get?_push_size _ rfl, rfl, rfl⟩ q
        · rintro i H' ⟨hi, st⟩
          exact ⟨_, tv Z.cl m xs[i], hs H' st, by rw [List.getElem?_map, List.getElem?_eq_getElem hi]; rfl⟩
        · rintro i H' x H2 ⟨hi, st⟩ ⟨e, y⟩
          refine ⟨e, xs[i], List.getElem?_eq_getElem hi, ?_⟩
          have := y _ (hs H' st)
          rw [List.getElem?_map, List.getElem?_eq_getElem hi] at this
          exact (Option.some.inj this).symm
        · rintro i H' ⟨hi, st⟩
          exact ⟨_, hs H' st, by rw [List.length_map]; exact hi⟩
      | _ => cases e
  | _ => cases e
/-- a range is walked -/
theorem iter_rng {m : Plc} {hot : Bool} {H : Hp} {tg : Expr} {pins : List (Addr × Obj)} {σ : L2.St} {s : Shared} {R : It → Hp → Prop} {E : Value → Shared → Prop} {lo hi : Int} {t u v : Tok} {r : Addr} (I : Inv X pins σ H s) (hr : PySem.IsRange s.heap r lo hi 1 t u v) (h1 : rngOk lo = true) (h2 : rngOk hi = true)
    (q : R (JW Z m none (rngL lo hi)) H) : wpAny (model X.prog X.w) X.A (pyIter (.ref r)) (PIEH hot X pins σ tg R) E s := by
  have h1 := of_decide_eq_true h1
  have h2 := of_decide_eq_true h2
  refine wpAny_pyIter_range hr (small_one (by omega) (by omega) (by omega) (by omega)) ?_
  refine one_it (tk := s.toks) I _ ((Trn.range _ lo (hi - lo).toNat hot).imp (J' := JW Z m none (rngL lo hi)) ?_ ?_ ?_) ?_ q
  · rintro i H' ⟨a, _⟩
    unfold rngL at a
    rw [List.length_map, List.length_range] at a
    exact a
  · rintro i H' x H2 ⟨a, _⟩ ⟨e, ex⟩
    refine ⟨e, .int (lo + (i : Nat)), ?_, ex⟩
    unfold rngL at a ⊢
    rw [List.length_map, List.length_range] at a
    rw [List.getElem?_map, List.getElem?_range a]; rfl
  · rintro i H' ⟨a, _⟩
    unfold rngL at a
    rw [List.length_map, List.length_range] at a
    exact a
  · have e2 : (((hi - lo).toNat : Nat) : Int) - ((0 : Nat) : Int) = Builtin.Range.rangeSize lo hi 1 := by rw [rangeSize_one]; split <;> omega
    show IsRangeIter _ _ (lo + ((0 : Nat) : Int)) ((((hi - lo).toNat : Nat) : Int) - ((0 : Nat) : Int)) 1
    rw [e2, show lo + ((0 : Nat) : Int) = lo by omega]
    exact Heap.get?_push_size _ rfl
end
end Mp
set_option Elab.async false
set_option linter.all false
set_option maxRecDepth 100000
set_option maxHeartbeats 4000000
/-! Mp F: the for statement and the list comprehension over such walks. -/
namespace Mp
open PySem PySem.Spec PyProof.Rows L2
theorem forH {hot : Bool} {X : Cx} {tg iter : Expr} {body : List Stmt} {wi : TI} {g : TG} {tb : TS} {pos : Pos} (hp : PassesOwn (model X.prog X.w) X.A X.env X.xe) (hc : Serves hot X) (hi : PIH hot X tg iter wi) (hg : PG X tg g) (hb : PSs X body tb)
    (hs : ∀ x, foldedSetIterable iter X.env x = pure x) : PS X (.For tg iter body [] pos) (tFor wi g tb) := by
  refine ⟨fun pins s σ H D I h => ?_⟩
  refine wpAny_For (thn (hi.run pins s σ H _ I h) fun v s1 h1 => thn h1 fun itv s2 h2 => ?_) hs
  obtain ⟨it, fp, tn, J, H2, e, I2, T, st2, f2, Wi, ⟨m0, w0⟩, turn⟩ := h2
  subst e
  have stat : ∀ {H' : Hp}, (∀ b ∈ fp, H' b = none) → ∀ b ∈ fp, FpOk X pins H' b := fun hn b hb => ⟨hn b hb, (f2 b hb).2⟩
  refine codeAny_forLoop_any (fun n s' => ∃ i σ' H', Inv X pins σ' H' s' ∧ tn i s'.heap ∧ (∀ b ∈ fp, H' b = none) ∧ Wi i n σ' H') ?_ m0 ⟨0, σ, H2, I2, st2, fun b hb => (f2 b hb).1, w0⟩
  rintro n s3 ⟨i, σ3, H3, I3, st3, fr3, w3⟩
  rcases turn i n σ3 H3 w3 with ⟨stop, qn⟩ | ⟨go, N, hN, step⟩
  · refine wpAny_passesOwn hp (thn (T.done X rfl rfl rfl hc i pins s3 σ3 H3 X.xe I3 (stat fr3) st3 stop) fun r s4 ⟨hr, I4⟩ => ?_)
    subst hr
    exact wpAny_execs_nil ⟨σ3, H3, I4, qn⟩
  · refine wpAny_passesOwn hp (thn (T.item X rfl rfl rfl hc i pins s3 σ3 H3 X.xe I3 (stat fr3) st3 go) fun r s4 ⟨u, hr, h4⟩ => ?_)
    subst hr
    refine wpAny_passesOwn hp (thn h4 fun _ s5 ⟨x, H5, I5, r5, y5, st5, fr5⟩ => ?_)
    have I5' := I5.pinned (stat fr5) (T.obj _ _ st5)
    refine wpAny_passesOwn hp (thn (hg.run _ s5 σ3 H5 x u _ I5' r5 (step x H5 y5)) fun _ s6 ⟨σ6, H6, I6, q6⟩ => ?_)
    refine wpAny_passesOwn hp (thn (hb.run _ s6 σ6 H6 _ I6 q6) fun f s7 q7 => ?_)
    have pin : ∀ {σ7 : L2.St} {H7 : Hp}, Inv X (pins ++ pinsAt fp s5.heap) σ7 H7 s7 → ∀ b ∈ fp, ∀ o, s5.heap.get? b = some o → s7.heap.get? b = some o ∧ H7 b = none := fun I7 b hb o e =>
      let z := I7.pin (b, o) (List.mem_append_right _ (List.mem_append_right _ (mem_pinsAt hb e))); ⟨z.1, z.2.1⟩
    have again : ∀ {σ7 : L2.St} {H7 : Hp}, Inv X (pins ++ pinsAt fp s5.heap) σ7 H7 s7 → N σ7 H7 → ∃ m, m < n ∧ ∃ i σ' H', Inv X pins σ' H' s7 ∧ tn i s7.heap ∧ (∀ b ∈ fp, H' b = none) ∧ Wi i m σ' H' := fun {σ7 H7} I7 n7 => by
      obtain ⟨m', hm, w7⟩ := hN σ7 H7 n7
      refine ⟨m', hm, i + 1, σ7, H7, I7.unpinned, T.keep _ _ _ st5 fun b hb o e => (pin I7 b hb o e).1, fun b hb => ?_, w7⟩
      obtain ⟨o, e, d⟩ := T.obj _ _ st5 b hb
      exact (pin I7 b hb o e).2
    cases f with
    | next => obtain ⟨σ7, H7, I7, n7⟩ := q7; exact again I7 n7
    | cont => obtain ⟨σ7, H7, I7, n7⟩ := q7; exact again I7 n7
    | brk => obtain ⟨σ7, H7, I7, q7⟩ := q7; exact ⟨σ7, H7, I7.unpinned, q7⟩
    | ret v => obtain ⟨x7, σ7, H7, I7, r7, q7⟩ := q7; exact ⟨x7, σ7, H7, I7.unpinned, r7, q7⟩
/-- a comprehension's block, the pins kept -/
abbrev blkP (X : Cx) (s : Shared) (H : Hp) (scope : Scope) (ce : PySem.Env) (fp : List Addr) (pn : List (Addr × Obj)) : Cx := (X.blk s H scope ce fp).tr pn fun _ _ => False
theorem Inv.blkP {X : Cx} {pins : List (Addr × Obj)} {σ σ' : L2.St} {H : Hp} {s s0 s1 : Shared} {scope : Scope} {ce : PySem.Env} {fp : List Addr} (I : Inv X pins σ H s) (J : Inv (X.blk s0 H scope ce fp) [] σ' H s1)
    (hs : ∀ b o, s.heap.get? b = some o → s1.heap.get? b = some o) (hL : s.heap.objs.size ≤ ce.locals) : Inv (Mp.blkP X s0 H scope ce fp (X.pn ++ pins)) [] σ' H s1 :=
  ⟨J.ok.toTry _ _, J.os, J.bare, J.base, J.loc, J.cell, J.free, J.freeC, fun p hp => by
    have hp : p ∈ X.pn ++ pins := by rcases List.mem_append.mp hp with z | z; exact z; exact absurd z (List.not_mem_nil)
    obtain ⟨e, n, ne, nf, d⟩ := I.pin p hp
    refine ⟨hs _ _ e, n, Nat.ne_of_lt (Nat.lt_of_lt_of_le (Heap.lt_size e) hL), fun hb => ?_, d⟩
    rcases List.mem_cons.mp (I.stkSub _ hb) with z | z
    · exact ne z
    · exact nf z, J.hok, J.len⟩
theorem lcH_core {hot : Bool} {X : Cx} {pins : List (Addr × Obj)} {s : Shared} {σ : L2.St} {H : Hp} {Q : VK} {elt tg iter : Expr} {ifs : List Expr} {scope : Scope} {own : List (Str × Nat)} {pos pos' : Pos} {wi : TI} {g : TG} {tt : TT} {te : TE} {use : Option (Value → Sem Unit)} {Qf : Value → Shared → Prop}
    (hc : Serves hot X) (hN : X.N.Nodup) (I : Inv X pins σ H s) (hi : PIH hot X tg iter wi) (ok : BlkOk X.N X.env.scope scope own)
    (hg : ∀ (s : Shared) (H : Hp) (C : Addr) (cl : List (Str × Addr)) (fp : List Addr) (pn : List (Addr × Obj)), (∀ p ∈ X.pn, p ∈ pn) → PG (blkP X s H scope (compEnvC scope cl C X.env) fp pn) tg g) (ht : ∀ (s : Shared) (H : Hp) (C : Addr) (cl : List (Str × Addr)) (fp : List Addr) (pn : List (Addr × Obj)), (∀ p ∈ X.pn, p ∈ pn) → PTs (blkP X s H scope (compEnvC scope cl C X.env) fp pn) ifs tt)
    (he : ∀ (s : Shared) (H : Hp) (C : Addr) (cl : List (Str × Addr)) (fp : List Addr) (pn : List (Addr × Obj)), (∀ p ∈ X.pn, p ∈ pn) → PE (blkP X s H scope (compEnvC scope cl C X.env) fp pn) elt te) (hs : ∀ x, foldedSetIterable iter X.env x = pure x)
    (h : tLc wi g tt te (own.map (·.2)) σ H Q)
    (hRR : ∀ D C s' m H', Inv X pins σ H' s' → Q (.ref D) H' → s'.heap.Ns C m → FpOk X pins H' C → compPost (model X.prog X.w) X.A X.xe use Qf (.ref D) C (.ok .next) s') :
    wpAny (model X.prog X.w) X.A (comprehension (.ListComp elt [⟨tg, iter, ifs, 0⟩] scope pos) scope X.env pos' (newList []) false (eval iter X.env) use) Qf X.xe s := by
  have hfree : ∀ y ∈ scope.names, y.2 = .free → ∃ c, X.env.cells.lookup y.1 = some c := fun y hy e => by
    rcases ok.free y hy e with k | k
    · exact I.ok.has _ (.inl k)
    · exact I.ok.has _ (.inr k)
  refine wpAny_comprehension_free (use := use) rfl hs (closure_ok hfree) ok.kind (fun y hy e => by rw [ok.uniq y hy, e]) (thn (hi.run pins s σ H _ I h) fun xv s1 hx => thn hx fun itv s2 h2 => ?_)
  obtain ⟨it, fp, tn, J, H2, e, I2, T, st2, f2, q⟩ := h2
  subst e
  refine wpAny_newObj_type (newEnv_comp ?_) (by show 0 ≤ sizeLine; decide)
  generalize hD : s2.heap.objs.size = D
  have hDn : H2 D = none := I2.hok.fresh (Nat.le_of_eq hD)
  obtain ⟨Wi, ⟨m0, w0⟩, turn⟩ := q D hDn
  generalize hs3 : ({ s2 with heap := s2.heap.push { cls := .type "list", data := .seq ([] : List Value).toArray } } : Shared) = s3
  have I3 : Inv X pins σ (upd H2 D (.lst [])) s3 := by
    rw [← hs3]
    refine I2.laid (t' := s2.toks) (fun b o e => Heap.get?_push_of_some _ e) (Nat.le_of_eq hD) ⟨Nat.zero_le _, [], 0, .nil, ?_⟩
    rw [← hD]
    exact Heap.get?_push_size _ rfl
  have h3 : s3.heap = s2.heap.push { cls := .type "list", data := .seq ([] : List Value).toArray } := by rw [← hs3]
  have sz : ∀ b ∈ fp, b < s2.heap.objs.size := fun b hb => let ⟨o, e, _⟩ := T.obj _ _ st2 b hb; Heap.lt_size e
  have f3 : ∀ b ∈ fp, FpOk X pins (upd H2 D (.lst [])) b ∧ b < s3.heap.objs.size := fun b hb => by
    have hlt := sz b hb
    refine ⟨⟨?_, (f2 b hb).2⟩, by rw [h3, Heap.size_push]; exact Nat.lt_succ_of_lt hlt⟩
    rw [upd_ne (by rw [← hD]; exact Nat.ne_of_lt hlt)]
    exact (f2 b hb).1
  have st3 : tn 0 s3.heap := T.keep _ _ _ st2 fun b _ o e => by rw [h3]; exact Heap.get?_push_of_some _ e
  have sub : ∀ p ∈ X.pn, p ∈ X.pn ++ pins := fun p hp => List.mem_append_left _ hp
  have I4 := block_start I3 ok hN f3
  have I4 := Inv.blkP I3 I4 (fun b o e => pushCells_keeps _ _ _ _ (Heap.get?_push_of_some _ e)) (Nat.le_refl _)
  have pg := hg s3 (upd H2 D (.lst [])) s3.heap.objs.size (cellsFrom (s3.heap.objs.size + 1) scope.names (cloFrom X.env.cells scope.names [])) fp _ sub
  have pt := ht s3 (upd H2 D (.lst [])) s3.heap.objs.size (cellsFrom (s3.heap.objs.size + 1) scope.names (cloFrom X.env.cells scope.names [])) fp _ sub
  have pe := he s3 (upd H2 D (.lst [])) s3.heap.objs.size (cellsFrom (s3.heap.objs.size + 1) scope.names (cloFrom X.env.cells scope.names [])) fp _ sub
  show codeAny _ _ (.compStart (.ListComp elt [⟨tg, iter, ifs, 0⟩] scope pos) 0 (.ref it) (.ref D) (compEnvC scope (cellsFrom (s3.heap.objs.size + 1) scope.names (cloFrom X.env.cells scope.names [])) s3.heap.objs.size X.env)) (compPost (model X.prog X.w) X.A X.xe use Qf (.ref D) s3.heap.objs.size) { s3 with heap := pushCells (s3.heap.push { cls := .type "dict", data := .dict #[] }) scope.names }
  have nfp : ∀ b ∈ fp, (upd H2 D (.lst [])) b = none := fun b hb => (f3 b hb).1.1
  generalize hce : compEnvC scope (cellsFrom (s3.heap.objs.size + 1) scope.names (cloFrom X.env.cells scope.names [])) s3.heap.objs.size X.env = ce at I4 pg pt pe ⊢
  have cL : ce.locals = s3.heap.objs.size := by subst hce; rfl
  generalize hH3 : upd H2 D (.lst []) = H3 at I3 I4 pg pt pe w0 nfp f3
  generalize hs4 : ({ s3 with heap := pushCells (s3.heap.push { cls := .type "dict", data := .dict #[] }) scope.names } : Shared) = s4 at I4 ⊢
  have st4 : tn 0 s4.heap := T.keep _ _ _ st3 fun b _ o e => by rw [← hs4]; exact pushCells_keeps _ _ _ _ (Heap.get?_push_of_some _ e)
  have hcY : Serves hot (blkP X s3 H3 scope ce fp (X.pn ++ pins)) := hc.elim .inl fun ⟨a, p, b, c⟩ => .inr ⟨a, p, b, sub p c⟩
  have stat : ∀ {σ' : L2.St} {H' : Hp} {s' : Shared}, Inv (blkP X s3 H3 scope ce fp (X.pn ++ pins)) [] σ' H' s' → (∀ b ∈ fp, H' b = none) → ∀ b ∈ fp, FpOk (blkP X s3 H3 scope ce fp (X.pn ++ pins)) [] H' b := fun {σ' H' s'} I' hn b hb =>
    ⟨hn b hb, (I'.ok.exf b hb).1, I'.ok.exfs b hb, .inl hb, fun x c e => (I'.ok.exf b hb).2 x c e, fun p hp => (f3 b hb).1.2.2.2.2.2 p (by rcases List.mem_append.mp hp with z | z; exact z; exact absurd z List.not_mem_nil)⟩
  have loop : codeAny (model X.prog X.w) X.A (.compLoop (.ListComp elt [⟨tg, iter, ifs, 0⟩] scope pos) 0 (.ref it) (.ref D) ce) (compPost (model X.prog X.w) X.A X.xe use Qf (.ref D) s3.heap.objs.size) s4 := by
    refine compLoop_any (fun n s' => ∃ i H', Inv (blkP X s3 H3 scope ce fp (X.pn ++ pins)) [] (wipe σ (own.map (·.2))) H' s' ∧ tn i s'.heap ∧ (∀ b ∈ fp, H' b = none) ∧ Wi i n H') ?_ m0 ⟨0, H3, I4, st4, nfp, w0⟩
    rintro n s5 ⟨i, H5, I5, st5, n5, w5⟩
    rcases turn i n H5 w5 with ⟨stop, qq⟩ | ⟨go, Nx, hNx, step⟩
    · have td := T.done (blkP X s3 H3 scope ce fp (X.pn ++ pins)) rfl rfl rfl hcY i [] s5 _ H5 (fun _ _ => False) I5 (stat I5 n5) st5 stop
      refine thnF td fun r s6 ⟨hr, I6⟩ => ?_
      subst hr
      have I7 : Inv X pins σ H5 s6 := I3.call' (ch := fp) I6.os I6.base I6.hok I6.bare fun b hb => ⟨(f3 b hb).1.2.2.2.1, (f3 b hb).1.2.1, (f3 b hb).1.2.2.2.2.1, (f3 b hb).1.2.2.2.2.2⟩
      have nC : H5 s3.heap.objs.size = none := by
        have z : H5 ce.locals = none := I6.free
        rw [cL] at z
        exact z
      obtain ⟨m, hn, _⟩ := I6.loc
      have hn : s6.heap.Ns ce.locals m := hn
      rw [cL] at hn
      exact hRR D s3.heap.objs.size s6 m H5 I7 qq hn (I3.fpOk (Nat.le_refl _) nC)
    · have ti := T.item (blkP X s3 H3 scope ce fp (X.pn ++ pins)) rfl rfl rfl hcY i [] s5 _ H5 (fun _ _ => False) I5 (stat I5 n5) st5 go
      refine thnF ti fun r s6 ⟨u, hr, h6⟩ => ?_
      subst hr
      refine thnF h6 fun _ s7 ⟨x, H7, I7, r7, y7, st7, n7⟩ => ?_
      have I7' := I7.pinned (stat I7 n7) (T.obj _ _ st7)
      refine thnF (pg.run _ s7 _ H7 x u _ I7' r7 (step x H7 y7)) fun _ s8 ⟨σ8, H8, I8, hw8, q8⟩ => ?_
      refine thnF (pt.run _ s8 σ8 H8 _ I8 q8) fun b s9 ⟨H9, I9, q9⟩ => ?_
      have fin : ∀ {s' : Shared} {H' : Hp}, Inv (blkP X s3 H3 scope ce fp (X.pn ++ pins)) ([] ++ pinsAt fp s7.heap) σ8 H' s' → Nx H' → ∃ m, m < n ∧ ∃ i H', Inv (blkP X s3 H3 scope ce fp (X.pn ++ pins)) [] (wipe σ (own.map (·.2))) H' s' ∧ tn i s'.heap ∧ (∀ b ∈ fp, H' b = none) ∧ Wi i m H' := fun {s' H'} I' nx => by
        obtain ⟨m', hm, w'⟩ := hNx H' nx
        have pin' : ∀ b ∈ fp, ∀ o, s7.heap.get? b = some o → s'.heap.get? b = some o ∧ H' b = none := fun b hb o e =>
          let z := I'.pin (b, o) (List.mem_append_right _ (List.mem_append_right _ (mem_pinsAt hb e)))
          ⟨z.1, z.2.1⟩
        have hl : (wipe σ (own.map (·.2))).length = σ8.length := by rw [← hw8, wipe_length]
        refine ⟨m', hm, i + 1, H', (I'.unpinned (pins := [])).weak hl (fun j v e => ?_), T.keep _ _ _ st7 fun b hb o e => (pin' b hb o e).1, fun b hb => ?_, w'⟩
        · rw [← hw8] at e
          exact (wipe_some e).1
        · obtain ⟨o, e, _⟩ := T.obj _ _ st7 b hb
          exact (pin' b hb o e).2
      cases b with
      | false =>
        simp only [Bool.false_eq_true, if_false] at q9 ⊢
        exact fin I9 q9
      | true =>
        simp only [if_true] at q9 ⊢
        refine thnF (pe.run _ s9 σ8 H9 _ I9 q9) fun z s10 ⟨yv, H10, I10, r10, acc, hD10, hz10, nx⟩ => ?_
        exact app_ok (X := blkP X s3 H3 scope ce fp (X.pn ++ pins)) I10 hD10 hz10 r10 fun s11 I11 => fin I11 nx
  exact codeAny_compStart_list loop (T.self X.A 0 _ _ _ st4 loop)
section
variable {hot : Bool} {X : Cx}
theorem lcH {elt tg iter : Expr} {ifs : List Expr} {scope : Scope} {own : List (Str × Nat)} {pos : Pos} {wi : TI} {g : TG} {tt : TT} {te : TE} (hc : Serves hot X) (hN : X.N.Nodup) (hi : PIH hot X tg iter wi) (ok : BlkOk X.N X.env.scope scope own)
    (hg : ∀ (s : Shared) (H : Hp) (C : Addr) (cl : List (Str × Addr)) (fp : List Addr) (pn : List (Addr × Obj)), (∀ p ∈ X.pn, p ∈ pn) → PG (blkP X s H scope (compEnvC scope cl C X.env) fp pn) tg g) (ht : ∀ (s : Shared) (H : Hp) (C : Addr) (cl : List (Str × Addr)) (fp : List Addr) (pn : List (Addr × Obj)), (∀ p ∈ X.pn, p ∈ pn) → PTs (blkP X s H scope (compEnvC scope cl C X.env) fp pn) ifs tt)
    (he : ∀ (s : Shared) (H : Hp) (C : Addr) (cl : List (Str × Addr)) (fp : List Addr) (pn : List (Addr × Obj)), (∀ p ∈ X.pn, p ∈ pn) → PE (blkP X s H scope (compEnvC scope cl C X.env) fp pn) elt te) (hs : ∀ x, foldedSetIterable iter X.env x = pure x) :
    PE X (.ListComp elt [⟨tg, iter, ifs, 0⟩] scope pos) (tLc wi g tt te (own.map (·.2))) := by
  refine ⟨fun pins s σ H Q I h => ?_⟩
  rw [eval_ListComp]
  refine lcH_core hc hN I hi ok hg ht he hs h fun D C s' m H' I' q hn f => ⟨m, hn, fun h'' sb => ?_⟩
  obtain ⟨f0, f1, f2, f3, f4, f5⟩ := f
  exact ⟨.ref D, H', I'.turned (t' := s'.toks) (fun b o hb e => (sb.2 b hb).trans e) f0 f1 f3 f4 f5, rfl, q⟩
/-- y = [..] on one line -/
theorem setLcH {i : Nat} {y : Str} {py : Pos} {elt tg iter : Expr} {ifs : List Expr} {scope : Scope} {own : List (Str × Nat)} {pos spos : Pos} {wi : TI} {g : TG} {tt : TT} {te : TE} (hc : Serves hot X) (hN : X.N.Nodup) (hy : X.N[i]? = some y) (hyl : X.env.scope.names.lookup y = some .local)
    (hsw : swapsWith (.ListComp elt [⟨tg, iter, ifs, 0⟩] scope pos) (some (.Name y py)) spos.line X.env = pure true) (hi : PIH hot X tg iter wi) (ok : BlkOk X.N X.env.scope scope own)
    (hg : ∀ (s : Shared) (H : Hp) (C : Addr) (cl : List (Str × Addr)) (fp : List Addr) (pn : List (Addr × Obj)), (∀ p ∈ X.pn, p ∈ pn) → PG (blkP X s H scope (compEnvC scope cl C X.env) fp pn) tg g) (ht : ∀ (s : Shared) (H : Hp) (C : Addr) (cl : List (Str × Addr)) (fp : List Addr) (pn : List (Addr × Obj)), (∀ p ∈ X.pn, p ∈ pn) → PTs (blkP X s H scope (compEnvC scope cl C X.env) fp pn) ifs tt)
    (he : ∀ (s : Shared) (H : Hp) (C : Addr) (cl : List (Str × Addr)) (fp : List Addr) (pn : List (Addr × Obj)), (∀ p ∈ X.pn, p ∈ pn) → PE (blkP X s H scope (compEnvC scope cl C X.env) fp pn) elt te) (hs : ∀ x, foldedSetIterable iter X.env x = pure x) :
    PS X (.Assign [.Name y py] (.ListComp elt [⟨tg, iter, ifs, 0⟩] scope pos) spos) (tAsg (tLc wi g tt te (own.map (·.2))) (gName i)) := by
  refine ⟨fun pins s σ H D I h => ?_⟩
  rw [exec_Assign_Name_used _ _ _ _ hsw]
  refine wpAny_bind (wpAny_standAt (wpAny_bind ?_))
  show wpAny _ X.A (do let _ ← comprehension (.ListComp elt [⟨tg, iter, ifs, 0⟩] scope pos) scope X.env (firstIterPos [⟨tg, iter, ifs, 0⟩] pos) (newList []) false (eval iter X.env) (some (assign (.Name y py) X.env))) _ _ s
  have h : tLc wi g tt te (own.map (·.2)) σ H (fun x H1 => gName i x σ H1 D.nx) := h
  refine wpAny_bind (thn (lcH_core (Qf := fun _ s' => SP X pins D .next s') hc hN I hi ok hg ht he hs h fun L C s' m H' I' q hn f => ?_) fun _ s' hq => wpAny_pure (wpAny_pure hq))
  show wpAny _ _ (assign (.Name y py) X.env (.ref L)) _ _ _
  refine wpAny_assign_Name (store_ok2 (v := V.ref L) I' hN hy (.inl hyl) rfl (fun s2 I2 ⟨a, sb, ha⟩ => ?_) (.inr hyl))
  obtain ⟨f0, f1, f2, f3, f4, f5⟩ := f
  have haC : C ≠ a := by
    rcases ha with z | z
    · rw [z]; exact f1
    · exact fun e => f4 y a z e.symm
  refine ⟨m, hn.sameBut sb haC, fun h3 sb3 => ?_⟩
  exact ⟨_, H', I2.turned (t' := s2.toks) (fun b o hb e => (sb3.2 b hb).trans e) f0 f1 f3 f4 f5, q⟩
end
end Mp
set_option Elab.async false
set_option linter.all false
set_option maxRecDepth 100000
set_option maxHeartbeats 4000000
/-! Mp G: the readings that the interpreter gives, and that they imply the hand layer's. -/
namespace Mp
open PySem PySem.Spec PyProof.Rows L2
section
variable (Z : St0) (Wx : WX)
def TEv (r : Env → Hq → M W) : TE := fun σ H Q => ∃ m ρ h, σ = envV Z.cl m ρ ∧ wfE h.length ρ ∧ RelH Z m h H ∧ Res Z m h (r ρ h) (qW Z Q) fun c d H' => Wx c d σ H'
def TTv (r : Env → Hq → M Bool) : TT := fun σ H Q => ∃ m ρ h, σ = envV Z.cl m ρ ∧ wfE h.length ρ ∧ RelH Z m h H ∧ Res Z m h (r ρ h) (fun _ H' b _ => Q b H') fun c d H' => Wx c d σ H'
def TAv (r : Env → Hq → M (List W)) : TA := fun σ H Q => ∃ m ρ h, σ = envV Z.cl m ρ ∧ wfE h.length ρ ∧ RelH Z m h H ∧ Res Z m h (r ρ h) (fun m' H' vs h' => (∀ w ∈ vs, wfW h'.length w) → Q (vs.map (tv Z.cl m')) H') fun c d H' => Wx c d σ H'
def TOv (r : Env → Hq → M (Option Int)) : TO := fun σ H Q => ∃ m ρ h, σ = envV Z.cl m ρ ∧ wfE h.length ρ ∧ RelH Z m h H ∧ Res Z m h (r ρ h) (fun _ H' v _ => Q v H') fun c d H' => Wx c d σ H'
/-- what is walked: the items are the walked object's, or plain -/
def wfK (h : Hq) (w : Wk) : Prop := (∀ v ∈ w.2, wfW h.length v) ∧ ∀ a o, w.1 = some (a, o) → h[a]? = some o
def TIv (r : Env → Hq → M Wk) : TI := fun σ H R => ∃ m ρ h, σ = envV Z.cl m ρ ∧ wfE h.length ρ ∧ RelH Z m h H ∧ Res Z m h (r ρ h) (fun m' H' w h' => wfK h' w → R (JW Z m' w.1 w.2) H') fun c d H' => Wx c d σ H'
def RSs (m : Plc) (h : Hq) (r : RS) (D : Ends) : Prop :=
  match r with
  | none => False
  | some (.nx ρ, h') => ∀ m' H', Ext m m' h h' → RelH Z m' h' H' → wfE h'.length ρ → D.nx (envV Z.cl m' ρ) H'
  | some (.brk ρ, h') => ∀ m' H', Ext m m' h h' → RelH Z m' h' H' → wfE h'.length ρ → D.bk (envV Z.cl m' ρ) H'
  | some (.ct ρ, h') => ∀ m' H', Ext m m' h h' → RelH Z m' h' H' → wfE h'.length ρ → D.ct (envV Z.cl m' ρ) H'
  | some (.ret v, h') => ∀ m' H', Ext m m' h h' → RelH Z m' h' H' → wfW h'.length v → D.rt (tv Z.cl m' v) H'
  | some (.exc c w ρ, h') => ∀ m' H' d, Ext m m' h h' → RelH Z m' h' H' → wfW h'.length w → wfE h'.length ρ → H' d = some (.xd [(wht, tv Z.cl m' w)]) → Wx (.ref (Z.cl c)) (some d) (envV Z.cl m' ρ) H'
def TSv (r : Env → Hq → RS) : TS := fun D σ H => ∃ m ρ h, σ = envV Z.cl m ρ ∧ wfE h.length ρ ∧ RelH Z m h H ∧ RSs Z Wx m h (r ρ h) D
end
section
variable {Z : St0} {Wx : WX} {m : Plc} {h : Hq} {D : Ends}
theorem RSs.ext {m1 : Plc} {h1 : Hq} {r : RS} (a : RSs Z Wx m h r D) (e : Ext m m1 h h1) : RSs Z Wx m1 h1 r D := by
  match r, a with
  | some (.nx ρ, h'), a => exact fun m' H' e' => a m' H' (e.trans e')
  | some (.brk ρ, h'), a => exact fun m' H' e' => a m' H' (e.trans e')
  | some (.ct ρ, h'), a => exact fun m' H' e' => a m' H' (e.trans e')
  | some (.ret v, h'), a => exact fun m' H' e' => a m' H' (e.trans e')
  | some (.exc c w ρ, h'), a => exact fun m' H' d e' => a m' H' d (e.trans e')
theorem Res.ext {α : Type} {m1 : Plc} {h1 : Hq} {r : M α} {Q : Ok α} {X : Value → Option Addr → Hp → Prop} (a : Res Z m h r Q X) (e : Ext m m1 h h1) : Res Z m1 h1 r Q X := by
  match r, a with
  | some (.ok v, h'), a => exact fun m' H' e' => a m' H' (e.trans e')
  | some (.exc c w, h'), a => exact fun m' H' d e' => a m' H' d (e.trans e')
theorem RSs.lft {α : Type} {r : M α} {ρ : Env} {f : α → Hq → RS} (w : wfE h.length ρ) (a : RSs Z Wx m h (lft r ρ f) D) : Res Z m h r (fun m' _ v h' => RSs Z Wx m' h' (f v h') D) fun c d H' => Wx c d (envV Z.cl m ρ) H' := by
  match r, a with
  | some (.ok v, h'), a => exact fun m' H' e R => RSs.ext (show RSs Z Wx m h (f v h') D from a) e
  | some (.exc c x, h'), a =>
    intro m' H' d e R wx hd
    have q := a m' H' d e R wx (w.mono e.le) hd
    rw [e.env w] at q
    exact q
theorem RSs.sq {r : RS} {f : Env → Hq → RS} (a : RSs Z Wx m h (sq r f) D) : RSs Z Wx m h r { D with nx := TSv Z Wx f D } := by
  match r, a with
  | some (.nx ρ, h'), a => exact fun m' H' e R w => ⟨m', ρ, h', rfl, w, R, RSs.ext (show RSs Z Wx m h (f ρ h') D from a) e⟩
  | some (.brk ρ, h'), a => exact a
  | some (.ct ρ, h'), a => exact a
  | some (.ret v, h'), a => exact a
  | some (.exc c w ρ, h'), a => exact a
/-- an expression's part, then what follows -/
theorem TEv.bnd {α : Type} {r : Env → Hq → M W} {f : W → Env → Hq → M α} {m : Plc} {ρ : Env} {h : Hq} {H : Hp} {Q : Ok α} {Q' : VK} (wρ : wfE h.length ρ) (R : RelH Z m h H)
    (a : Res Z m h (Mp.bnd (r ρ h) fun v h => f v ρ h) Q fun c d H' => Wx c d (envV Z.cl m ρ) H')
    (k : ∀ m' H' v h', Ext m m' h h' → RelH Z m' h' H' → wfW h'.length v → wfE h'.length ρ → envV Z.cl m' ρ = envV Z.cl m ρ → Res Z m' h' (f v ρ h') Q (fun c d H' => Wx c d (envV Z.cl m' ρ) H') → Q' (tv Z.cl m' v) H') : TEv Z Wx r (envV Z.cl m ρ) H Q' :=
  ⟨m, ρ, h, rfl, wρ, R, a.bnd.mono fun m' H' v h' e R' q wv => k m' H' v h' e R' wv (wρ.mono e.le) (e.env wρ) (by rw [e.env wρ]; exact q)⟩
theorem TAv.bnd {α : Type} {r : Env → Hq → M (List W)} {f : List W → Env → Hq → M α} {m : Plc} {ρ : Env} {h : Hq} {H : Hp} {Q : Ok α} {Q' : List V → Hp → Prop} (wρ : wfE h.length ρ) (R : RelH Z m h H)
    (a : Res Z m h (Mp.bnd (r ρ h) fun v h => f v ρ h) Q fun c d H' => Wx c d (envV Z.cl m ρ) H')
    (k : ∀ m' H' v h', Ext m m' h h' → RelH Z m' h' H' → (∀ w ∈ v, wfW h'.length w) → wfE h'.length ρ → envV Z.cl m' ρ = envV Z.cl m ρ → Res Z m' h' (f v ρ h') Q (fun c d H' => Wx c d (envV Z.cl m' ρ) H') → Q' (v.map (tv Z.cl m')) H') : TAv Z Wx r (envV Z.cl m ρ) H Q' :=
  ⟨m, ρ, h, rfl, wρ, R, a.bnd.mono fun m' H' v h' e R' q wv => k m' H' v h' e R' wv (wρ.mono e.le) (e.env wρ) (by rw [e.env wρ]; exact q)⟩
theorem TTv.bnd {α : Type} {r : Env → Hq → M Bool} {f : Bool → Env → Hq → M α} {m : Plc} {ρ : Env} {h : Hq} {H : Hp} {Q : Ok α} {Q' : Bool → Hp → Prop} (wρ : wfE h.length ρ) (R : RelH Z m h H)
    (a : Res Z m h (Mp.bnd (r ρ h) fun v h => f v ρ h) Q fun c d H' => Wx c d (envV Z.cl m ρ) H')
    (k : ∀ m' H' v h', Ext m m' h h' → RelH Z m' h' H' → wfE h'.length ρ → envV Z.cl m' ρ = envV Z.cl m ρ → Res Z m' h' (f v ρ h') Q (fun c d H' => Wx c d (envV Z.cl m' ρ) H') → Q' v H') : TTv Z Wx r (envV Z.cl m ρ) H Q' :=
  ⟨m, ρ, h, rfl, wρ, R, a.bnd.mono fun m' H' v h' e R' q => k m' H' v h' e R' (wρ.mono e.le) (e.env wρ) (by rw [e.env wρ]; exact q)⟩
theorem TOv.bnd {α : Type} {r : Env → Hq → M (Option Int)} {f : Option Int → Env → Hq → M α} {m : Plc} {ρ : Env} {h : Hq} {H : Hp} {Q : Ok α} {Q' : Option Int → Hp → Prop} (wρ : wfE h.length ρ) (R : RelH Z m h H)
    (a : Res Z m h (Mp.bnd (r ρ h) fun v h => f v ρ h) Q fun c d H' => Wx c d (envV Z.cl m ρ) H')
    (k : ∀ m' H' v h', Ext m m' h h' → RelH Z m' h' H' → wfE h'.length ρ → envV Z.cl m' ρ = envV Z.cl m ρ → Res Z m' h' (f v ρ h') Q (fun c d H' => Wx c d (envV Z.cl m' ρ) H') → Q' v H') : TOv Z Wx r (envV Z.cl m ρ) H Q' :=
  ⟨m, ρ, h, rfl, wρ, R, a.bnd.mono fun m' H' v h' e R' q => k m' H' v h' e R' (wρ.mono e.le) (e.env wρ) (by rw [e.env wρ]; exact q)⟩
theorem TIv.bnd {α : Type} {r : Env → Hq → M Wk} {f : Wk → Env → Hq → M α} {m : Plc} {ρ : Env} {h : Hq} {H : Hp} {Q : Ok α} {Q' : It → Hp → Prop} (wρ : wfE h.length ρ) (R : RelH Z m h H)
    (a : Res Z m h (Mp.bnd (r ρ h) fun v h => f v ρ h) Q fun c d H' => Wx c d (envV Z.cl m ρ) H')
    (k : ∀ m' H' v h', Ext m m' h h' → RelH Z m' h' H' → wfK h' v → wfE h'.length ρ → envV Z.cl m' ρ = envV Z.cl m ρ → Res Z m' h' (f v ρ h') Q (fun c d H' => Wx c d (envV Z.cl m' ρ) H') → Q' (JW Z m' v.1 v.2) H') : TIv Z Wx r (envV Z.cl m ρ) H Q' :=
  ⟨m, ρ, h, rfl, wρ, R, a.bnd.mono fun m' H' v h' e R' q wv => k m' H' v h' e R' wv (wρ.mono e.le) (e.env wρ) (by rw [e.env wρ]; exact q)⟩
/-- a last bare end -/
theorem Res.id {α : Type} {r : M α} {Q : Ok α} {X : Value → Option Addr → Hp → Prop} (a : Res Z m h r Q X) : Res Z m h (Mp.bnd r fun v h => ret v h) Q X := by
  match r, a with
  | some (.ok v, h'), a => exact a
  | some (.exc c w, h'), a => exact a
end
/-! ### expressions -/
section
variable {Z : St0} {Wx : WX} {Γ : Gam} {k : Calls} {σ : L2.St} {H : Hp}
theorem w_var {i : Nat} {Q : VK} (a : TEv Z Wx (evE Γ k (.var i)) σ H Q) : tVar i σ H Q := by
  obtain ⟨m, ρ, h, rfl, wρ, R, a⟩ := a
  unfold evE at a
  split at a
  · rename_i v hv
    exact ⟨_, envV_get hv, a.of_ret R (wρ.get hv)⟩
  · exact a.none'
theorem w_cst {w : W} {v : V} (hv : ∀ m, tv Z.cl m w = v) (hw : ∀ n, wfW n w) {Q : VK} (a : TEv Z Wx (evE Γ k (.cst w)) σ H Q) : tC v σ H Q := by
  obtain ⟨m, ρ, h, rfl, wρ, R, a⟩ := a
  have q := a.of_ret R (hw _)
  rw [hv] at q
  exact q
theorem w_glob {g : Nat} {w : W} {v : V} (hg : Γ.glob g = some w) (hv : ∀ m, tv Z.cl m w = v) (hw : ∀ n, wfW n w) {Q : VK} (a : TEv Z Wx (evE Γ k (.glob g)) σ H Q) : tC v σ H Q := by
  obtain ⟨m, ρ, h, rfl, wρ, R, a⟩ := a
  unfold evE at a
  rw [hg] at a
  have q := a.of_ret R (hw _)
  rw [hv] at q
  exact q
theorem w_ty {n : String} {Q : VK} (a : TEv Z Wx (evE Γ k (.ty n)) σ H Q) : tC (.ty n) σ H Q := by
  obtain ⟨m, ρ, h, rfl, wρ, R, a⟩ := a
  exact a.of_ret R trivial
theorem w_cls {c : Nat} {Q : VK} (a : TEv Z Wx (evE Γ k (.cls c)) σ H Q) : tC (.ref (Z.cl c)) σ H Q := by
  obtain ⟨m, ρ, h, rfl, wρ, R, a⟩ := a
  exact a.of_ret R trivial
theorem w_bin {o : BOp} {a b : E} {Q : VK} (t : TEv Z Wx (evE Γ k (.bin o a b)) σ H Q) : tOp (rBin Z.K o) (TEv Z Wx (evE Γ k a)) (TEv Z Wx (evE Γ k b)) σ H Q := by
  obtain ⟨m, ρ, h, rfl, wρ, R, t⟩ := t
  unfold evE at t
  refine TEv.bnd (f := fun x ρ h => bnd (evE Γ k b ρ h) fun y h => binV o x y h) wρ R t fun m1 H1 x h1 e1 R1 wx w1 ee t1 => ?_
  rw [← ee]
  refine TEv.bnd (f := fun y _ h => binV o x y h) w1 R1 t1 fun m2 H2 y h2 e2 R2 wy w2 ee2 t2 => ?_
  rw [← e2.tv wx]
  exact op2Bin o m2 h2 H2 x y Q _ R2 (wx.mono e2.le) wy t2
theorem w_neg {a : E} {Q : VK} (t : TEv Z Wx (evE Γ k (.neg a)) σ H Q) : tUn (rU fun i => .int (-i)) (TEv Z Wx (evE Γ k a)) σ H Q := by
  obtain ⟨m, ρ, h, rfl, wρ, R, t⟩ := t
  unfold evE at t
  refine TEv.bnd (f := fun (x : W) ρ h => (match x with | .int i => ret (.int (-i)) h | _ => (none : M W))) wρ R t fun m1 H1 x h1 e1 R1 wx w1 ee t1 => ?_
  cases x with
  | int i => exact ⟨i, rfl, t1.of_ret R1 trivial⟩
  | _ => exact t1.none'
theorem optB_ok {m : Plc} {h : Hq} {H : Hp} {o : Option Bool} {Q : VK} {X : Value → Option Addr → Hp → Prop} (t : Res Z m h (optB o h) (qW Z Q) X) (R : RelH Z m h H) : ∃ b, o = some b ∧ Q (.bl b) H := by
  cases o with
  | none => exact t.none'
  | some b => exact ⟨b, rfl, t.of_ret R trivial⟩
theorem optT_ok {α : Type} {m : Plc} {h : Hq} {H : Hp} {o : Option Bool} {Q : Ok Bool} {X : Value → Option Addr → Hp → Prop} (t : Res Z m h (optT o h) Q X) (R : RelH Z m h H) : ∃ b, o = some b ∧ Q m H b h := by
  cases o with
  | none => exact t.none'
  | some b => exact ⟨b, rfl, t.of_ret R⟩
theorem w_cmp {o : COp} {a b : E} {Q : VK} (t : TEv Z Wx (evE Γ k (.cmp o a b)) σ H Q) : tOp (rCmp Z.K o) (TEv Z Wx (evE Γ k a)) (TEv Z Wx (evE Γ k b)) σ H Q := by
  obtain ⟨m, ρ, h, rfl, wρ, R, t⟩ := t
  unfold evE at t
  refine TEv.bnd (f := fun x ρ h => bnd (evE Γ k b ρ h) fun y h => optB (cmpV o x y h) h) wρ R t fun m1 H1 x h1 e1 R1 wx w1 ee t1 => ?_
  rw [← ee]
  refine TEv.bnd (f := fun y _ h => optB (cmpV o x y h) h) w1 R1 t1 fun m2 H2 y h2 e2 R2 wy w2 ee2 t2 => ?_
  rw [← e2.tv wx]
  obtain ⟨b, eb, q⟩ := optB_ok t2 R2
  exact cmp2 o m2 h2 H2 x y b Q R2 eb q
theorem w_cmpT {o : COp} {a b : E} {Q : Bool → Hp → Prop} (t : TTv Z Wx (evT Γ k (.cmp o a b)) σ H Q) : tTest (tOp (rCmp Z.K o) (TEv Z Wx (evE Γ k a)) (TEv Z Wx (evE Γ k b))) σ H Q := by
  obtain ⟨m, ρ, h, rfl, wρ, R, t⟩ := t
  unfold evT at t
  refine TEv.bnd (f := fun x ρ h => bnd (evE Γ k b ρ h) fun y h => optT (cmpV o x y h) h) wρ R t fun m1 H1 x h1 e1 R1 wx w1 ee t1 => ?_
  rw [← ee]
  refine TEv.bnd (f := fun y _ h => optT (cmpV o x y h) h) w1 R1 t1 fun m2 H2 y h2 e2 R2 wy w2 ee2 t2 => ?_
  rw [← e2.tv wx]
  obtain ⟨b, eb, q⟩ := optT_ok (α := Bool) t2 R2
  exact cmp2 o m2 h2 H2 x y b _ R2 eb ⟨b, rfl, q⟩
theorem isN_tv {m : Plc} {x : W} : decide (tv Z.cl m x = .non) = decide (x = W.non) := by cases x <;> simp [tv]
def rIsN (s : Bool) : R2 := fun x y H Q => y = .non ∧ Q (.bl (s == decide (x = .non))) H
theorem w_isN {s : Bool} {a : E} {Q : VK} (t : TEv Z Wx (evE Γ k (.isN s a)) σ H Q) : tOp (rIsN s) (TEv Z Wx (evE Γ k a)) (tC .non) σ H Q := by
  obtain ⟨m, ρ, h, rfl, wρ, R, t⟩ := t
  unfold evE at t
  refine TEv.bnd (f := fun (x : W) ρ h => (ret (.bl (s == decide (x = .non))) h : M W)) wρ R t fun m1 H1 x h1 e1 R1 wx w1 ee t1 => ?_
  exact ⟨rfl, by rw [isN_tv]; exact t1.of_ret R1 trivial⟩
theorem w_isNT {s : Bool} {a : E} {Q : Bool → Hp → Prop} (t : TTv Z Wx (evT Γ k (.isN s a)) σ H Q) : tTest (tOp (rIsN s) (TEv Z Wx (evE Γ k a)) (tC .non)) σ H Q := by
  obtain ⟨m, ρ, h, rfl, wρ, R, t⟩ := t
  unfold evT at t
  refine TEv.bnd (f := fun (x : W) ρ h => (ret (s == decide (x = .non)) h : M Bool)) wρ R t fun m1 H1 x h1 e1 R1 wx w1 ee t1 => ?_
  exact ⟨rfl, _, rfl, by rw [isN_tv]; exact t1.of_ret R1⟩
theorem w_chn {o p : COp} {a b c : E} {Q : VK} (t : TEv Z Wx (evE Γ k (.chn o p a b c)) σ H Q) : tChain (rCmp Z.K o) (rCmp Z.K p) (TEv Z Wx (evE Γ k a)) (TEv Z Wx (evE Γ k b)) (TEv Z Wx (evE Γ k c)) σ H Q := by
  obtain ⟨m, ρ, h, rfl, wρ, R, t⟩ := t
  unfold evE at t
  refine TEv.bnd (f := fun x ρ h => bnd (evE Γ k b ρ h) fun y h => bnd (optT (cmpV o x y h) h) fun t h => if t = true then bnd (evE Γ k c ρ h) fun z h => optB (cmpV p y z h) h else ret (.bl false) h) wρ R t fun m1 H1 x h1 e1 R1 wx w1 ee t1 => ?_
  rw [← ee]
  refine TEv.bnd (f := fun y ρ h => bnd (optT (cmpV o x y h) h) fun t h => if t = true then bnd (evE Γ k c ρ h) fun z h => optB (cmpV p y z h) h else ret (.bl false) h) w1 R1 t1 fun m2 H2 y h2 e2 R2 wy w2 ee2 t2 => ?_
  rw [← e2.tv wx]
  obtain ⟨d, ed, q⟩ := optT_ok (α := Bool) t2.bnd R2
  refine cmp2 o m2 h2 H2 x y d _ R2 ed ⟨d, rfl, ?_⟩
  cases d with
  | false =>
    rw [if_neg Bool.false_ne_true] at q ⊢
    exact q.of_ret R2 trivial
  | true =>
    rw [if_pos rfl] at q ⊢
    rw [← ee2]
    refine TEv.bnd (f := fun z _ h => optB (cmpV p y z h) h) w2 R2 q fun m3 H3 z h3 e3 R3 wz w3 ee3 t3 => ?_
    rw [← e3.tv wy]
    obtain ⟨b, eb, q⟩ := optB_ok t3 R3
    exact cmp2 p m3 h3 H3 y z b Q R3 eb q
theorem w_chnT {o p : COp} {a b c : E} {Q : Bool → Hp → Prop} (t : TTv Z Wx (evT Γ k (.chn o p a b c)) σ H Q) : tTest (tChain (rCmp Z.K o) (rCmp Z.K p) (TEv Z Wx (evE Γ k a)) (TEv Z Wx (evE Γ k b)) (TEv Z Wx (evE Γ k c))) σ H Q := by
  obtain ⟨m, ρ, h, rfl, wρ, R, t⟩ := t
  unfold evT at t
  refine TEv.bnd (f := fun x ρ h => bnd (evE Γ k b ρ h) fun y h => bnd (optT (cmpV o x y h) h) fun t h => if t = true then bnd (evE Γ k c ρ h) fun z h => optT (cmpV p y z h) h else ret false h) wρ R t fun m1 H1 x h1 e1 R1 wx w1 ee t1 => ?_
  rw [← ee]
  refine TEv.bnd (f := fun y ρ h => bnd (optT (cmpV o x y h) h) fun t h => if t = true then bnd (evE Γ k c ρ h) fun z h => optT (cmpV p y z h) h else ret false h) w1 R1 t1 fun m2 H2 y h2 e2 R2 wy w2 ee2 t2 => ?_
  rw [← e2.tv wx]
  obtain ⟨d, ed, q⟩ := optT_ok (α := Bool) t2.bnd R2
  refine cmp2 o m2 h2 H2 x y d _ R2 ed ⟨d, rfl, ?_⟩
  cases d with
  | false =>
    rw [if_neg Bool.false_ne_true] at q ⊢
    exact ⟨false, rfl, q.of_ret R2⟩
  | true =>
    rw [if_pos rfl] at q ⊢
    rw [← ee2]
    refine TEv.bnd (f := fun z _ h => optT (cmpV p y z h) h) w2 R2 q fun m3 H3 z h3 e3 R3 wz w3 ee3 t3 => ?_
    rw [← e3.tv wy]
    obtain ⟨b, eb, q⟩ := optT_ok (α := Bool) t3 R3
    exact cmp2 p m3 h3 H3 y z b _ R3 eb ⟨b, rfl, q⟩
theorem w_not {a : E} {Q : VK} (t : TEv Z Wx (evE Γ k (.not a)) σ H Q) : tNotV (TEv Z Wx (evE Γ k a)) σ H Q := by
  obtain ⟨m, ρ, h, rfl, wρ, R, t⟩ := t
  unfold evE at t
  refine TEv.bnd (f := fun (x : W) ρ h => (match x with | .bl b => ret (.bl (!b)) h | _ => (none : M W))) wρ R t fun m1 H1 x h1 e1 R1 wx w1 ee t1 => ?_
  cases x with
  | bl b => exact ⟨b, rfl, t1.of_ret R1 trivial⟩
  | _ => exact t1.none'
theorem w_notT {a : E} {Q : Bool → Hp → Prop} (t : TTv Z Wx (evT Γ k (.not a)) σ H Q) : tNot (TTv Z Wx (evT Γ k a)) σ H Q := by
  obtain ⟨m, ρ, h, rfl, wρ, R, t⟩ := t
  unfold evT at t
  exact TTv.bnd (f := fun b _ h => ret (!b) h) wρ R t fun m1 H1 b h1 e1 R1 w1 ee t1 => t1.of_ret R1
theorem w_and {a b : E} {Q : VK} (t : TEv Z Wx (evE Γ k (.and a b)) σ H Q) : tAndV (TEv Z Wx (evE Γ k a)) (TEv Z Wx (evE Γ k b)) σ H Q := by
  obtain ⟨m, ρ, h, rfl, wρ, R, t⟩ := t
  unfold evE at t
  refine TEv.bnd (f := fun x ρ h => (match x with | .bl true => evE Γ k b ρ h | .bl false => ret (.bl false) h | _ => none)) wρ R t fun m1 H1 x h1 e1 R1 wx w1 ee t1 => ?_
  cases x with
  | bl c => cases c with
    | true => exact ⟨true, rfl, by rw [if_pos rfl]; exact ⟨m1, ρ, h1, ee.symm, w1, R1, by rw [← ee]; exact t1⟩⟩
    | false => exact ⟨false, rfl, by rw [if_neg Bool.false_ne_true]; exact t1.of_ret R1 trivial⟩
  | _ => exact t1.none'
theorem w_or {a b : E} {Q : VK} (t : TEv Z Wx (evE Γ k (.or a b)) σ H Q) : tOrV (TEv Z Wx (evE Γ k a)) (TEv Z Wx (evE Γ k b)) σ H Q := by
  obtain ⟨m, ρ, h, rfl, wρ, R, t⟩ := t
  unfold evE at t
  refine TEv.bnd (f := fun x ρ h => (match x with | .bl true => ret (.bl true) h | .bl false => evE Γ k b ρ h | _ => none)) wρ R t fun m1 H1 x h1 e1 R1 wx w1 ee t1 => ?_
  cases x with
  | bl c => cases c with
    | false => exact ⟨false, rfl, by rw [if_neg Bool.false_ne_true]; exact ⟨m1, ρ, h1, ee.symm, w1, R1, by rw [← ee]; exact t1⟩⟩
    | true => exact ⟨true, rfl, by rw [if_pos rfl]; exact t1.of_ret R1 trivial⟩
  | _ => exact t1.none'
theorem w_andT {a b : E} {Q : Bool → Hp → Prop} (t : TTv Z Wx (evT Γ k (.and a b)) σ H Q) : tAnd (TTv Z Wx (evT Γ k a)) (TTv Z Wx (evT Γ k b)) σ H Q := by
  obtain ⟨m, ρ, h, rfl, wρ, R, t⟩ := t
  unfold evT at t
  refine TTv.bnd (f := fun t ρ h => if t = true then evT Γ k b ρ h else ret false h) wρ R t fun m1 H1 x h1 e1 R1 w1 ee t1 => ?_
  cases x with
  | true => rw [if_pos rfl] at t1 ⊢; exact ⟨m1, ρ, h1, ee.symm, w1, R1, by rw [← ee]; exact t1⟩
  | false => rw [if_neg Bool.false_ne_true] at t1 ⊢; exact t1.of_ret R1
theorem w_orT {a b : E} {Q : Bool → Hp → Prop} (t : TTv Z Wx (evT Γ k (.or a b)) σ H Q) : tOr (TTv Z Wx (evT Γ k a)) (TTv Z Wx (evT Γ k b)) σ H Q := by
  obtain ⟨m, ρ, h, rfl, wρ, R, t⟩ := t
  unfold evT at t
  refine TTv.bnd (f := fun t ρ h => if t = true then ret true h else evT Γ k b ρ h) wρ R t fun m1 H1 x h1 e1 R1 w1 ee t1 => ?_
  cases x with
  | false => rw [if_neg Bool.false_ne_true] at t1 ⊢; exact ⟨m1, ρ, h1, ee.symm, w1, R1, by rw [← ee]; exact t1⟩
  | true => rw [if_pos rfl] at t1 ⊢; exact t1.of_ret R1
theorem w_ite {c a b : E} {Q : VK} (t : TEv Z Wx (evE Γ k (.ite c a b)) σ H Q) : tIf (TTv Z Wx (evT Γ k c)) (TEv Z Wx (evE Γ k a)) (TEv Z Wx (evE Γ k b)) σ H Q := by
  obtain ⟨m, ρ, h, rfl, wρ, R, t⟩ := t
  unfold evE at t
  refine TTv.bnd (f := fun t ρ h => if t = true then evE Γ k a ρ h else evE Γ k b ρ h) wρ R t fun m1 H1 x h1 e1 R1 w1 ee t1 => ?_
  cases x with
  | true => rw [if_pos rfl] at t1 ⊢; exact ⟨m1, ρ, h1, ee.symm, w1, R1, by rw [← ee]; exact t1⟩
  | false => rw [if_neg Bool.false_ne_true] at t1 ⊢; exact ⟨m1, ρ, h1, ee.symm, w1, R1, by rw [← ee]; exact t1⟩
/-- a call's promise: what the interpreter gives -/
def spE (Z : St0) (k : Calls) (ar : Nat) (f : Nat) : Sp := fun vs H Q E => ∃ m h us, vs = us.map (tv Z.cl m) ∧ us.length = ar ∧ (∀ w ∈ us, wfW h.length w) ∧ RelH Z m h H ∧ Res Z m h (k f us h) (qW Z Q) E
theorem w_call {f ar : Nat} {es : Es} {Q : VK} (hk : ∀ us h, us.length ≠ ar → k f us h = none) (t : TEv Z Wx (evE Γ k (.call f es)) σ H Q) : tCallS (spE Z k ar f) (WE Wx) (TAv Z Wx (evEs Γ k es)) σ H Q := by
  obtain ⟨m, ρ, h, rfl, wρ, R, t⟩ := t
  unfold evE at t
  refine TAv.bnd (f := fun vs _ h => k f vs h) wρ R t fun m1 H1 vs h1 e1 R1 wv w1 ee t1 => ?_
  refine ⟨m1, h1, vs, rfl, ?_, wv, R1, by rw [← ee]; exact t1⟩
  by_cases hl : vs.length = ar
  · exact hl
  · rw [hk vs h1 hl] at t1; exact t1.none'
theorem w_fn (F : ClsF Γ Z) {b : Fn} {es : Es} {Q : VK} (t : TEv Z Wx (evE Γ k (.fn b es)) σ H Q) : tCB (rFn2 Z b) (TAv Z Wx (evEs Γ k es)) σ H Q := by
  obtain ⟨m, ρ, h, rfl, wρ, R, t⟩ := t
  unfold evE at t
  exact TAv.bnd (f := fun vs _ h => fnV Γ b vs h) wρ R t fun m1 H1 vs h1 e1 R1 wv w1 ee t1 => fn_ok F b R1 wv t1
theorem w_mth {mt : Mt} {o : E} {es : Es} {Q : VK} (t : TEv Z Wx (evE Γ k (.mth mt o es)) σ H Q) : tBM Z.K (mTy mt) (rMt Z.K mt) (TEv Z Wx (evE Γ k o)) (TAv Z Wx (evEs Γ k es)) σ H Q := by
  obtain ⟨m, ρ, h, rfl, wρ, R, t⟩ := t
  unfold evE at t
  refine TEv.bnd (f := fun x ρ h => if mthPre mt x h = true then bnd (evEs Γ k es ρ h) fun vs h => mthV mt x vs h else none) wρ R t fun m1 H1 x h1 e1 R1 wx w1 ee t1 => ?_
  split at t1
  · rename_i hp
    refine ⟨mthPre_ok R1 hp, ?_⟩
    rw [← ee]
    refine TAv.bnd (f := fun vs _ h => mthV mt x vs h) w1 R1 t1 fun m2 H2 vs h2 e2 R2 wv w2 ee2 t2 => ?_
    rw [← e2.tv wx]
    exact mth_ok R2 (wx.mono e2.le) wv t2
  · exact t1.none'
theorem w_mth0 {mt : Mt} {o : E} {Q : VK} (t : TEv Z Wx (evE Γ k (.mth mt o .nil)) σ H Q) : tBM0 Z.K (mTy mt) (rMt Z.K mt) (TEv Z Wx (evE Γ k o)) σ H Q := by
  obtain ⟨m, ρ, h, rfl, wρ, R, t⟩ := t
  unfold evE at t
  refine TEv.bnd (f := fun x ρ h => if mthPre mt x h = true then bnd (evEs Γ k .nil ρ h) fun vs h => mthV mt x vs h else none) wρ R t fun m1 H1 x h1 e1 R1 wx w1 ee t1 => ?_
  split at t1
  · rename_i hp
    refine ⟨mthPre_ok R1 hp, ?_⟩
    unfold evEs at t1
    exact mth_ok (vs := []) R1 wx (fun _ z => nomatch z) t1
  · exact t1.none'
theorem w_ix {a i : E} {Q : VK} (t : TEv Z Wx (evE Γ k (.ix a i)) σ H Q) : tOp (rIx Z.K) (TEv Z Wx (evE Γ k a)) (TEv Z Wx (evE Γ k i)) σ H Q := by
  obtain ⟨m, ρ, h, rfl, wρ, R, t⟩ := t
  unfold evE at t
  refine TEv.bnd (f := fun x ρ h => bnd (evE Γ k i ρ h) fun y h => ixV x y h) wρ R t fun m1 H1 x h1 e1 R1 wx w1 ee t1 => ?_
  rw [← ee]
  refine TEv.bnd (f := fun y _ h => ixV x y h) w1 R1 t1 fun m2 H2 y h2 e2 R2 wy w2 ee2 t2 => ?_
  rw [← e2.tv wx]
  exact op2_ix m2 h2 H2 x y Q _ R2 (wx.mono e2.le) wy t2
theorem w_lrg {a : E} {Q : VK} (t : TEv Z Wx (evE Γ k (.lrg a)) σ H Q) : tLstRg (tRg1 (TEv Z Wx (evE Γ k a))) σ H Q := by
  obtain ⟨m, ρ, h, rfl, wρ, R, t⟩ := t
  unfold evE at t
  refine TEv.bnd (f := fun x ρ h => lrgV (.int 0) x h) wρ R t fun m1 H1 x h1 e1 R1 wx w1 ee t1 => ?_
  cases x with
  | int j =>
    unfold lrgV at t1
    dsimp only at t1
    split at t1
    · rename_i hc
      have hc := Bool.and_eq_true_iff.mp hc
      have h2 := of_decide_eq_true (Bool.and_eq_true_iff.mp hc.1).2
      have h3 := of_decide_eq_true hc.2
      refine ⟨j, rfl, ⟨by omega, by omega, by omega, by omega, by omega⟩, ?_⟩
      have q := allocL t1 R1 (fun w hw => by
        obtain ⟨i, _, rfl⟩ := List.mem_map.mp hw
        trivial)
      have e : (rngL 0 j).map (tv Z.cl m1) = rgV 0 j := by unfold rngL rgV; rw [List.map_map]; rfl
      rw [e] at q
      exact q
    · exact t1.none'
  | _ => exact t1.none'
theorem w_cut {a : E} {lo hi : Op} {Q : VK} (t : TEv Z Wx (evE Γ k (.cut a lo hi)) σ H Q) : tSl (rSl2 Z.K) (TEv Z Wx (evE Γ k a)) (TOv Z Wx (evO Γ k lo)) (TOv Z Wx (evO Γ k hi)) σ H Q := by
  obtain ⟨m, ρ, h, rfl, wρ, R, t⟩ := t
  unfold evE at t
  refine TEv.bnd (f := fun x ρ h => bnd (evO Γ k lo ρ h) fun l h => bnd (evO Γ k hi ρ h) fun u h => cutW x l u h) wρ R t fun m1 H1 x h1 e1 R1 wx w1 ee t1 => ?_
  rw [← ee]
  refine TOv.bnd (f := fun l ρ h => bnd (evO Γ k hi ρ h) fun u h => cutW x l u h) w1 R1 t1 fun m2 H2 l h2 e2 R2 w2 ee2 t2 => ?_
  rw [← ee2]
  refine TOv.bnd (f := fun u _ h => cutW x l u h) w2 R2 t2 fun m3 H3 u h3 e3 R3 w3 ee3 t3 => ?_
  rw [← (e2.trans e3).tv wx]
  exact cut_ok R3 t3
theorem w_tup {es : Es} {Q : VK} (t : TEv Z Wx (evE Γ k (.tup es)) σ H Q) : tTup (TAv Z Wx (evEs Γ k es)) σ H Q := by
  obtain ⟨m, ρ, h, rfl, wρ, R, t⟩ := t
  unfold evE at t
  refine TAv.bnd (f := fun vs _ h => if vs.length ≤ line then alloc (.tup vs) h else none) wρ R t fun m1 H1 vs h1 e1 R1 wv w1 ee t1 => ?_
  split at t1
  · rename_i hz
    exact ⟨by rw [List.length_map, ← line_eq]; exact hz, allocT t1 R1 wv⟩
  · exact t1.none'
theorem w_lst {es : Es} {Q : VK} (t : TEv Z Wx (evE Γ k (.lst es)) σ H Q) : tLst (TAv Z Wx (evEs Γ k es)) σ H Q := by
  obtain ⟨m, ρ, h, rfl, wρ, R, t⟩ := t
  unfold evE at t
  refine TAv.bnd (f := fun vs _ h => if vs.length ≤ line then alloc (.lst vs) h else none) wρ R t fun m1 H1 vs h1 e1 R1 wv w1 ee t1 => ?_
  split at t1
  · rename_i hz
    exact ⟨by rw [List.length_map, ← line_eq]; exact hz, allocL t1 R1 wv⟩
  · exact t1.none'
/-- truth of a value, for tests -/
theorem w_tru {r : Env → Hq → M W} {Q : Bool → Hp → Prop} (t : TTv Z Wx (fun ρ h => bnd (r ρ h) fun x h => optT (truV h x) h) σ H Q) : (fun σ H (Q : Bool → Hp → Prop) => TEv Z Wx r σ H fun x H1 => ∃ b, TruV Z.K x H1 b ∧ Q b H1) σ H Q := by
  obtain ⟨m, ρ, h, rfl, wρ, R, t⟩ := t
  refine TEv.bnd (f := fun x _ h => optT (truV h x) h) wρ R t fun m1 H1 x h1 e1 R1 wx w1 ee t1 => ?_
  obtain ⟨b, eb, q⟩ := optT_ok (α := Bool) t1 R1
  exact ⟨b, tru_tv R1 eb, q⟩
/-! ### arguments, parts of a slice, what is walked -/
theorem w_nil {Q : List V → Hp → Prop} (t : TAv Z Wx (evEs Γ k .nil) σ H Q) : tNil σ H Q := by
  obtain ⟨m, ρ, h, rfl, wρ, R, t⟩ := t
  unfold evEs at t
  exact t.of_ret R fun _ z => nomatch z
theorem w_cons {e : E} {es : Es} {Q : List V → Hp → Prop} (t : TAv Z Wx (evEs Γ k (.cons e es)) σ H Q) : tCons (TEv Z Wx (evE Γ k e)) (TAv Z Wx (evEs Γ k es)) σ H Q := by
  obtain ⟨m, ρ, h, rfl, wρ, R, t⟩ := t
  unfold evEs at t
  refine TEv.bnd (f := fun v ρ h => bnd (evEs Γ k es ρ h) fun vs h => ret (v :: vs) h) wρ R t fun m1 H1 x h1 e1 R1 wx w1 ee t1 => ?_
  rw [← ee]
  refine TAv.bnd (f := fun vs _ h => ret (x :: vs) h) w1 R1 t1 fun m2 H2 vs h2 e2 R2 wv w2 ee2 t2 => ?_
  have q := t2.of_ret R2 (fun w hw => by
    rcases List.mem_cons.mp hw with rfl | hw
    · exact wx.mono e2.le
    · exact wv w hw)
  rw [List.map_cons, e2.tv wx] at q
  exact q
theorem w_no {Q : Option Int → Hp → Prop} (t : TOv Z Wx (evO Γ k .no) σ H Q) : tNoPart σ H Q := by
  obtain ⟨m, ρ, h, rfl, wρ, R, t⟩ := t
  unfold evO at t
  exact t.of_ret R
theorem w_yes {e : E} {Q : Option Int → Hp → Prop} (t : TOv Z Wx (evO Γ k (.yes e)) σ H Q) : tPart (TEv Z Wx (evE Γ k e)) σ H Q := by
  obtain ⟨m, ρ, h, rfl, wρ, R, t⟩ := t
  unfold evO at t
  refine TEv.bnd (f := fun (v : W) _ h => (match v with | .int i => ret (some i) h | _ => (none : M (Option Int)))) wρ R t fun m1 H1 x h1 e1 R1 wx w1 ee t1 => ?_
  cases x with
  | int i => exact ⟨i, rfl, t1.of_ret R1⟩
  | _ => exact t1.none'
end
end Mp
set_option Elab.async false
set_option linter.all false
set_option maxRecDepth 100000
set_option maxHeartbeats 4000000
/-! Mp H: what is walked, comprehensions, statements. -/
namespace Mp
open PySem PySem.Spec PyProof.Rows L2
abbrev wN : WX := fun _ _ _ _ => False
section
variable {Z : St0} {Wx : WX} {Γ : Gam} {k : Calls} {σ : L2.St} {H : Hp}
/-! ### what is walked -/
def iAny (Z : St0) (te : TE) : TI := fun σ H R => te σ H fun x H1 => ∃ w m h wk, x = tv Z.cl m w ∧ RelH Z m h H1 ∧ walkOf w h = ret wk h ∧ R (JW Z m wk.1 wk.2) H1
def iRg (Z : St0) (te : TE) : TI := fun σ H R => te σ H fun x H1 => ∃ j m, x = .int j ∧ rngOk j = true ∧ R (JW Z m none (rngL 0 j)) H1
def iRg2 (Z : St0) (ta tb : TE) : TI := fun σ H R => ta σ H fun x H1 => tb σ H1 fun y H2 => ∃ i j m, x = .int i ∧ y = .int j ∧ rngOk i = true ∧ rngOk j = true ∧ R (JW Z m none (rngL i j)) H2
theorem walk_ok {m : Plc} {h : Hq} {H : Hp} {w : W} {Q : Ok Wk} {X : Value → Option Addr → Hp → Prop} (t : Res Z m h (walkOf w h) Q X) (R : RelH Z m h H) : ∃ wk, walkOf w h = ret wk h ∧ wfK h wk ∧ Q m H wk h := by
  have seq : ∀ (a : Nat) (o : Ob) (xs : List W), h[a]? = some o → (∀ v ∈ xs, wfW h.length v) → wfK h (some (a, o), xs) := fun a o xs ha hx => ⟨hx, fun b u e => by
    cases e
    exact ha⟩
  cases w with
  | str z =>
    refine ⟨_, rfl, ⟨fun v hv => ?_, fun a o e => (nomatch e)⟩, t.of_ret R⟩
    obtain ⟨c, _, rfl⟩ := List.mem_map.mp hv
    trivial
  | ref a =>
    unfold walkOf at t ⊢
    dsimp only at t ⊢
    cases ha : h[a]? with
    | none => rw [ha] at t; exact t.none'
    | some o =>
      rw [ha] at t
      have wfo := R.wf a o ha
      cases o with
      | lst xs => exact ⟨_, rfl, seq a _ xs ha wfo, t.of_ret R⟩
      | frl xs => exact ⟨_, rfl, seq a _ xs ha wfo, t.of_ret R⟩
      | tup xs => exact ⟨_, rfl, seq a _ xs ha wfo, t.of_ret R⟩
      | _ => exact t.none'
  | _ => exact t.none'
theorem rngL_wf {i j : Int} {h : Hq} : wfK h (none, rngL i j) := ⟨fun v hv => by
  obtain ⟨_, _, rfl⟩ := List.mem_map.mp hv
  trivial, fun a o e => (nomatch e)⟩
theorem w_any {e : E} {R : It → Hp → Prop} (t : TIv Z Wx (evS Γ k (.any e)) σ H R) : iAny Z (TEv Z Wx (evE Γ k e)) σ H R := by
  obtain ⟨m, ρ, h, rfl, wρ, RH, t⟩ := t
  unfold evS at t
  refine TEv.bnd (f := fun v _ h => walkOf v h) wρ RH t fun m1 H1 x h1 e1 R1 wx w1 ee t1 => ?_
  obtain ⟨wk, hw, wfk, q⟩ := walk_ok t1 R1
  exact ⟨x, m1, h1, wk, rfl, R1, hw, q wfk⟩
theorem w_rng {e : E} {R : It → Hp → Prop} (t : TIv Z Wx (evS Γ k (.rng e)) σ H R) : iRg Z (TEv Z Wx (evE Γ k e)) σ H R := by
  obtain ⟨m, ρ, h, rfl, wρ, RH, t⟩ := t
  unfold evS at t
  refine TEv.bnd (f := fun (v : W) _ h => (match v with | .int j => if rngOk j then ret (none, rngL 0 j) h else (none : M Wk) | _ => (none : M Wk))) wρ RH t fun m1 H1 x h1 e1 R1 wx w1 ee t1 => ?_
  cases x with
  | int j =>
    dsimp only at t1
    split at t1
    · rename_i hj
      exact ⟨j, m1, rfl, hj, t1.of_ret R1 rngL_wf⟩
    · exact t1.none'
  | _ => exact t1.none'
theorem w_rng2 {a b : E} {R : It → Hp → Prop} (t : TIv Z Wx (evS Γ k (.rng2 a b)) σ H R) : iRg2 Z (TEv Z Wx (evE Γ k a)) (TEv Z Wx (evE Γ k b)) σ H R := by
  obtain ⟨m, ρ, h, rfl, wρ, RH, t⟩ := t
  unfold evS at t
  refine TEv.bnd (f := fun (v : W) ρ h => bnd (evE Γ k b ρ h) fun w h => (match v, w with | .int i, .int j => if rngOk i && rngOk j then ret (none, rngL i j) h else (none : M Wk) | _, _ => (none : M Wk))) wρ RH t fun m1 H1 x h1 e1 R1 wx w1 ee t1 => ?_
  rw [← ee]
  refine TEv.bnd (f := fun (w : W) _ h => (match x, w with | .int i, .int j => if rngOk i && rngOk j then ret (none, rngL i j) h else (none : M Wk) | _, _ => (none : M Wk))) w1 R1 t1 fun m2 H2 y h2 e2 R2 wy w2 ee2 t2 => ?_
  cases x with
  | int i => cases y with
    | int j =>
      dsimp only at t2
      split at t2
      · rename_i hj
        have hj := Bool.and_eq_true_iff.mp hj
        exact ⟨i, j, m2, rfl, rfl, hj.1, hj.2, t2.of_ret R2 rngL_wf⟩
      · exact t2.none'
    | _ => exact t2.none'
  | _ => exact t2.none'
/-- what the walked object's guard says at a later heap -/
theorem stay_of {m m' : Plc} {h h' : Hq} {H' : Hp} {g : Option (Nat × Ob)} {xs : List W} (wk : wfK h (g, xs)) (R : RelH Z m h H) (e : Ext m m' h h') (R' : RelH Z m' h' H') (s : stays g h' = true) : Stay Z m H' g := by
  cases g with
  | none => trivial
  | some p =>
    obtain ⟨a, o⟩ := p
    have ha : h[a]? = some o := wk.2 a o rfl
    have ha' : h'[a]? = some o := of_decide_eq_true s
    have r := R'.ob a o ha'
    have lt := (List.getElem?_eq_some_iff.mp ha).1
    show ObR Z m H' (m a) o
    rw [← e.eq a lt]
    -- the description by m' is the one by m
    have back : ∀ {b : Addr} {u : Ob}, wfO h.length u → ObR Z m' H' b u → ObR Z m H' b u := fun {b u} wu ru => by
      cases u with
      | lst ys => have ru : H' b = _ := ru; rw [e.map wu] at ru; exact ru
      | tup ys => have ru : H' b = _ := ru; rw [e.map wu] at ru; exact ru
      | frl ys => have ru : Frl Z.K H' b _ := ru; rw [e.map wu] at ru; exact ru
      | dct ys => have ru : H' b = _ := ru; rw [e.map2 wu] at ru; exact ru
      | ins c ys => obtain ⟨dx, ru⟩ := ru; rw [e.map2 wu] at ru; exact ⟨dx, ru⟩
      | exc c w => obtain ⟨oe, d, h1, h2, h3, h4⟩ := ru; rw [e.tv wu] at h4; exact ⟨oe, d, h1, h2, h3, h4⟩
      | dead => trivial
    exact back (R.wf a o ha) r
theorem drop_at {α : Type} {xs : List α} {i : Nat} {x : α} {r : List α} (h : xs.drop i = x :: r) : i < xs.length ∧ xs[i]? = some x ∧ xs.drop (i + 1) = r := by
  have hl : i < xs.length := by
    by_cases z : i < xs.length
    · exact z
    · rw [List.drop_eq_nil_of_le (by omega)] at h; cases h
  rw [List.drop_eq_getElem_cons hl] at h
  cases h
  exact ⟨hl, List.getElem?_eq_getElem hl, rfl⟩
theorem drop_nil {α : Type} {xs : List α} {i : Nat} (h : xs.drop i = []) : xs.length ≤ i := List.drop_eq_nil_iff.mp h
theorem wipe1 (σ : L2.St) (x : Nat) : wipe σ [x] = σ.set x none := rfl
theorem compL_stays {g : Option (Nat × Ob)} {D : Nat} {t : W → Hq → M Bool} {el : W → Hq → M W} {xs : List W} {h hf : Hq} (e : compL g D t el xs h = some hf) : stays g h = true := by
  cases xs with
  | nil => unfold compL at e; split at e; assumption; cases e
  | cons x xs => unfold compL at e; split at e; assumption; cases e
theorem w_comp {x : Nat} {s : Src} {c : Op} {el : E} {Q : VK} (t : TEv Z Wx (evE Γ k (.comp x s c el)) σ H Q) : tLc (TIv Z Wx (evS Γ k s)) (gName x) (TTv Z wN (evC Γ k c)) (TEv Z wN (evE Γ k el)) [x] σ H Q := by
  obtain ⟨m, ρ, h, rfl, wρ, RH, t⟩ := t
  unfold evE at t
  refine TIv.bnd (f := fun (w : Wk) ρ h => (match compL w.1 h.length (fun v h => evC Γ k c (ρ.set x (some v)) h) (fun v h => evE Γ k el (ρ.set x (some v)) h) w.2 (h ++ [.lst []]) with
      | some h' => ret (.ref h.length) h'
      | none => (none : M W))) wρ RH t fun m1 H1 w h1 e1 R1 wk w1 ee t1 => ?_
  intro D hD
  obtain ⟨g, xs⟩ := w
  dsimp only at t1 ⊢
  cases hc : compL g h1.length (fun v h => evC Γ k c (ρ.set x (some v)) h) (fun v h => evE Γ k el (ρ.set x (some v)) h) xs (h1 ++ [.lst []]) with
  | none => rw [hc] at t1; exact t1.none'
  | some hf =>
    rw [hc] at t1
    obtain ⟨m2, E2, eD, R2⟩ := R1.push (H' := upd H1 D (.lst [])) (o := .lst []) hD (fun b hb => upd_ne hb) (fun m' _ _ => upd_same) (fun _ z => nomatch z)
    have llt : h1.length < (h1 ++ [Ob.lst []]).length := by rw [List.length_append]; exact Nat.lt_succ_self _
    refine ⟨fun i n H => ∃ m' h', Ext m2 m' (h1 ++ [.lst []]) h' ∧ RelH Z m' h' H ∧ i + n = xs.length ∧ compL g h1.length (fun v h => evC Γ k c (ρ.set x (some v)) h) (fun v h => evE Γ k el (ρ.set x (some v)) h) (xs.drop i) h' = some hf,
      ⟨xs.length, m2, _, .refl, R2, Nat.zero_add _, hc⟩, ?_⟩
    rintro i n H3 ⟨m', h', E', R', hn, hc'⟩
    have EE : Ext m1 m' h1 h' := E2.trans E'
    have hst0 := compL_stays hc'
    have st := stay_of wk R1 EE R' hst0
    have eD' : m' h1.length = D := (E'.eq _ llt).trans eD
    cases hd : xs.drop i with
    | nil =>
      rw [hd] at hc'
      unfold compL at hc'
      rw [if_pos hst0] at hc'
      cases hc'
      refine .inl ⟨⟨drop_nil hd, st⟩, ?_⟩
      have q := t1 m' H3 EE R' (Nat.lt_of_lt_of_le llt E'.le)
      have q : Q (.ref (m' h1.length)) H3 := q
      rw [eD'] at q
      exact q
    | cons v rest =>
      obtain ⟨hi, hv, hr⟩ := drop_at hd
      rw [hd] at hc'
      unfold compL at hc'
      rw [if_pos hst0] at hc'
      · refine .inr ⟨⟨hi, st⟩, fun H => ∃ m' h', Ext m2 m' (h1 ++ [.lst []]) h' ∧ RelH Z m' h' H ∧ compL g h1.length (fun v h => evC Γ k c (ρ.set x (some v)) h) (fun v h => evE Γ k el (ρ.set x (some v)) h) (xs.drop (i + 1)) h' = some hf, fun H' ⟨ma, ha, ea, ra, ca⟩ => ⟨n - 1, by omega, ma, ha, ea, ra, by omega, ca⟩, fun xv H' hy => ?_⟩
        obtain ⟨rfl, v', hv', rfl⟩ := hy
        rw [hv] at hv'
        cases hv'
        have wv : wfW h1.length v := wk.1 v (List.mem_of_getElem? hv)
        have wρ' : wfE h'.length (ρ.set x (some v)) := (w1.mono EE.le).set (wv.mono EE.le)
        have eσ : (wipe (envV Z.cl m1 ρ) [x]).set x (some (tv Z.cl m1 v)) = envV Z.cl m' (ρ.set x (some v)) := by
          rw [wipe1, List.set_set, envV_set, EE.env w1, EE.tv wv]
        show wipe ((wipe _ [x]).set x _) [x] = wipe _ [x] ∧ _
        rw [← ee]
        refine ⟨by rw [wipe1, wipe1, List.set_set, List.set_set], ?_⟩
        rw [eσ]
        refine ⟨m', _, h', rfl, wρ', R', ?_⟩
        cases ht : evC Γ k c (ρ.set x (some v)) h' with
        | none => rw [ht] at hc'; cases hc'
        | some r =>
          obtain ⟨r, ha⟩ := r
          rw [ht] at hc'
          cases r with
          | exc c w => cases hc'
          | ok b =>
            intro m3 H4 e3 R3
            cases b with
            | false =>
              rw [if_neg Bool.false_ne_true]
              exact ⟨m3, ha, E'.trans e3, R3, by rw [hr]; exact hc'⟩
            | true =>
              rw [if_pos rfl]
              dsimp only at hc'
              have eσ2 : envV Z.cl m' (ρ.set x (some v)) = envV Z.cl m3 (ρ.set x (some v)) := (e3.env wρ').symm
              rw [eσ2]
              refine ⟨m3, _, ha, rfl, wρ'.mono e3.le, R3, ?_⟩
              cases hel : evE Γ k el (ρ.set x (some v)) ha with
              | none => rw [hel] at hc'; cases hc'
              | some r =>
                obtain ⟨r, hb⟩ := r
                rw [hel] at hc'
                cases r with
                | exc c w => cases hc'
                | ok y =>
                  intro m4 H5 e4 R4 wy
                  dsimp only at hc'
                  cases hD' : hb[h1.length]? with
                  | none => rw [hD'] at hc'; cases hc'
                  | some o =>
                    rw [hD'] at hc'
                    cases o with
                    | lst acc =>
                      dsimp only at hc'
                      split at hc'
                      · rename_i hz
                        have E4 : Ext m2 m4 (h1 ++ [.lst []]) hb := (E'.trans e3).trans e4
                        have eD4 : m4 h1.length = D := (E4.eq _ llt).trans eD
                        have rD : H5 D = some (.lst (acc.map (tv Z.cl m4))) := by
                          have z : H5 (m4 h1.length) = some (.lst (acc.map (tv Z.cl m4))) := R4.ob _ _ hD'
                          rw [eD4] at z
                          exact z
                        refine ⟨_, rD, by rw [List.length_map, ← line_eq]; exact hz, m4, hb.set h1.length (.lst (acc ++ [y])), ⟨by rw [List.length_set]; exact E4.le, E4.eq⟩, ?_, by rw [hr]; exact hc'⟩
                        refine R4.write hD' rfl (fun b hb => upd_ne (by rw [← eD4]; exact hb)) ?_ fun w hw => ?_
                        · show _ = _
                          rw [eD4, upd_same, List.map_append]; rfl
                        · rcases List.mem_append.mp hw with z | z
                          · exact R4.wf _ _ hD' w z
                          · rw [List.mem_singleton.mp z]; exact wy
                      · cases hc'
                    | _ => cases hc'
end
end Mp
set_option Elab.async false
set_option linter.all false
set_option maxRecDepth 100000
set_option maxHeartbeats 400000
/-! Mp I: statements. -/
namespace Mp
open PySem PySem.Spec PyProof.Rows L2
section
variable {Z : St0} {Wx : WX} {Γ : Gam} {k : Calls} {σ : L2.St} {H : Hp}
/-! ### statements -/
theorem RSs.none' {m : Plc} {h : Hq} {D : Ends} {P : Prop} (a : RSs Z Wx m h none D) : P := False.elim a
theorem w_asg {r : Env → Hq → M W} {i : Nat} {D : Ends} (t : TSv Z Wx (fun ρ h => lft (r ρ h) ρ fun v h => some (.nx (ρ.set i (some v)), h)) D σ H) : tAsg (TEv Z Wx r) (gName i) D σ H := by
  obtain ⟨m, ρ, h, rfl, wρ, R, t⟩ := t
  refine ⟨m, ρ, h, rfl, wρ, R, (t.lft wρ).mono fun m1 H1 v h1 e1 R1 q wv => ?_⟩
  have q := q m1 H1 .refl R1 ((wρ.mono e1.le).set wv)
  rw [envV_set, e1.env wρ] at q
  exact q
theorem w_exp {e : E} {wf : Nat} {D : Ends} (t : TSv Z Wx (exS Γ wf k (.exp e)) D σ H) : tDrop (TEv Z Wx (evE Γ k e)) D σ H := by
  obtain ⟨m, ρ, h, rfl, wρ, R, t⟩ := t
  unfold exS at t
  refine ⟨m, ρ, h, rfl, wρ, R, (t.lft wρ).mono fun m1 H1 v h1 e1 R1 q wv => ?_⟩
  have q := q m1 H1 .refl R1 (wρ.mono e1.le)
  rw [e1.env wρ] at q
  exact q
theorem w_ret {e : E} {wf : Nat} {D : Ends} (t : TSv Z Wx (exS Γ wf k (.ret e)) D σ H) : tRet (TEv Z Wx (evE Γ k e)) D σ H := by
  obtain ⟨m, ρ, h, rfl, wρ, R, t⟩ := t
  unfold exS at t
  exact ⟨m, ρ, h, rfl, wρ, R, (t.lft wρ).mono fun m1 H1 v h1 e1 R1 q wv => q m1 H1 .refl R1 wv⟩
theorem w_ret0 {wf : Nat} {D : Ends} (t : TSv Z Wx (exS Γ wf k .ret0) D σ H) : tRetN D σ H := by
  obtain ⟨m, ρ, h, rfl, wρ, R, t⟩ := t
  unfold exS at t
  exact t m H .refl R trivial
theorem w_pas {wf : Nat} {D : Ends} (t : TSv Z Wx (exS Γ wf k .pas) D σ H) : tNext D σ H := by
  obtain ⟨m, ρ, h, rfl, wρ, R, t⟩ := t
  unfold exS at t
  exact t m H .refl R wρ
theorem w_brk {wf : Nat} {D : Ends} (t : TSv Z Wx (exS Γ wf k .brk) D σ H) : tBreak D σ H := by
  obtain ⟨m, ρ, h, rfl, wρ, R, t⟩ := t
  unfold exS at t
  exact t m H .refl R wρ
theorem w_cnt {wf : Nat} {D : Ends} (t : TSv Z Wx (exS Γ wf k .cnt) D σ H) : tCont D σ H := by
  obtain ⟨m, ρ, h, rfl, wρ, R, t⟩ := t
  unfold exS at t
  exact t m H .refl R wρ
theorem w_ssnil {wf : Nat} {D : Ends} (t : TSv Z Wx (exSs Γ wf k .nil) D σ H) : tNext D σ H := by
  obtain ⟨m, ρ, h, rfl, wρ, R, t⟩ := t
  unfold exSs at t
  exact t m H .refl R wρ
theorem w_sscons {s : S} {r : Ss} {wf : Nat} {D : Ends} (t : TSv Z Wx (exSs Γ wf k (.cons s r)) D σ H) : tSeq (TSv Z Wx (exS Γ wf k s)) (TSv Z Wx (exSs Γ wf k r)) D σ H := by
  obtain ⟨m, ρ, h, rfl, wρ, R, t⟩ := t
  unfold exSs at t
  exact ⟨m, ρ, h, rfl, wρ, R, t.sq⟩
theorem w_iteS {c : E} {a b : Ss} {wf : Nat} {D : Ends} (t : TSv Z Wx (exS Γ wf k (.ite c a b)) D σ H) : tIfS (TTv Z Wx (evT Γ k c)) (TSv Z Wx (exSs Γ wf k a)) (TSv Z Wx (exSs Γ wf k b)) D σ H := by
  obtain ⟨m, ρ, h, rfl, wρ, R, t⟩ := t
  unfold exS at t
  refine ⟨m, ρ, h, rfl, wρ, R, (t.lft wρ).mono fun m1 H1 v h1 e1 R1 q => ?_⟩
  cases v with
  | true => rw [if_pos rfl] at q ⊢; exact ⟨m1, ρ, h1, (e1.env wρ).symm, wρ.mono e1.le, R1, q⟩
  | false => rw [if_neg Bool.false_ne_true] at q ⊢; exact ⟨m1, ρ, h1, (e1.env wρ).symm, wρ.mono e1.le, R1, q⟩
def gNs : List Nat → TGs
  | [] => gNil
  | i :: is => gCons (gName i) (gNs is)
theorem setAll_ok {m : Plc} {Q : L2.St → Hp → Prop} {H : Hp} {n : Nat} : ∀ (is : List Nat) (xs : List W) (ρ ρ' : Env), setAll is xs ρ = some ρ' → (∀ w ∈ xs, wfW n w) → wfE n ρ → wfE n ρ' ∧ (Q (envV Z.cl m ρ') H → gNs is (xs.map (tv Z.cl m)) (envV Z.cl m ρ) H Q)
  | [], [], ρ, ρ', e, _, wρ => by
    cases e
    exact ⟨wρ, fun q => ⟨rfl, q⟩⟩
  | i :: is, x :: xs, ρ, ρ', e, wx, wρ => by
    obtain ⟨h1, h2⟩ := setAll_ok (m := m) (Q := Q) (H := H) is xs (ρ.set i (some x)) ρ' e (fun w hw => wx w (List.mem_cons_of_mem _ hw)) (wρ.set (wx x List.mem_cons_self))
    refine ⟨h1, fun q => ⟨_, _, rfl, ?_⟩⟩
    have z := h2 q
    rw [envV_set] at z
    exact z
  | [], _ :: _, _, _, e, _, _ => by cases e
  | _ :: _, [], _, _, e, _, _ => by cases e
theorem setAll_len : ∀ (is : List Nat) (xs : List W) (ρ ρ' : Env), setAll is xs ρ = some ρ' → xs.length = is.length
  | [], [], _, _, _ => rfl
  | i :: is, x :: xs, ρ, ρ', e => congrArg (· + 1) (setAll_len is xs _ _ e)
  | [], _ :: _, _, _, e => by cases e
  | _ :: _, [], _, _, e => by cases e
theorem tupOf_ok {m : Plc} {h : Hq} {w : W} {xs : List W} (R : RelH Z m h H) (e : tupOf h w = some xs) : ∃ a, w = .ref a ∧ SqT Z.K H (m a) (xs.map (tv Z.cl m)) ∧ ∀ v ∈ xs, wfW h.length v := by
  cases w with
  | ref a =>
    unfold tupOf at e
    dsimp only at e
    cases ha : h[a]? with
    | none => rw [ha] at e; cases e
    | some o =>
      rw [ha] at e
      have r := R.ob a o ha
      have wfo := R.wf a o ha
      cases o with
      | tup ys => cases e; exact ⟨a, rfl, .of r, wfo⟩
      | _ => cases e
  | _ => cases e
theorem w_unp {is : List Nat} {e : E} {wf : Nat} {D : Ends} (t : TSv Z Wx (exS Γ wf k (.unp is e)) D σ H) : tAsg (TEv Z Wx (evE Γ k e)) (gTup Z.K is.length (gNs is)) D σ H := by
  obtain ⟨m, ρ, h, rfl, wρ, R, t⟩ := t
  unfold exS at t
  refine ⟨m, ρ, h, rfl, wρ, R, (t.lft wρ).mono fun m1 H1 v h1 e1 R1 q wv => ?_⟩
  cases hx : tupOf h1 v with
  | none => rw [hx] at q; exact q.elim
  | some xs =>
    rw [hx] at q
    dsimp only at q
    cases hs : setAll is xs ρ with
    | none => rw [hs] at q; exact q.elim
    | some ρ' =>
      rw [hs] at q
      obtain ⟨a, rfl, sq, wx⟩ := tupOf_ok R1 hx
      obtain ⟨w', k'⟩ := setAll_ok (Z := Z) (m := m1) (Q := D.nx) (H := H1) is xs ρ ρ' hs wx (wρ.mono e1.le)
      refine ⟨m1 a, _, rfl, sq, by rw [List.length_map]; exact setAll_len _ _ _ _ hs, ?_⟩
      rw [← e1.env wρ]
      exact k' (q m1 H1 .refl R1 w')
theorem w_sto {o i e : E} {wf : Nat} {D : Ends} (t : TSv Z Wx (exS Γ wf k (.sto o i e)) D σ H) : tAsg (TEv Z Wx (evE Γ k e)) (gSub (TEv Z Wx (evE Γ k o)) (TEv Z Wx (evE Γ k i)) rSetL) D σ H := by
  obtain ⟨m, ρ, h, rfl, wρ, R, t⟩ := t
  unfold exS at t
  refine ⟨m, ρ, h, rfl, wρ, R, (t.lft wρ).mono fun m1 H1 v h1 e1 R1 q wv => ?_⟩
  have w1 := wρ.mono e1.le
  refine ⟨m1, ρ, h1, (e1.env wρ).symm, w1, R1, ?_⟩
  rw [← e1.env wρ]
  refine (q.lft w1).mono fun m2 H2 x h2 e2 R2 q2 wx => ?_
  have w2 := w1.mono e2.le
  refine ⟨m2, ρ, h2, (e2.env w1).symm, w2, R2, ?_⟩
  rw [← e2.env w1]
  refine (q2.lft w2).mono fun m3 H3 y h3 e3 R3 q3 wy => ?_
  have w3 := w2.mono e3.le
  cases hs : setV x y v h3 with
  | none => rw [hs] at q3; exact q3.elim
  | some h4 =>
    rw [hs] at q3
    rw [← e3.tv wx, ← (e2.trans e3).tv wv, ← e3.env w2]
    have len : h4.length = h3.length := by
      unfold setV at hs
      split at hs
      · split at hs
        · split at hs
          · cases hj : ixN _ _ with
            | none => rw [hj] at hs; cases hs
            | some j => rw [hj] at hs; cases hs; rw [List.length_set]
          · cases hs
        · cases hs
      · cases hs
    exact set_ok R3 (wv.mono (e2.trans e3).le) hs (fun H' R' => q3 m3 H' ⟨by rw [len]; exact Nat.le_refl _, fun _ _ => rfl⟩ R' (by rw [len]; exact w3)) fun _ => trivial
theorem w_aug {i : Nat} {o : BOp} {e : E} {wf : Nat} {D : Ends} (t : TSv Z Wx (exS Γ wf k (.aug i o e)) D σ H) : tAug i (TEv Z Wx (evE Γ k e)) (rAug o) D σ H := by
  obtain ⟨m, ρ, h, rfl, wρ, R, t⟩ := t
  unfold exS at t
  split at t
  · rename_i x hx
    refine ⟨_, envV_get hx, m, ρ, h, rfl, wρ, R, (t.lft wρ).mono fun m1 H1 y h1 e1 R1 q wy => ?_⟩
    have w1 := wρ.mono e1.le
    have wx := wρ.get hx
    rw [← e1.tv wx]
    refine op2Aug o m1 h1 H1 x y _ (fun c d H' => Wx c d (envV Z.cl m1 ρ) H') R1 (wx.mono e1.le) wy ((q.lft w1).mono fun m2 H2 z h2 e2 R2 q2 wz => ?_)
    have q2 := q2 m2 H2 .refl R2 ((w1.mono e2.le).set wz)
    rw [envV_set, (e1.trans e2).env wρ] at q2
    exact q2
  · exact t.none'
/-! ### loops -/
theorem w_whl {c : E} {b : Ss} {wf : Nat} {D : Ends} (t : TSv Z Wx (exS Γ wf k (.whl c b)) D σ H) : tWhile (TTv Z Wx (evT Γ k c)) (TSv Z Wx (exSs Γ wf k b)) D σ H := by
  obtain ⟨m, ρ, h, rfl, wρ, R, t⟩ := t
  unfold exS at t
  refine ⟨fun n σ H => ∃ m ρ h, σ = envV Z.cl m ρ ∧ wfE h.length ρ ∧ RelH Z m h H ∧ RSs Z Wx m h (whileL (fun ρ h => evT Γ k c ρ h) (fun ρ h => exSs Γ wf k b ρ h) n ρ h) D, ⟨wf, m, ρ, h, rfl, wρ, R, t⟩, ?_⟩
  rintro n σ H ⟨m, ρ, h, rfl, wρ, R, t⟩
  cases n with
  | zero => unfold whileL at t; exact t.none'
  | succ n =>
    unfold whileL at t
    refine ⟨m, ρ, h, rfl, wρ, R, ?_⟩
    cases hc : evT Γ k c ρ h with
    | none => rw [hc] at t; exact t.none'
    | some r =>
      obtain ⟨r, h1⟩ := r
      rw [hc] at t
      cases r with
      | exc c w =>
        intro m' H' d e R' wx hd
        have q := t m' H' d e R' wx (wρ.mono e.le) hd
        rw [e.env wρ] at q
        exact q
      | ok v =>
        intro m1 H1 e1 R1
        have w1 := wρ.mono e1.le
        cases v with
        | false =>
          dsimp only
          rw [if_neg Bool.false_ne_true]
          have q := t m1 H1 e1 R1 w1
          rw [e1.env wρ] at q
          exact q
        | true =>
          dsimp only
          rw [if_pos rfl]
          dsimp only at t
          refine ⟨fun σ H => ∃ m ρ h, σ = envV Z.cl m ρ ∧ wfE h.length ρ ∧ RelH Z m h H ∧ RSs Z Wx m h (whileL (fun ρ h => evT Γ k c ρ h) (fun ρ h => exSs Γ wf k b ρ h) n ρ h) D, fun σ' H' z => ⟨n, Nat.lt_succ_self n, z⟩, m1, ρ, h1, (e1.env wρ).symm, w1, R1, ?_⟩
          cases hb : exSs Γ wf k b ρ h1 with
          | none => rw [hb] at t; exact t.none'
          | some r =>
            obtain ⟨f, h2⟩ := r
            rw [hb] at t
            cases f with
            | nx ρ2 => exact fun m2 H2 e2 R2 w2 => ⟨m2, ρ2, h2, rfl, w2, R2, RSs.ext (show RSs Z Wx m h (whileL _ _ n ρ2 h2) D from t) (e1.trans e2)⟩
            | ct ρ2 => exact fun m2 H2 e2 R2 w2 => ⟨m2, ρ2, h2, rfl, w2, R2, RSs.ext (show RSs Z Wx m h (whileL _ _ n ρ2 h2) D from t) (e1.trans e2)⟩
            | brk ρ2 => exact fun m2 H2 e2 R2 w2 => t m2 H2 (e1.trans e2) R2 w2
            | ret v => exact fun m2 H2 e2 R2 w2 => t m2 H2 (e1.trans e2) R2 w2
            | exc c w ρ2 => exact fun m2 H2 d e2 R2 => t m2 H2 d (e1.trans e2) R2
theorem forL_stays {m : Plc} {h : Hq} {g : Option (Nat × Ob)} {i : Nat} {body : Env → Hq → RS} {xs : List W} {ρ : Env} {D : Ends} (t : RSs Z Wx m h (forL g i body xs ρ h) D) : stays g h = true := by
  cases xs with
  | nil => unfold forL at t; split at t; assumption; exact t.none'
  | cons x xs => unfold forL at t; split at t; assumption; exact t.none'
theorem w_for {v : Nat} {s : Src} {b : Ss} {wf : Nat} {D : Ends} (t : TSv Z Wx (exS Γ wf k (.for v s b)) D σ H) : tFor (TIv Z Wx (evS Γ k s)) (gName v) (TSv Z Wx (exSs Γ wf k b)) D σ H := by
  obtain ⟨m, ρ, h, rfl, wρ, R, t⟩ := t
  unfold exS at t
  refine ⟨m, ρ, h, rfl, wρ, R, (t.lft wρ).mono fun m1 H1 w h1 e1 R1 q wk => ?_⟩
  obtain ⟨g, xs⟩ := w
  have w1 := wρ.mono e1.le
  refine ⟨fun i n σ H => ∃ m' ρ' h', σ = envV Z.cl m' ρ' ∧ wfE h'.length ρ' ∧ RelH Z m' h' H ∧ Ext m1 m' h1 h' ∧ i + n = xs.length ∧ RSs Z Wx m' h' (forL g v (fun ρ h => exSs Γ wf k b ρ h) (xs.drop i) ρ' h') D,
    ⟨xs.length, m1, ρ, h1, (e1.env wρ).symm, w1, R1, .refl, Nat.zero_add _, q⟩, ?_⟩
  rintro i n σ H ⟨m', ρ', h', rfl, wρ', R', E', hn, q⟩
  have hst := forL_stays q
  have st := stay_of wk R1 E' R' hst
  cases hd : xs.drop i with
  | nil =>
    rw [hd] at q
    unfold forL at q
    rw [if_pos hst] at q
    exact .inl ⟨⟨drop_nil hd, st⟩, q m' H .refl R' wρ'⟩
  | cons x rest =>
    obtain ⟨hi, hv, hr⟩ := drop_at hd
    rw [hd] at q
    unfold forL at q
    rw [if_pos hst] at q
    refine .inr ⟨⟨hi, st⟩, fun σ H => ∃ m' ρ' h', σ = envV Z.cl m' ρ' ∧ wfE h'.length ρ' ∧ RelH Z m' h' H ∧ Ext m1 m' h1 h' ∧ RSs Z Wx m' h' (forL g v (fun ρ h => exSs Γ wf k b ρ h) (xs.drop (i + 1)) ρ' h') D,
      fun σ2 H2 ⟨ma, ρa, ha, a1, a2, a3, a4, a5⟩ => ⟨n - 1, by omega, ma, ρa, ha, a1, a2, a3, a4, by omega, a5⟩, fun xv H2 hy => ?_⟩
    obtain ⟨rfl, x', hx', rfl⟩ := hy
    rw [hv] at hx'
    cases hx'
    have wx : wfW h1.length x := wk.1 x (List.mem_of_getElem? hv)
    show TSv Z Wx (exSs Γ wf k b) _ ((envV Z.cl m' ρ').set v (some (tv Z.cl m1 x))) _
    rw [← E'.tv wx, ← envV_set]
    refine ⟨m', _, h', rfl, wρ'.set (wx.mono E'.le), R', ?_⟩
    cases hb : exSs Γ wf k b (ρ'.set v (some x)) h' with
    | none => rw [hb] at q; exact q.none'
    | some r =>
      obtain ⟨f, h2⟩ := r
      rw [hb] at q
      cases f with
      | nx ρ2 => exact fun m2 H2 e2 R2 w2 => ⟨m2, ρ2, h2, rfl, w2, R2, E'.trans e2, by rw [hr]; exact RSs.ext (show RSs Z Wx m' h' (forL _ _ _ rest ρ2 h2) D from q) e2⟩
      | ct ρ2 => exact fun m2 H2 e2 R2 w2 => ⟨m2, ρ2, h2, rfl, w2, R2, E'.trans e2, by rw [hr]; exact RSs.ext (show RSs Z Wx m' h' (forL _ _ _ rest ρ2 h2) D from q) e2⟩
      | brk ρ2 => exact fun m2 H2 e2 R2 w2 => q m2 H2 e2 R2 w2
      | ret v => exact fun m2 H2 e2 R2 w2 => q m2 H2 e2 R2 w2
      | exc c w ρ2 => exact fun m2 H2 d e2 R2 => q m2 H2 d e2 R2
end
end Mp
set_option Elab.async false
set_option linter.all false
set_option maxRecDepth 100000
set_option maxHeartbeats 1000000
/-! Mp J: exceptions: raised, caught, their what; defs called where one is handled. -/
namespace Mp
open PySem PySem.Spec PyProof.Rows L2
/-! ### raise C(e) -/
/-- what C's __init__ (it stores what) promises -/
def spInit (K : PySem.W.Frag) : Sp := fun vs H Q _ => ∃ (a C : Addr) (y : V), vs = [.ref a, y] ∧ OexC K C ∧ PySem.W.findIn K (.ref C) wht = some none ∧ H a = some (exo a C none) ∧
  ∀ dx, H dx = none → dx ≠ a → Q .non (upd (upd H dx (exd dx [(wht, y)])) a (exo a C (some dx)))
/-- an exception class of the program -/
structure ExK (P : Program) (w : World) (K : PySem.W.Frag) (mg : Str → Option Value) (base : Heap) (x : Str) (C : Addr) : Prop where
  g : mg x = some (.ref C)
  oex : OexC K C
  no : PySem.W.findIn K (.ref C) wht = some none
  ini : ∃ fI fd, PySem.W.findIn K (.ref C) "__init__" = some (some (.ref fI)) ∧ PySem.W.typeIn K (.ref fI) = some (.type "function") ∧ Binds K fd ["self", "what"] [] ∧ FnOk P w K mg base CX0 1 fI fd ["self", "what"] (spInit K)
theorem del_end {H : Hp} {a d C : Addr} {y : V} (ha : H a = none) (hd : d ≠ a) : upd (del (upd (upd (upd H a (exo a C none)) d (exd d [(wht, y)])) a (exo a C (some d))) a) d (.xd [(wht, y)]) = upd H d (.xd [(wht, y)]) := by
  funext b
  by_cases hb : b = d
  · rw [hb, upd_same, upd_same]
  · rw [upd_ne hb, upd_ne hb]
    by_cases hba : b = a
    · rw [hba, del_same, ha]
    · rw [del_ne hba, upd_ne hba, upd_ne hb, upd_ne hba]
theorem mk_endN {X : Cx} {pins : List (Addr × Obj)} {σ : L2.St} {H1 H2 : Hp} {Q : XK} {hp hp2 h2 : Heap} {g1 g2 : Array GenState} {d1 d2 : Drawn} {t1 t2 : Nat} {os1 os2 : OsState} {a C d : Addr} {fs : List (Str × V)} (T : Raises X (.ref C)) (I1 : Inv X pins σ H1 ⟨hp, g1, d1, t1, os1⟩)
    (ha : hp.objs.size ≤ a) (k : ∀ b o, hp.get? b = some o → hp2.get? b = some o) (un : Un (frs X.stack) [] (upd H1 a (exo a C none)) H2 hp2 h2) (hok : HOk X.prog X.w H2 h2) (ho : os2 = os1) (hb : AllBare g2)
    (ea : H2 a = some (exo a C (some d))) (ed : H2 d = some (exd d fs)) (hd1 : H1 d = none) (q : Q (.ref C) (some d) (upd (del H2 a) d (.xd fs))) : L2N.MkP X pins σ Q (Value.ref a) (⟨h2, g2, d2, t2, os2⟩ : Shared) := by
  obtain ⟨t0, G, J, kG, ge, hoe, na⟩ := mk_end0 (d2 := d2) (t2 := t2) I1 ha k un hok ho hb ea ed hd1
  exact ⟨a, _, _, ⟨G, g2, d2, t2, os2⟩, _, .ref C, some d, rfl, J, kG, ge, hoe, ⟨rfl, rfl, fun vs e => by cases e; rfl⟩, rfl, rfl, na, rfl, hb, T, q⟩
theorem pmkN {X : Cx} {CX : CXT} {x : Str} {C fI : Addr} {k : Nat} {fd : FuncData} {ps : List Str} {sp : Sp} {e : Expr} {es : List Expr} {ta : TA} {p pos : Pos} (T : OexC X.K C) (iC : PySem.W.findIn X.K (.ref C) "__init__" = some (some (.ref fI))) (tI : PySem.W.typeIn X.K (.ref fI) = some (.type "function"))
    (F1 : FnOk X.prog X.w X.K X.mg X.base CX k fI fd ps sp) (hr : Room (k + 1) X.A) (hb : Binds X.K fd ps []) (hx : Passes CX X (fun _ _ _ => False)) (hg : Gl X x) (hm : X.mg x = some (.ref C)) (ha : PA X (e :: es) ta)
    (hdb : (x == ("__debug__" : Str)) = false) (he : starEach (e :: es) X.env = (false, eval e X.env) :: starEach es X.env) (hpl : (backTo pos (starEach es X.env)).any (·.1) = false) :
    L2N.PMk X (.Call (.Name x p) (e :: es) [] pos) (tMkO C sp [] ta) := by
  intro pins s σ H Q I h
  obtain ⟨nm, q, N, bs, bm, sn, sub, ab, col, dd, k0, k1, k2, k3, k5, hC, hbm⟩ := T.cls
  refine wpAny_Call_Name_kw (ld_glob I hg hm ?_ hdb)
  refine PySem.W.callWith_K (h₀ := X.base) I.ok.mod.kin T.kC (thn (ha.run pos pins s σ H _ I h) fun us s1 ⟨vs, H1, I1, r1, hz, q1⟩ => ⟨I1.kIn, ?_⟩) he hpl
  show wpAny _ _ (PySem.call (.ref C) us) _ _ _
  obtain ⟨hp, g, dr, tk, os⟩ := s1
  have hsz : hp.objs.size ≤ hp.objs.size + 1 := Nat.le_succ _
  have hn : H1 (hp.objs.size + 1) = none := I1.hok.fresh hsz
  have hq := q1 (hp.objs.size + 1) hn
  have kk : ∀ b o, hp.get? b = some o → ((hp.push (PySem.W.kdv_tup us)).push (PySem.HandSPX.excO C hp.objs.size)).get? b = some o := fun b o e => Heap.get?_push_of_some _ (Heap.get?_push_of_some _ e)
  have hget : ((hp.push (PySem.W.kdv_tup us)).push (PySem.HandSPX.excO C hp.objs.size)).get? (hp.objs.size + 1) = some (PySem.HandSPX.excO C hp.objs.size) := by heap_get
  have I2 : Inv X pins σ (upd H1 (hp.objs.size + 1) (exo (hp.objs.size + 1) C none)) ⟨(hp.push (PySem.W.kdv_tup us)).push (PySem.HandSPX.excO C hp.objs.size), g, dr, tk, os⟩ :=
    I1.laid (t' := tk) (a := hp.objs.size + 1) (o := exo (hp.objs.size + 1) C none) (h' := (hp.push (PySem.W.kdv_tup us)).push (PySem.HandSPX.excO C hp.objs.size)) kk hsz (exo_ok hget)
  have r2 : Vals (V.ref (hp.objs.size + 1) :: (vs ++ [])) (Value.ref (hp.objs.size + 1) :: (us ++ [])) := .cons rfl (r1.append .nil)
  have hl : (Value.ref (hp.objs.size + 1) :: us ++ []).length = ps.length := by
    have e := r2.length
    rw [F1.len _ _ _ _ hq] at e
    exact e.symm
  have hus : us.length ≤ sizeLine := by
    rw [← Paired.length r1, sizeLine_eq]
    omega
  refine wpAny_call (PySem.HandSPX.call_own F.excBase_ValueError (fun Y => PySem.HandSPX.refsVE_contains Y bm hbm) (I1.kIn _ _ hC) (PySem.W.looks_findIn I1.kIn iC) (fun self => PySem.W.bind_fn I1.kIn self tI) hus
    (codeAny_mono (F1.run _ X.stack _ _ ⟨Value.ref (hp.objs.size + 1) :: us, []⟩ (Value.ref (hp.objs.size + 1) :: (us ++ [])) _ _ (fun _ _ _ => False) (hr.make C us []) (I2.env0.make C us []) (by have q := hb _ (Value.ref (hp.objs.size + 1) :: us) I2.kIn hl; rw [List.cons_append] at q; exact q) r2 hq) fun r s' hq' => ?_))
  cases r with
  | error er => exact hx pins σ _ _ er s' I2 hq'
  | ok fl =>
    cases fl with
    | ret u =>
      obtain ⟨v, H2, os2, bare2, un2, hok2, rv, ev, d, fs, ea, ed, hd1, q2⟩ := hq'
      subst ev
      obtain ⟨h2, g2, d2, t2, os'⟩ := s'
      exact ⟨rv, mk_endN (raises_own T.exC T.tyC) I1 hsz kk un2 hok2 os2 bare2 ea ed hd1 q2⟩
    | next => exact False.elim hq'
    | brk => exact False.elim hq'
    | cont => exact False.elim hq'
theorem ps_rse {X : Cx} {Wx : WX} {x : Str} {C : Addr} {e : Expr} {te : TE} {p pos pos2 : Pos} (E : ExK X.prog X.w X.K X.mg X.base x C) (hc : X.calm = true) (hr : Room 2 X.A) (tk : L2N.Takes X Wx) (hg : Gl X x) (he : PE X e te)
    (hdb : (x == ("__debug__" : Str)) = false) (hs : starEach [e] X.env = [(false, eval e X.env)]) : PS X (.Raise (some (.Call (.Name x p) [e] [] pos)) none pos2) (fun _ σ H => tMkO C (spInit X.K) [] (tCons te tNil) σ H fun cls d H' => Wx cls d σ H') := by
  obtain ⟨fI, fd, h1, h2, h3, h4⟩ := E.ini
  exact L2N.ps_raise (pos := pos2) hc tk (pmkN (p := p) (pos := pos) E.oex h1 h2 h4 hr h3 (fun _ _ _ _ _ _ _ z => z.elim) hg E.g (pa_cons he pa_nil hs) hdb hs rfl)
section
variable {Z : St0} {Wx : WX} {Γ : Gam} {k : Calls} {σ : L2.St} {H : Hp}
theorem w_rse {P : Program} {w : World} {mg : Str → Option Value} {base : Heap} {x : Str} {c : Nat} {e : E} {wf : Nat} {D : Ends} (E : ExK P w Z.K mg base x (Z.cl c)) (t : TSv Z Wx (exS Γ wf k (.rse c e)) D σ H) :
    tMkO (Z.cl c) (spInit Z.K) [] (tCons (TEv Z Wx (evE Γ k e)) tNil) σ H fun cls d H' => Wx cls d σ H' := by
  obtain ⟨m, ρ, h, rfl, wρ, R, t⟩ := t
  unfold exS at t
  refine ⟨m, ρ, h, rfl, wρ, R, (t.lft wρ).mono fun m1 H1 v h1 e1 R1 q wv => ?_⟩
  refine ⟨Nat.le_of_ble_eq_true rfl, fun a ha => ⟨a, Z.cl c, _, rfl, E.oex, E.no, upd_same, fun dx hdx ne => ⟨rfl, dx, [(wht, tv Z.cl m1 v)], upd_same, by rw [upd_ne ne, upd_same], ?_, ?_⟩⟩⟩
  · rw [upd_ne ne] at hdx; exact hdx
  · rw [del_end ha ne]
    have hd : H1 dx = none := by rw [upd_ne ne] at hdx; exact hdx
    have q := q m1 (upd H1 dx (.xd [(wht, tv Z.cl m1 v)])) dx .refl (R1.same fun b u hb => by rw [upd_ne (fun z => by rw [z, hd] at hb; cases hb)]; exact hb) wv (wρ.mono e1.le) upd_same
    rw [e1.env wρ] at q
    exact q
/-! ### try .. except C as e -/
theorem ObR.px {Z Z' : St0} {m : Plc} {H : Hp} {a : Addr} (hc : Z'.cl = Z.cl) (hK : Z'.K = Z.K) : ∀ {o : Ob}, (∀ c w, o ≠ .exc c w) → ObR Z m H a o → ObR Z' m H a o
  | .lst _, _, r => by show _ = _; rw [hc]; exact r
  | .tup _, _, r => by show _ = _; rw [hc]; exact r
  | .frl _, _, r => by show Frl _ _ _ _; rw [hc, hK]; exact r
  | .dct _, _, r => by show _ = _; rw [hc]; exact r
  | .ins _ _, _, r => by obtain ⟨dx, r⟩ := r; exact ⟨dx, by rw [hc]; exact r⟩
  | .exc c w, n, _ => absurd rfl (n c w)
  | .dead, _, _ => trivial
theorem RelH.hot {m : Plc} {h : Hq} {H : Hp} (hz : Z.px = none) (R : RelH Z m h H) (p : Addr × Obj) : RelH { Z with px := some p } m h H :=
  ⟨fun i o e => ObR.px (Z := Z) (Z' := { Z with px := some p }) rfl rfl (fun c w z => (by
    subst z
    obtain ⟨oe, d, h1, _⟩ := R.ob i _ e
    rw [hz] at h1
    cases h1)) (R.ob i o e), R.inj, R.wf⟩
theorem killX_mut {o : Ob} : isMut (killX o) = isMut o := by cases o <;> rfl
theorem wfO_kill {n : Nat} {o : Ob} (h : wfO n o) : wfO n (killX o) := by cases o <;> first | exact h | trivial
theorem RelH.calm {m : Plc} {h : Hq} {H : Hp} {p : Addr × Obj} (R : RelH { Z with px := some p } m h H) : RelH Z m (h.map killX) H := by
  have get : ∀ (i : Nat) (o : Ob), (h.map killX)[i]? = some o → ∃ u, h[i]? = some u ∧ o = killX u := fun i o e => by
    rw [List.getElem?_map] at e
    cases hu : h[i]? with
    | none => rw [hu] at e; cases e
    | some u => rw [hu] at e; exact ⟨u, rfl, (Option.some.inj e).symm⟩
  refine ⟨fun i o e => ?_, fun i j o u e1 e2 h1 h2 he => ?_, fun i o e => ?_⟩
  · obtain ⟨u, hu, rfl⟩ := get i o e
    have r := R.ob i u hu
    cases u with
    | exc c w => trivial
    | lst xs => exact r.px rfl rfl fun _ _ z => nomatch z
    | tup xs => exact r.px rfl rfl fun _ _ z => nomatch z
    | frl xs => exact r.px rfl rfl fun _ _ z => nomatch z
    | dct xs => exact r.px rfl rfl fun _ _ z => nomatch z
    | ins c xs => exact r.px rfl rfl fun _ _ z => nomatch z
    | dead => trivial
  · obtain ⟨o', e1', rfl⟩ := get i o e1
    obtain ⟨u', e2', rfl⟩ := get j u e2
    rw [killX_mut] at h1 h2
    exact R.inj i j o' u' e1' e2' h1 h2 he
  · obtain ⟨u, hu, rfl⟩ := get i o e
    rw [List.length_map]
    exact wfO_kill (R.wf i u hu)
def tsX (Z : St0) (Γ : Gam) (wf : Nat) (k : Calls) (hb : Ss) : Addr → Value → Option Addr → TS := fun a cls d D σ H => ∀ oe, L2N.Zn cls d oe → (∃ vs, oe.data = .fields vs) → TSv { Z with px := some (a, oe) } wN (exSs Γ wf k hb) D σ H
theorem w_try {b hb : Ss} {c i : Nat} {wf : Nat} {D : Ends} (hz : Z.px = none) (exm : ∀ c', Γ.hc c' = true → Γ.exc c' = true → PySem.W.exmOne Z.K (.ref (Z.cl c')) (.ref (Z.cl c)) = some (Γ.sub c' c))
    (t : TSv Z Wx (exS Γ wf k (.try b c i hb)) D σ H) : TSv Z (wAs Z.K (.ref (Z.cl c)) i (tsX Z Γ wf k hb) Wx D) (exSs Γ wf k b) D σ H := by
  obtain ⟨m, ρ, h, rfl, wρ, R, t⟩ := t
  unfold exS at t
  refine ⟨m, ρ, h, rfl, wρ, R, ?_⟩
  cases hr : exSs Γ wf k b ρ h with
  | none => rw [hr] at t; exact t
  | some r =>
    obtain ⟨f, h1⟩ := r
    rw [hr] at t
    cases f with
    | nx ρ1 => exact t
    | ret v => exact t
    | brk ρ1 => exact t
    | ct ρ1 => exact t
    | exc c' w ρ1 =>
      dsimp only at t
      split at t
      · rename_i hg
        obtain ⟨g1, g2⟩ := Bool.and_eq_true_iff.mp hg
        intro m' H' d e R' wx w1 hd
        refine ⟨Γ.sub c' c, exm c' g1 g2, fun hs a ha oe zn hf => ?_, fun hs => ?_⟩
        · rw [if_pos hs] at t
          obtain ⟨m2, E2, ea, R2⟩ := (R'.hot hz (a, oe)).push (H' := H') (o := .exc c' w) ha (fun b hb => rfl) (fun m'' e'' _ => ⟨oe, d, rfl, zn.1, zn.2.1, by rw [e''.tv wx]; exact hd⟩) (wx.mono (Nat.le_succ _))
          have llt : h1.length < (h1 ++ [Ob.exc c' w]).length := by rw [List.length_append]; exact Nat.lt_succ_self _
          have eσ : (envV Z.cl m' ρ1).set i (some (.ref a)) = envV Z.cl m2 (ρ1.set i (some (.ref h1.length))) := by
            rw [envV_set, E2.env w1]
            show _ = (envV Z.cl m' ρ1).set i (some (.ref (m2 h1.length)))
            rw [ea]
          rw [eσ]
          refine ⟨m2, _, _, rfl, (w1.mono E2.le).set llt, R2, ?_⟩
          cases hh : exSs Γ wf k hb (ρ1.set i (some (.ref h1.length))) (h1 ++ [.exc c' w]) with
          | none => rw [hh] at t; exact t.none'
          | some r =>
            obtain ⟨f, h3⟩ := r
            rw [hh] at t
            cases f with
            | nx ρ3 =>
              intro m3 H3 e3 R3 w3
              have q := t m3 H3 ((e.trans E2).trans ⟨by rw [List.length_map]; exact e3.le, e3.eq⟩) R3.calm (by rw [List.length_map]; exact w3.setN)
              rw [envV_setN] at q
              exact q
            | ret v =>
              intro m3 H3 e3 R3 w3
              exact t m3 H3 ((e.trans E2).trans ⟨by rw [List.length_map]; exact e3.le, e3.eq⟩) R3.calm (by rw [List.length_map]; exact w3)
            | brk ρ3 => exact t.none'
            | ct ρ3 => exact t.none'
            | exc c3 w3 ρ3 => exact t.none'
        · rw [if_neg (by rw [hs]; exact Bool.false_ne_true)] at t
          exact t m' H' d e R' wx w1 hd
      · exact t.none'
/-! ### e.what, e the handled exception -/
/-- what the class says, so that its instances' what is read rightly -/
structure ExcA (K : PySem.W.Frag) (C : Addr) : Prop where
  ga : PySem.W.findIn K (.ref C) "__getattribute__" = some (some (.builtin "BaseException.__getattribute__"))
  gg : PySem.W.findIn K (.ref C) "__getattr__" = some none
  no : PySem.W.findIn K (.ref C) wht = some none
  ex : PySem.W.subIn K (.ref C) (.type "BaseException") = some true
  hd : PySem.W.hasDictIn K C = true
def tWhat (Z : St0) (te : TE) : TE := fun σ H Q => te σ H fun x H1 => ∃ (a : Addr) (oe : Obj) (C d : Addr) (y : V), Z.px = some (a, oe) ∧ x = .ref a ∧ oe.cls = .ref C ∧ oe.dict = some d ∧ H1 d = some (.xd [(wht, y)]) ∧ ExcA Z.K C ∧ Q y H1
theorem pe_what {X : Cx} {e : Expr} {te : TE} {pos : Pos} (hK : X.K = Z.K) (px : PxOk X Z) (he : PE X e te) (hb : attributeBase e wht X.env (eval e X.env) = eval e X.env) : PE X (.Attribute e wht pos) (tWhat Z te) := by
  refine ⟨fun pins s σ H Q I h => ?_⟩
  refine attr_of hb (thn (he.run pins s σ H _ I h) fun u s1 hh => ?_)
  obtain ⟨x, H1, I1, rx, a, oe, C, d, y, hp, ex, ec, ed, ea, T, q⟩ := hh
  subst ex
  obtain rfl : u = Value.ref a := rx
  obtain ⟨hm, vs, hd⟩ := px a oe hp
  obtain ⟨hget, _⟩ := I1.pin (a, oe) (List.mem_append_left _ hm)
  have hx : ObjOk X.prog X.w H1 s1.heap d (.xd [(wht, y)]) := I1.hok d _ ea
  obtain ⟨mA, hns, hr⟩ := hx
  obtain ⟨od, ho, hl⟩ := lookIn_ns hns
  have l : List.lookup wht [(wht, y)] = some y := by simp [List.lookup]
  obtain ⟨u, hu, ru⟩ := RelO.some_of (v := y) (o := mA wht) (by rw [← l]; exact hr wht)
  have J : PySem.W.InstAt s1.heap a oe C (some od) := ⟨hget, ec, by unfold PySem.W.notCls; rw [hd] <;> rfl, by rw [ed]; exact ho⟩
  rw [← hK] at T
  exact HandSPX.exc_get I1.kIn J T.ga T.gg T.ex (PySem.W.findObj_own T.hd T.no rfl (by rw [hl, hu])) (handed_of ru) ⟨y, H1, I1.tok _, ru, q⟩
theorem w_what (F : ∀ c, Γ.hc c = true → Γ.exc c = true → ExcA Z.K (Z.cl c)) {f : Str} {o : E} {Q : VK} (t : TEv Z Wx (evE Γ k (.attr f o)) σ H Q) : tWhat Z (TEv Z Wx (evE Γ k o)) σ H Q := by
  obtain ⟨m, ρ, h, rfl, wρ, R, t⟩ := t
  unfold evE at t
  refine TEv.bnd (f := fun x _ h => attrV Γ f x h) wρ R t fun m1 H1 v h1 e1 R1 wv w1 ee t1 => ?_
  cases v with
  | ref a =>
    unfold attrV at t1
    dsimp only at t1
    split at t1
    · rename_i c w he
      split at t1
      · rename_i hg
        obtain ⟨g1, g2⟩ := Bool.and_eq_true_iff.mp hg
        obtain ⟨oe, d, h1, h2, h3, h4⟩ := R1.ob a _ he
        exact ⟨m1 a, oe, Z.cl c, d, tv Z.cl m1 w, h1, rfl, h2, h3, h4, F c g1 g2, t1.of_ret R1 (R1.wf a _ he)⟩
      · exact t1.none'
    · exact t1.none'
  | _ => exact t1.none'
end
end Mp
set_option Elab.async false
set_option linter.all false
set_option maxRecDepth 100000
set_option maxHeartbeats 1000000
/-! Mp K: defs that are called where an exception is handled: what they promise tells which one it is. -/
namespace Mp
open PySem PySem.Spec PyProof.Rows L2
/-- sp p: the promise where the handled exception is p -/
structure FnX (P : Program) (w : World) (K : PySem.W.Frag) (mg : Str → Option Value) (base : Heap) (CX : CXT) (k : Nat) (f : Addr) (fd : FuncData) (ps : List Str) (sp : Addr × Obj → Sp) : Prop where
  len : ∀ p vs H Q E, sp p vs H Q E → vs.length = ps.length
  go : ∀ (p : Addr × Obj) (A : Around) (fr : List PySem.Env) (s : Shared) (H : Hp) (args : Args) (us : List Value) (vs : List V) (Q : VK) (E : XK), L2H.Hot1 A p → L2H.RoomH k A → L2H.PinOk fr H s p → Env0 P w K mg base A fr s H → Vals vs us → BindsTo s fd args (ps.zip us) →
    sp p vs H Q E → codeAny (model P w) A (.call (.ref f) args) (CR CX fr P w H s Q E) s
theorem fnX_of {CX : CXT} {P : Program} {w : World} {K : PySem.W.Frag} {mg : Str → Option Value} {base : Heap} {k : Nat} {x qual : Str} {params : Arguments} {body : List Stmt} {scope : Scope} {dvs : List V} {kws : List (Str × V)} {f : Addr} {fd : FuncData} {N ps : List Str} {sp : Addr × Obj → Sp}
    (F : FunD K x qual params body scope dvs kws f fd) (S : FnScope N ps scope) (len : ∀ p vs H Q E, sp p vs H Q E → vs.length = ps.length)
    (hb : ∀ (p : Addr × Obj) (cdv : Value) (A : Around) (fr : List PySem.Env) (s : Shared) (H : Hp) (vs : List V) (Q : VK) (E : XK), L2H.Hot1 A p → L2H.RoomH k (A.deeper (envOfC qual scope s.heap.objs.size f cdv)) → sp p vs H Q E →
      ∃ t, PSs (L2H.cxH CX P w K mg base N qual scope f cdv A fr s H E p) body t ∧ t { nx := fun _ H' => Q .non H', rt := Q } (L2.start N vs) H) : FnX P w K mg base CX (k + 1) f fd ps sp := by
  refine ⟨len, fun p A fr s H args us vs Q E hot rm pin e0 rv bt q => ?_⟩
  obtain ⟨oc, od, dV, kV, doc, pm, an, cdv, ct, osl, rfl, lk, hcd, _, _⟩ := F.ex
  have kin : K.In s.heap := e0.mod.kin.keeps fun b o z => (e0.bs b o z).1
  have nolim : s.heap.NoLimit := e0.mod.nolimit.keeps fun b o z => (e0.bs b o z).1
  refine codeAny_call_function rm.depth (kin _ _ lk) rfl S.co S.gen rfl (PySem.W.codeRec_of kin hcd) (bt _ _ _ _ (wpAny_newFunctionEnv_cells S.kind (fun ⟨n, v⟩ hn => ?_) fun env he s1 x => ?_))
  · exact (S.par n (List.of_mem_zip hn).1).imp id fun c => ⟨c, PySem.W.cellsFrom_some _ _ _ (.inl c)⟩
  subst he
  obtain ⟨t, ht, qt⟩ := hb p cdv A fr s H vs Q E hot (rm.deeper _) q
  have I := L2H.inv_startH (CX := CX) (E := E) S pin e0 (len _ _ _ _ _ q) rv x
  refine ⟨nolim.keeps x.toInCall.keep, codeAny_func (wpAny_mono (ht.run [] s1 _ H _ I qt) (fun fl s2 hs => ?_) fun _ _ z => z)⟩
  match fl, hs with
  | .ret u, ⟨v, σ2, H2, J, ru, z⟩ => exact ⟨v, H2, J.os, J.bare, J.base, J.hok, ru, z⟩
  | .next, ⟨σ2, H2, J, z⟩ => exact ⟨.non, H2, J.os, J.bare, J.base, J.hok, rfl, z⟩
  | .brk, ⟨_, _, _, z⟩ => exact z.elim
  | .cont, ⟨_, _, _, z⟩ => exact z.elim
theorem pe_callX {X : Cx} {CX : CXT} {k : Nat} {f : Addr} {fd : FuncData} {ps : List Str} {sp : Addr × Obj → Sp} {E : L2.St → XK} {x : Str} {q pos : Pos} {e : Expr} {es : List Expr} {t : TA} {p : Addr × Obj}
    (F : FnX X.prog X.w X.K X.mg X.base CX k f fd ps sp) (rm : L2H.RoomH k X.A) (hot : L2H.Hot1 X.A p) (hp : p ∈ X.pn) (hg : Gl X x) (hm : X.mg x = some (.ref f)) (hk : PySem.W.keepIn X.K (.ref f) = true) (hb : Binds X.K fd ps []) (hx : ∀ σ, PassesAt CX X σ (E σ))
    (ha : PA X (e :: es) t) (hdb : (x == ("__debug__" : Str)) = false) (he : starEach (e :: es) X.env = (false, eval e X.env) :: starEach es X.env) (hpl : (backTo pos (starEach es X.env)).any (·.1) = false) :
    PE X (.Call (.Name x q) (e :: es) [] pos) (tCallS (sp p) E t) := by
  constructor
  intro pins s σ H Q I h
  refine wpAny_Call_Name_kw (ld_glob I hg hm (PySem.W.callWith_K (h₀ := X.base) I.ok.mod.kin hk (thn (ha.run pos pins s σ H _ I h) fun us s1 z => ?_) he hpl) hdb)
  obtain ⟨vs, H1, I1, rv, z⟩ := z
  refine ⟨I1.kIn, ?_⟩
  have hl : (us ++ []).length = ps.length := by rw [List.append_nil, ← rv.length]; exact F.len _ _ _ _ _ z
  have b := hb s1 us I1.kIn hl
  rw [List.append_nil] at b
  obtain ⟨g1, g2, g3, g4, g5⟩ := I1.pin p (List.mem_append_left _ hp)
  have pin : L2H.PinOk X.stack H1 s1 p := ⟨g1, g2, fun hm => (List.mem_cons.mp (I1.stkSub p.1 hm)).elim g3 g4, g5⟩
  refine wpAny_call (codeAny_mono (F.go p X.A X.stack s1 H1 ⟨us, []⟩ us vs Q (E σ) hot rm pin I1.env0 rv b z) fun r s' hq => ?_)
  match r, hq with
  | .error e, hq => exact hx σ pins H1 s1 e s' I1 hq
  | .ok (.ret u), hq => exact I1.after hq
  | .ok .next, hq => exact hq.elim
  | .ok .brk, hq => exact hq.elim
  | .ok .cont, hq => exact hq.elim
end Mp
set_option Elab.async false
set_option linter.all false
set_option maxRecDepth 100000
set_option maxHeartbeats 1000000
/-! Mp L: does the own text say what the program's text says? A check by a Bool, and what follows of it. -/
namespace Mp
open PySem PySem.Spec PyProof.Rows L2
/-- the names of the program: defs, classes, top values; the defs that are called where an exception is handled; the built-in names that stay free -/
structure Nm where
  fns : List (Nat × Str)
  cls : List (Nat × Str)
  gls : List (Nat × Str)
  fhot : List Nat
  free : List Str
/-- where we stand: slots' names, scope, the names whose cells are the frame's own, is an exception handled -/
structure Ck where
  N : List Str
  sc : Scope
  own : Str → Bool
  hot : Bool
def nd (x : Str) : Bool := !(x == ("__debug__" : Str)) && (!(x == ("__classdict__" : Str)) && decide (x ≠ ("__name__" : Str)))
def visB (sc : Scope) (x : Str) : Bool := match sc.names.lookup x with
  | some .local => true | some .cell => true | some .free => true | _ => false
def locB (c : Ck) (x : Str) : Bool := match c.sc.names.lookup x with
  | some .local => true | some .cell => c.own x | _ => false
def glB (c : Ck) (x : Str) : Bool := decide (c.sc.names.lookup x = some .globalImplicit) && nd x
/-- a name of a built-in, not shadowed -/
def frB (m : Nm) (c : Ck) (x : Str) : Bool := m.free.contains x && glB c x
def star0 : Expr → Bool
  | .Starred _ _ => false
  | _ => true
def base0 : Expr → Bool
  | .Call _ [] [] _ => false
  | _ => true
def comp0 : Expr → Bool
  | .ListComp _ _ _ _ => false | .SetComp _ _ _ _ => false | .DictComp _ _ _ _ _ => false
  | _ => true
def set0 : Expr → Bool
  | .Set _ _ _ => false
  | _ => true
def tup0 : Expr → Bool
  | .Tuple _ _ _ => false
  | _ => true
def slc0 : Expr → Bool
  | .Slice _ _ _ _ => false
  | _ => true
def cstB : W → Const → Bool
  | .non, .none => true
  | .bl b, .bool k => b == k
  | .int i, .int j => decide (i = j)
  | .str x, .str y => decide (x = y)
  | _, _ => false
def tyNames : List String := ["int", "str", "bool", "list", "tuple", "dict", "ValueError"]
/-- a comprehension's block, y its variable -/
def blkB (N : List Str) (sc scope : Scope) (y : Str) : Bool :=
  decide (scope.kind = .function) && (scope.names.all fun z => decide (scope.names.lookup z.1 = some z.2) &&
    ((match z.2 with | .free => (match sc.names.lookup z.1 with | some .cell => true | some .free => true | _ => false) | _ => true) &&
     (match z.2 with | .local => z.1 == y || !N.contains z.1 | .cell => z.1 == y || !N.contains z.1 | _ => true)))
def inC (c : Ck) (scope : Scope) : Ck := { c with sc := relS scope c.sc, own := fun x => scope.names.lookup x == some .cell }
mutual
def chkE (m : Nm) : E → Ck → Expr → Bool
  | .var i, c, ex => (match ex with
    | .Name x _ => decide (c.N[i]? = some x) && (visB c.sc x && nd x)
    | _ => false)
  | .cst w, _, ex => (match ex with
    | .Constant k _ _ => cstB w k
    | _ => false)
  | .glob g, c, ex => (match ex with
    | .Name x _ => decide (m.gls.lookup g = some x) && glB c x
    | _ => false)
  | .ty n, c, ex => (match ex with
    | .Name x _ => decide (x = Str.ofString n) && (tyNames.contains n && frB m c x)
    | _ => false)
  | .cls k, c, ex => (match ex with
    | .Name x _ => decide (m.cls.lookup k = some x) && glB c x
    | _ => false)
  | .bin o a b, c, ex => (match ex with
    | .BinOp a' op b' _ => decide (opOf o = op) && (chkE m a c a' && chkE m b c b')
    | _ => false)
  | .neg a, c, ex => (match ex with
    | .UnaryOp .USub a' _ => chkE m a c a'
    | _ => false)
  | .cmp o a b, c, ex => (match ex with
    | .Compare a' [op] [b'] _ => decide (copOf o = op) && (set0 b' && (chkE m a c a' && chkE m b c b'))
    | _ => false)
  | .isN s a, c, ex => (match ex with
    | .Compare a' [op] [.Constant .none _ _] _ => decide ((if s then CmpOp.Is else CmpOp.IsNot) = op) && chkE m a c a'
    | _ => false)
  | .chn o p a b d, c, ex => (match ex with
    | .Compare a' [op, op'] [b', d'] _ => decide (copOf o = op) && (decide (copOf p = op') && (set0 d' && (chkE m a c a' && (chkE m b c b' && chkE m d c d'))))
    | _ => false)
  | .not a, c, ex => (match ex with
    | .UnaryOp .Not a' _ => chkE m a c a'
    | _ => false)
  | .and a b, c, ex => (match ex with
    | .BoolOp .And (a' :: [b']) _ => chkE m a c a' && chkE m b c b'
    | .BoolOp .And (a' :: b' :: d' :: r) pos => chkE m a c a' && chkE m b c (.BoolOp .And (b' :: d' :: r) pos)
    | _ => false)
  | .or a b, c, ex => (match ex with
    | .BoolOp .Or (a' :: [b']) _ => chkE m a c a' && chkE m b c b'
    | .BoolOp .Or (a' :: b' :: d' :: r) pos => chkE m a c a' && chkE m b c (.BoolOp .Or (b' :: d' :: r) pos)
    | _ => false)
  | .ite t a b, c, ex => (match ex with
    | .IfExp t' a' b' _ => chkT m t c t' && (chkE m a c a' && chkE m b c b')
    | _ => false)
  | .call f es, c, ex => (match ex with
    | .Call (.Name x _) (e' :: es') [] _ => decide (m.fns.lookup f = some x) && (glB c x && ((!c.hot || m.fhot.contains f) && chkEs m es c (e' :: es')))
    | _ => false)
  | .fn b es, c, ex => (match ex with
    | .Call (.Name x _) (e' :: es') [] _ => decide (x = fnName b) && (frB m c x && ((!c.hot || fnHot b) && chkEs m es c (e' :: es')))
    | _ => false)
  | .mth mt o es, c, ex => (match ex with
    | .Call (.Attribute o' n apos) [] [] cpos => (match es with
      | .nil => decide (n = mName mt) && (base0 o' && ((apos.endLine == cpos.line) && chkE m o c o'))
      | _ => false)
    | .Call (.Attribute o' n apos) [e'] [] cpos => decide (n = mName mt) && (base0 o' && ((apos.endLine == cpos.line) && (chkE m o c o' && chkEs m es c [e'])))
    | _ => false)
  | .attr f o, c, ex => (match ex with
    | .Attribute o' f' _ => decide (f = wht) && (decide (f' = wht) && (base0 o' && chkE m o c o'))
    | _ => false)
  | .lrg a, c, ex => (match ex with
    | .Call (.Name x _) [.Call (.Name y _) [a'] [] _] [] _ => !c.hot && (decide (x = ("list" : Str)) && (decide (y = ("range" : Str)) && (frB m c x && (frB m c y && chkE m a c a'))))
    | _ => false)
  | .lrg2 _ _, _, _ => false
  | .ix a i, c, ex => (match ex with
    | .Subscript a' i' _ => slc0 i' && (chkE m a c a' && chkE m i c i')
    | _ => false)
  | .cut a lo hi, c, ex => (match ex with
    | .Subscript a' (.Slice lo' hi' none _) _ => chkE m a c a' && (chkO m lo c lo' && chkO m hi c hi')
    | _ => false)
  | .tup es, c, ex => (match ex with
    | .Tuple es' _ _ => chkEs m es c es'
    | _ => false)
  | .lst es, c, ex => (match ex with
    | .List es' _ => chkEs m es c es'
    | _ => false)
  | .comp x s t el, c, ex => (match ex with
    | .ListComp el' [⟨.Name y _, it, ifs, 0⟩] scope _ => decide (c.N[x]? = some y) && (blkB c.N c.sc scope y && (locB (inC c scope) y && (set0 it && (chkSrc m s c it && ((match t with
        | .no => ifs.isEmpty
        | .yes t' => (match ifs with
          | [i'] => chkT m t' (inC c scope) i'
          | _ => false)) && chkE m el (inC c scope) el')))))
    | _ => false)
def chkT (m : Nm) : E → Ck → Expr → Bool
  | .not a, c, ex => (match ex with
    | .UnaryOp .Not a' _ => chkT m a c a'
    | _ => false)
  | .and a b, c, ex => (match ex with
    | .BoolOp .And (a' :: [b']) _ => chkT m a c a' && chkT m b c b'
    | .BoolOp .And (a' :: b' :: d' :: r) pos => chkT m a c a' && chkT m b c (.BoolOp .And (b' :: d' :: r) pos)
    | _ => false)
  | .or a b, c, ex => (match ex with
    | .BoolOp .Or (a' :: [b']) _ => chkT m a c a' && chkT m b c b'
    | .BoolOp .Or (a' :: b' :: d' :: r) pos => chkT m a c a' && chkT m b c (.BoolOp .Or (b' :: d' :: r) pos)
    | _ => false)
  | .cmp o a b, c, ex => (match ex with
    | .Compare a' [op] [b'] _ => decide (copOf o = op) && (set0 b' && (chkE m a c a' && chkE m b c b'))
    | _ => false)
  | .isN s a, c, ex => (match ex with
    | .Compare a' [op] [.Constant .none _ _] _ => decide ((if s then CmpOp.Is else CmpOp.IsNot) = op) && chkE m a c a'
    | _ => false)
  | .chn o p a b d, c, ex => (match ex with
    | .Compare a' [op, op'] [b', d'] _ => decide (copOf o = op) && (decide (copOf p = op') && (set0 d' && (chkE m a c a' && (chkE m b c b' && chkE m d c d'))))
    | _ => false)
  | .var i, c, ex => (match ex with
    | .Name x _ => decide (c.N[i]? = some x) && (visB c.sc x && nd x)
    | _ => false)
  | .call f es, c, ex => (match ex with
    | .Call (.Name x _) (e' :: es') [] _ => decide (m.fns.lookup f = some x) && (glB c x && ((!c.hot || m.fhot.contains f) && chkEs m es c (e' :: es')))
    | _ => false)
  | .fn b es, c, ex => (match ex with
    | .Call (.Name x _) (e' :: es') [] _ => decide (x = fnName b) && (frB m c x && ((!c.hot || fnHot b) && chkEs m es c (e' :: es')))
    | _ => false)
  | .ix a i, c, ex => (match ex with
    | .Subscript a' i' _ => slc0 i' && (chkE m a c a' && chkE m i c i')
    | _ => false)
  | _, _, _ => false
def chkEs (m : Nm) : Es → Ck → List Expr → Bool
  | .nil, _, l => l.isEmpty
  | .cons e es, c, l => (match l with
    | e' :: es' => star0 e' && (chkE m e c e' && chkEs m es c es')
    | [] => false)
def chkO (m : Nm) : Op → Ck → Option Expr → Bool
  | .no, _, o => o.isNone
  | .yes e, c, o => (match o with
    | some e' => chkE m e c e'
    | none => false)
def chkSrc (m : Nm) : Src → Ck → Expr → Bool
  | .any e, c, ex => !c.hot && chkE m e c ex
  | .rng a, c, ex => (match ex with
    | .Call (.Name y _) [a'] [] _ => decide (y = ("range" : Str)) && (frB m c y && (star0 a' && chkE m a c a'))
    | _ => false)
  | .rng2 a b, c, ex => (match ex with
    | .Call (.Name y _) [a', b'] [] _ => decide (y = ("range" : Str)) && (frB m c y && (star0 a' && (star0 b' && (chkE m a c a' && chkE m b c b'))))
    | _ => false)
end
end Mp
set_option Elab.async false
set_option linter.all false
set_option maxRecDepth 100000
set_option maxHeartbeats 1000000
/-! Mp M: the check is sound, expressions. -/
namespace Mp
open PySem PySem.Spec PyProof.Rows L2
/-- what the layer below gives: the defs of level k, the names -/
structure Env1 (m : Nm) (Γ : Gam) (k : Calls) (lv : Nat) (P : Program) (w : World) (K : PySem.W.Frag) (mg : Str → Option Value) (base : Heap) (cl : Plc) : Prop where
  fn : ∀ (f : Nat) (x : Str), m.fns.lookup f = some x → ∃ (ar : Nat) (fa : Addr) (fd : FuncData) (ps : List Str), mg x = some (.ref fa) ∧ PySem.W.keepIn K (.ref fa) = true ∧ Binds K fd ps [] ∧ (∀ us h, us.length ≠ ar → k f us h = none) ∧
    FnOk P w K mg base (L2N.CX P w) lv fa fd ps (spE ⟨cl, K, none⟩ k ar f) ∧ (m.fhot.contains f = true → FnX P w K mg base (L2N.CX P w) lv fa fd ps fun p => spE ⟨cl, K, some p⟩ k ar f)
  gl : ∀ (g : Nat) (x : Str), m.gls.lookup g = some x → ∃ (v : W) (u : Value) (y : V), Γ.glob g = some v ∧ (∀ p, tv cl p v = y) ∧ (∀ n, wfW n v) ∧ mg x = some u ∧ RelV y u
  cls : ∀ (c : Nat) (x : Str), m.cls.lookup c = some x → mg x = some (.ref (cl c))
  free : ∀ x, m.free.contains x = true → mg x = none
  F : ∀ px, ClsF Γ ⟨cl, K, px⟩
  rse : ∀ (c : Nat) (x : Str), m.cls.lookup c = some x → Γ.hc c = true → Γ.exc c = true → ExK P w K mg base x (cl c)
  what : ∀ c, Γ.hc c = true → Γ.exc c = true → ExcA K (cl c)
  exm : ∀ c d, Γ.hc c = true → Γ.exc c = true → Γ.hc d = true → Γ.exc d = true → PySem.W.exmOne K (.ref (cl c)) (.ref (cl d)) = some (Γ.sub c d)
structure GoodE (m : Nm) (Γ : Gam) (k : Calls) (lv : Nat) (Z : St0) (Wx : WX) (X : Cx) (c : Ck) : Prop where
  hN : X.N = c.N
  nod : c.N.Nodup
  sc : X.env.scope = c.sc
  own : ∀ x, c.own x = true → X.fn x = true
  K : X.K = Z.K
  tk : L2N.Takes X Wx
  calm : c.hot = false → X.calm = true ∧ Room lv X.A ∧ Z.px = none
  hot : c.hot = true → L2H.RoomH lv X.A ∧ ∃ p, Z.px = some p ∧ L2H.Hot1 X.A p ∧ p ∈ X.pn ∧ ∃ vs, p.2.data = .fields vs
  env : Env1 m Γ k lv X.prog X.w X.K X.mg X.base Z.cl
section
variable {m : Nm} {Γ : Gam} {k : Calls} {lv : Nat} {Z : St0} {Wx : WX} {X : Cx} {c : Ck}
theorem nd_of {x : Str} (h : nd x = true) : (x == ("__debug__" : Str)) = false ∧ (x == ("__classdict__" : Str)) = false ∧ x ≠ ("__name__" : Str) := by
  unfold nd at h
  simp only [Bool.and_eq_true, Bool.not_eq_true', decide_eq_true_eq] at h
  exact ⟨h.1, h.2.1, h.2.2⟩
theorem vis_of {sc : Scope} {x : Str} (h : visB sc x = true) : Vis sc x := by
  unfold visB at h
  unfold Vis
  split at h <;> first | (rename_i e; rw [e]; simp; done) | cases h
theorem loc_of (G : GoodE m Γ k lv Z Wx X c) {x : Str} (h : locB c x = true) : L2.Loc X.env.scope x ∧ (X.fn x = true ∨ X.env.scope.names.lookup x = some .local) := by
  rw [G.sc]
  unfold locB at h
  unfold L2.Loc
  split at h
  · rename_i e; exact ⟨.inl e, .inr e⟩
  · rename_i e; exact ⟨.inr e, .inl (G.own x h)⟩
  · cases h
theorem gl_of (G : GoodE m Γ k lv Z Wx X c) {x : Str} (h : glB c x = true) : Gl X x ∧ nd x = true := by
  obtain ⟨a, b⟩ := Bool.and_eq_true_iff.mp h
  refine ⟨?_, b⟩
  show X.env.scope.names.lookup x = _
  rw [G.sc]
  exact of_decide_eq_true a
theorem fr_of (G : GoodE m Γ k lv Z Wx X c) {x : Str} (h : frB m c x = true) : Gl X x ∧ nd x = true ∧ X.mg x = none := by
  obtain ⟨a, b⟩ := Bool.and_eq_true_iff.mp h
  exact ⟨(gl_of G b).1, (gl_of G b).2, G.env.free x a⟩
theorem slot_of (G : GoodE m Γ k lv Z Wx X c) {i : Nat} {x : Str} (h : c.N[i]? = some x) : X.N[i]? = some x := by rw [G.hN]; exact h
theorem starE {e : Expr} {es : List Expr} {env : PySem.Env} (h : star0 e = true) : starEach (e :: es) env = (false, eval e env) :: starEach es env := by cases e <;> first | rfl | cases h
theorem units_of (G : GoodE m Γ k lv Z Wx X c) : X.A.units + 64 < cLine := by
  cases hc : c.hot with
  | false => have := (G.calm hc).2.1.un; omega
  | true => have := (G.hot hc).1.un; omega
theorem px_of (G : GoodE m Γ k lv Z Wx X c) : PxOk X Z := fun a oe e => by
  cases hc : c.hot with
  | false => rw [(G.calm hc).2.2] at e; cases e
  | true =>
    obtain ⟨_, p, e', _, hp, hv⟩ := G.hot hc
    rw [e'] at e
    cases e
    exact ⟨hp, hv⟩
theorem F_of (G : GoodE m Γ k lv Z Wx X c) : ClsF Γ Z := by
  have := G.env.F Z.px
  rw [G.K] at this
  exact this
theorem serves_of (G : GoodE m Γ k lv Z Wx X c) : Serves true X := by
  cases hc : c.hot with
  | false => exact .inl (G.calm hc).1
  | true =>
    obtain ⟨_, p, _, h1, h2, _⟩ := G.hot hc
    exact .inr ⟨rfl, p, h1, h2⟩
theorem base_of {o : Expr} {a : Str} {env : PySem.Env} {w : Sem Value} (h : base0 o = true) : attributeBase o a env w = w := by
  unfold attributeBase
  split
  · cases h
  · rfl
theorem PE.w {e : Expr} {t u : TE} (h : PE X e t) (hw : ∀ σ H Q, u σ H Q → t σ H Q) : PE X e u := ⟨fun pins s σ H Q I q => h.run pins s σ H Q I (hw σ H Q q)⟩
theorem PT.w {e : Expr} {t u : TT} (h : PT X e t) (hw : ∀ σ H Q, u σ H Q → t σ H Q) : PT X e u := ⟨fun pins s σ H Q I q => h.run pins s σ H Q I (hw σ H Q q)⟩
theorem PA.w {e : List Expr} {t u : TA} (h : PA X e t) (hw : ∀ σ H Q, u σ H Q → t σ H Q) : PA X e u := ⟨fun pos pins s σ H Q I q => h.run pos pins s σ H Q I (hw σ H Q q)⟩
theorem PO.w {e : Option Expr} {t u : TO} (h : PO X e t) (hw : ∀ σ H Q, u σ H Q → t σ H Q) : PO X e u := ⟨fun pins s σ H Q I q => h.run pins s σ H Q I (hw σ H Q q)⟩
theorem PW.of_pt {op : PySem.BoolOp} {vs : List Expr} {pos : Pos} {t : TT} (h : PT X (.BoolOp op vs pos) t) : PW X (.BoolOp op vs pos) t :=
  ⟨fun wh pins s σ H Q I q => by
    have z := h.run pins s σ H Q I q
    unfold PySem.isTrue at z ⊢
    exact z⟩
theorem pih_any {tg e : Expr} {te : TE} (hK : X.K = Z.K) (he : PE X e te) : PIH false X tg e (iAny Z te) :=
  ⟨fun pins s σ H R I q => thn (he.run pins s σ H _ I q) fun v s1 ⟨x, H1, I1, rv, w, p, h, wk, ex, RH, e, z⟩ => by
    subst ex
    exact iter_val hK I1 RH rv e z⟩
theorem pih_rg {tg e : Expr} {t : L2.St → Hp → (Int → Int → Hp → Prop) → Prop} {wi : TI} (h : PRg X e t) (hw : ∀ σ H R, wi σ H R → t σ H fun a b H' => rngOk a = true ∧ rngOk b = true ∧ ∃ p, R (JW Z p none (rngL a b)) H') : PIH true X tg e wi :=
  ⟨fun pins s σ H R I q => thn (h pins s σ H _ I (hw σ H R q)) fun v s1 ⟨r, a, b, t1, t2, t3, H1, ev, hr, I1, o1, o2, p, z⟩ => by
    subst ev
    exact iter_rng I1 hr o1 o2 z⟩
theorem PIH.w {b : Bool} {tg e : Expr} {t u : TI} (h : PIH b X tg e t) (hw : ∀ σ H R, u σ H R → t σ H R) : PIH b X tg e u := ⟨fun pins s σ H R I q => h.run pins s σ H R I (hw σ H R q)⟩
theorem blk_of {N : List Str} {sc scope : Scope} {y : Str} {i : Nat} (h : blkB N sc scope y = true) (hi : N[i]? = some y) : BlkOk N sc scope [(y, i)] := by
  unfold blkB at h
  obtain ⟨a, b⟩ := Bool.and_eq_true_iff.mp h
  have b := List.all_eq_true.mp b
  refine ⟨of_decide_eq_true a, fun z hz => ?_, fun p hp => ?_, fun z hz e => ?_, fun z hz e => ?_⟩
  · exact of_decide_eq_true (Bool.and_eq_true_iff.mp (b z hz)).1
  · rw [List.mem_singleton.mp hp]; exact hi
  · have q := (Bool.and_eq_true_iff.mp (Bool.and_eq_true_iff.mp (b z hz)).2).1
    rw [e] at q
    dsimp only at q
    split at q
    · rename_i l; exact .inl l
    · rename_i l; exact .inr l
    · cases q
  · have q := (Bool.and_eq_true_iff.mp (Bool.and_eq_true_iff.mp (b z hz)).2).2
    have fin : (z.1 == y || !N.contains z.1) = true → z.1 ∈ ([(y, i)] : List (Str × Nat)).map (·.1) ∨ z.1 ∉ N := fun q => by
      rcases Bool.or_eq_true_iff.mp q with l | l
      · exact .inl (by rw [eq_of_beq l]; exact List.mem_singleton.mpr rfl)
      · refine .inr fun hm => ?_
        rw [List.contains_iff_mem.mpr hm] at l
        cases l
    rcases e with e | e <;> (rw [e] at q; exact fin q)
theorem takesN (h : X.xe = fun _ _ => False) : L2N.Takes X wN := fun u s' ⟨_, _, _, _, _, _, _, _, _, _, _, _, _, _, _, _, z⟩ => z.elim
/-- a comprehension's block -/
theorem good_in (G : GoodE m Γ k lv Z Wx X c) {scope : Scope} (s : Shared) (H : Hp) (C : Addr) (cl : List (Str × Addr)) (fp : List Addr) (pn : List (Addr × Obj)) (hpn : ∀ p ∈ X.pn, p ∈ pn) :
    GoodE m Γ k lv Z wN (blkP X s H scope (compEnvC scope cl C X.env) fp pn) (inC c scope) where
  hN := G.hN
  nod := G.nod
  sc := by show relS scope X.env.scope = relS scope c.sc; rw [G.sc]
  own := fun x h => h
  K := G.K
  tk := takesN rfl
  calm := G.calm
  hot := fun h => let ⟨a, p, b1, b2, b3, b4⟩ := G.hot h; ⟨a, p, b1, b2, hpn p b3, b4⟩
  env := G.env
end
end Mp
set_option Elab.async false
set_option linter.all false
set_option maxRecDepth 100000
set_option maxHeartbeats 1000000
/-! Mp N: the check is sound: expressions, by their build. -/
namespace Mp
open PySem PySem.Spec PyProof.Rows L2
section
variable {m : Nm} {Γ : Gam} {k : Calls} {lv : Nat}
theorem no {P : Prop} (h : false = true) : P := (Bool.false_ne_true h).elim
theorem set_hm {op : CmpOp} {b : Expr} (h : set0 b = true) : behindInMarks op b = false := by cases b <;> first | rfl | cases h
theorem set_lm {op p : CmpOp} {b d : Expr} (h : set0 d = true) : lastMarks [op, p] [b, d] = false := by
  show behindInMarks p d = false
  exact set_hm h
theorem set_hs {e : Expr} {env : PySem.Env} (h : set0 e = true) : ∀ x, foldedSetIterable e env x = pure x := fun x => by cases e <;> first | rfl | cases h
theorem slc_of {i : Expr} (h : slc0 i = true) : PlainIx i := fun o v => by cases i <;> first | rfl | cases h
theorem chkEs_any {pos : Pos} {env : PySem.Env} : ∀ {es : Es} {c : Ck} {l : List Expr}, chkEs m es c l = true → (backTo pos (starEach l env)).any (·.1) = false
  | .nil, c, l, h => by
    unfold chkEs at h
    cases l with
    | nil => rfl
    | cons _ _ => cases h
  | .cons e es, c, l, h => by
    unfold chkEs at h
    cases l with
    | nil => cases h
    | cons e' l =>
      obtain ⟨h1, h2⟩ := Bool.and_eq_true_iff.mp h
      rw [starE h1]
      show (false || (backTo pos (starEach l env)).any (·.1)) = false
      rw [chkEs_any (Bool.and_eq_true_iff.mp h2).2]
      rfl
theorem tyBoot : ∀ n ∈ tyNames, bootBuiltins (Str.ofString n) = some (.type n) := by decide +kernel
theorem cst_of {X : Cx} {w : W} {q : Const} {Z : St0} {Wx : WX} {j : Nat} {pos : Pos} (h : cstB w q = true) : PE X (.Constant q j pos) (TEv Z Wx (evE Γ k (.cst w))) := by
  unfold cstB at h
  split at h
  · exact PE.w pe_non fun σ H Q q => w_cst (w := .non) (v := .non) (fun _ => rfl) (fun _ => trivial) q
  · rename_i b b'
    obtain rfl := eq_of_beq h
    exact PE.w pe_bl fun σ H Q q => w_cst (w := .bl b) (v := .bl b) (fun _ => rfl) (fun _ => trivial) q
  · rename_i i j
    obtain rfl := of_decide_eq_true h
    exact PE.w pe_int fun σ H Q q => w_cst (w := .int i) (v := .int i) (fun _ => rfl) (fun _ => trivial) q
  · rename_i x y
    obtain rfl := of_decide_eq_true h
    exact PE.w pe_str fun σ H Q q => w_cst (w := .str x) (v := .str x) (fun _ => rfl) (fun _ => trivial) q
  · exact no h
theorem isN_of {X : Cx} : ∀ s : Bool, OpR X (compareOp (if s then CmpOp.Is else CmpOp.IsNot)) (rIsN s)
  | true => fun pins st σ H x y v u Q I rx ry ⟨e, q⟩ => op_isN pins st σ H x y v u Q I rx ry ⟨e, by
      have z : (true == decide (x = V.non)) = decide (x = V.non) := by cases decide (x = V.non) <;> rfl
      rw [z] at q
      exact q⟩
  | false => fun pins st σ H x y v u Q I rx ry ⟨e, q⟩ => op_notN pins st σ H x y v u Q I rx ry ⟨e, by
      have z : (false == decide (x = V.non)) = !decide (x = V.non) := by cases decide (x = V.non) <;> rfl
      rw [z] at q
      exact q⟩
variable {Z : St0}
theorem call_of {X : Cx} {c : Ck} {Wx : WX} (G : GoodE m Γ k lv Z Wx X c) {f : Nat} {es : Es} {x : Str} {e' : Expr} {l : List Expr} {p pos : Pos}
    (hf : m.fns.lookup f = some x) (hg : glB c x = true) (hh : (!c.hot || m.fhot.contains f) = true) (ha : PA X (e' :: l) (TAv Z Wx (evEs Γ k es))) (hs : starEach (e' :: l) X.env = (false, eval e' X.env) :: starEach l X.env) (hp : (backTo pos (starEach l X.env)).any (·.1) = false) :
    PE X (.Call (.Name x p) (e' :: l) [] pos) (TEv Z Wx (evE Γ k (.call f es))) := by
  obtain ⟨ar, fa, fd, ps, h1, h2, h3, h4, h5, h6⟩ := G.env.fn f x hf
  obtain ⟨g1, g2⟩ := gl_of G hg
  cases hc : c.hot with
  | false =>
    obtain ⟨b1, b2, b3⟩ := G.calm hc
    have eZ : (⟨Z.cl, X.K, none⟩ : St0) = Z := by rw [G.K, ← b3]
    rw [eZ] at h5
    exact PE.w (pe_callS h5 b2 g1 h1 h2 h3 (fun σ => L2N.passAt G.tk σ) ha (nd_of g2).1 hs hp) fun σ H Q q => w_call h4 q
  | true =>
    rw [hc] at hh
    obtain ⟨b1, q, b2, b3, b4, _⟩ := G.hot hc
    have F := h6 hh
    have eZ : (⟨Z.cl, X.K, some q⟩ : St0) = Z := by rw [G.K, ← b2]
    have z := pe_callX (p := q) (E := WE Wx) (q := p) (pos := pos) F b1 b3 b4 g1 h1 h2 h3 (fun σ => L2N.passAt G.tk σ) ha (nd_of g2).1 hs hp
    rw [eZ] at z
    exact PE.w z fun σ H Q q => w_call h4 q
theorem fn_of_ {X : Cx} {c : Ck} {Wx : WX} (G : GoodE m Γ k lv Z Wx X c) {b : Fn} {es : Es} {x : Str} {e' : Expr} {l : List Expr} {p pos : Pos}
    (hx : x = fnName b) (hg : frB m c x = true) (hh : (!c.hot || fnHot b) = true) (ha : PA X (e' :: l) (TAv Z Wx (evEs Γ k es))) (hs : starEach (e' :: l) X.env = (false, eval e' X.env) :: starEach l X.env) (hp : (backTo pos (starEach l X.env)).any (·.1) = false) :
    PE X (.Call (.Name x p) (e' :: l) [] pos) (TEv Z Wx (evE Γ k (.fn b es))) := by
  obtain ⟨g1, g2, g3⟩ := fr_of G hg
  obtain ⟨n1, _, n3⟩ := nd_of g2
  have rule := callFn2 G.K (px_of G) b fun e => by
    cases hc : c.hot with
    | false => exact (G.calm hc).1
    | true => rw [hc, e] at hh; cases hh
  have bt := fnBoot b
  rw [← hx] at bt
  have fin : PE X (.Call (.Name x p) (e' :: l) [] pos) (tCB (rFn2 Z b) (TAv Z Wx (evEs Γ k es))) := by
    cases b <;> first | exact pe_callB rule g1 g3 bt ha n3 n1 hs hp | exact pe_callTy rule g1 g3 bt ha n3 n1 hs hp
  exact PE.w fin fun σ H Q q => w_fn (F_of G) q
theorem pe_bmK {X : Cx} (hK : X.K = Z.K) {mt : Mt} {o e : Expr} {to : TE} {t : TA} {n : Str} {apos cpos : Pos} (hn : n = mName mt) (hb : base0 o = true) (hl : (apos.endLine == cpos.line) = true) (hs : star0 e = true) (ho : PE X o to) (ha : PA X [e] t) :
    PE X (.Call (.Attribute o n apos) [e] [] cpos) (tBM Z.K (mTy mt) (rMt Z.K mt) to t) := by
  subst hn
  rw [← hK]
  have s1 : starEach [e] X.env = (false, eval e X.env) :: starEach [] X.env := starE hs
  exact pe_bm (mPlain mt) (mSlot mt) (mType mt) (mRule mt) ho ha (base_of hb) (by rw [s1]; rfl) hl s1 rfl
theorem pe_bmK0 {X : Cx} (hK : X.K = Z.K) {mt : Mt} {o : Expr} {to : TE} {n : Str} {apos cpos : Pos} (hn : n = mName mt) (hb : base0 o = true) (hl : (apos.endLine == cpos.line) = true) (ho : PE X o to) :
    PE X (.Call (.Attribute o n apos) [] [] cpos) (tBM0 Z.K (mTy mt) (rMt Z.K mt) to) := by
  subst hn
  rw [← hK]
  exact pe_bm0 (mPlain mt) (mSlot mt) (mType mt) (mRule mt) ho (base_of hb) hl
theorem star_of : ∀ {e : E} {c : Ck} {ex : Expr}, chkE m e c ex = true → star0 ex = true := by
  intro e c ex h
  cases ex with
  | Starred v pos => cases e <;> (unfold chkE at h; exact no h)
  | _ => rfl
theorem chkEs_st {es : Es} {c : Ck} {e : Expr} {l : List Expr} {env : PySem.Env} (h : chkEs m es c (e :: l) = true) : starEach (e :: l) env = (false, eval e env) :: starEach l env := by
  cases es with
  | nil => unfold chkEs at h; cases h
  | cons a es => unfold chkEs at h; exact starE (Bool.and_eq_true_iff.mp h).1
theorem chkEs_tl {es : Es} {c : Ck} {e : Expr} {l : List Expr} {env : PySem.Env} {pos : Pos} (h : chkEs m es c (e :: l) = true) : (backTo pos (starEach l env)).any (·.1) = false := by
  cases es with
  | nil => unfold chkEs at h; cases h
  | cons a es => unfold chkEs at h; exact chkEs_any (Bool.and_eq_true_iff.mp (Bool.and_eq_true_iff.mp h).2).2
theorem chkEs_s0 {es : Es} {c : Ck} {e : Expr} {l : List Expr} (h : chkEs m es c (e :: l) = true) : star0 e = true := by
  cases es with
  | nil => unfold chkEs at h; cases h
  | cons a es => unfold chkEs at h; exact (Bool.and_eq_true_iff.mp h).1
theorem bnd_assoc {α β γ : Type} (r : M α) (f : α → Hq → M β) (g : β → Hq → M γ) : bnd (bnd r f) g = bnd r fun x h => bnd (f x h) g := by
  match r with
  | none => rfl
  | some (.ok a, h) => rfl
  | some (.exc c w, h) => rfl
variable {Wx : WX} {σ : L2.St} {H : Hp}
theorem w_bndE {es : Es} {f : List W → Hq → M W} {Q : Bool → Hp → Prop} (q : TTv Z Wx (fun ρ h => bnd (evEs Γ k es ρ h) fun vs h => bnd (f vs h) fun x h => optT (truV h x) h) σ H Q) :
    TTv Z Wx (fun ρ h => bnd (bnd (evEs Γ k es ρ h) f) fun x h => optT (truV h x) h) σ H Q := by
  have e : (fun ρ h => bnd (bnd (evEs Γ k es ρ h) f) fun x h => optT (truV h x) h) = fun ρ h => bnd (evEs Γ k es ρ h) fun vs h => bnd (f vs h) fun x h => optT (truV h x) h := by
    funext ρ h
    exact bnd_assoc _ _ _
  rw [e]
  exact q
theorem TEv.imp {r : Env → Hq → M W} {Q Q' : VK} (q : TEv Z Wx r σ H Q) (k : ∀ v H', Q v H' → Q' v H') : TEv Z Wx r σ H Q' := by
  obtain ⟨m, ρ, h, e, w, R, t⟩ := q
  exact ⟨m, ρ, h, e, w, R, t.mono fun _ _ _ _ _ _ z wv => k _ _ (z wv)⟩
theorem w_bndE2 {a i : E} {Q : Bool → Hp → Prop} (q : TTv Z Wx (evT Γ k (.ix a i)) σ H Q) : TTv Z Wx (fun ρ h => bnd (evE Γ k (.ix a i) ρ h) fun x h => optT (truV h x) h) σ H Q := by
  have e : (fun ρ h => bnd (evE Γ k (.ix a i) ρ h) fun x h => optT (truV h x) h) = evT Γ k (.ix a i) := by
    funext ρ h
    unfold evE evT
    rw [bnd_assoc]
    congr 1
    funext x h
    rw [bnd_assoc]
  rw [e]
  exact q
theorem w_varT {i : Nat} {Q : Bool → Hp → Prop} (q : TTv Z Wx (evT Γ k (.var i)) σ H Q) : TTv Z Wx (fun ρ h => bnd (evE Γ k (.var i) ρ h) fun x h => optT (truV h x) h) σ H Q := by
  have e : (fun ρ h => bnd (evE Γ k (.var i) ρ h) fun x h => optT (truV h x) h) = evT Γ k (.var i) := by
    funext ρ h
    unfold evE evT
    split <;> rfl
  rw [e]
  exact q
theorem w_cno {Q : Bool → Hp → Prop} (q : TTv Z Wx (evC Γ k .no) σ H Q) : tYes σ H Q := by
  obtain ⟨m, ρ, h, rfl, w, R, t⟩ := q
  unfold evC at t
  exact t.of_ret R
theorem w_cyes {e : E} {Q : Bool → Hp → Prop} (q : TTv Z Wx (evC Γ k (.yes e)) σ H Q) : TTv Z Wx (evT Γ k e) σ H Q := by
  obtain ⟨m, ρ, h, e', w, R, t⟩ := q
  unfold evC at t
  exact ⟨m, ρ, h, e', w, R, t⟩
theorem w_rng1 {e : E} {R : It → Hp → Prop} (q : TIv Z Wx (evS Γ k (.rng e)) σ H R) : tRg1 (TEv Z Wx (evE Γ k e)) σ H fun a b H' => rngOk a = true ∧ rngOk b = true ∧ ∃ p, R (JW Z p none (rngL a b)) H' :=
  TEv.imp (w_rng q) fun v H' ⟨j, p, e, ok, z⟩ => ⟨j, e, by decide, ok, p, z⟩
theorem w_rng12 {a b : E} {R : It → Hp → Prop} (q : TIv Z Wx (evS Γ k (.rng2 a b)) σ H R) : tRg2 (TEv Z Wx (evE Γ k a)) (TEv Z Wx (evE Γ k b)) σ H fun a b H' => rngOk a = true ∧ rngOk b = true ∧ ∃ p, R (JW Z p none (rngL a b)) H' :=
  TEv.imp (w_rng2 q) fun v H' z => TEv.imp z fun u H2 ⟨i, j, p, e1, e2, o1, o2, z⟩ => ⟨i, j, e1, e2, o1, o2, p, z⟩
end
end Mp
set_option Elab.async false
set_option linter.all false
set_option maxRecDepth 100000
set_option maxHeartbeats 1000000
/-! Mp O: the check is sound: the induction over expressions. -/
namespace Mp
open PySem PySem.Spec PyProof.Rows L2
section
variable {m : Nm} {Γ : Gam} {k : Calls} {lv : Nat} {Z : St0}
theorem var_ok {Wx : WX} {X : Cx} {c : Ck} (G : GoodE m Γ k lv Z Wx X c) {i : Nat} {x : Str} {pos : Pos} (h : (decide (c.N[i]? = some x) && (visB c.sc x && nd x)) = true) : PE X (.Name x pos) (TEv Z Wx (evE Γ k (.var i))) := by
  simp only [Bool.and_eq_true, decide_eq_true_eq] at h
  obtain ⟨h1, h2, h3⟩ := h
  exact PE.w (pe_var (slot_of G h1) (by rw [G.sc]; exact vis_of h2) (nd_of h3).1 (nd_of h3).2.1) fun σ H Q q => w_var q
mutual
theorem chkE_ok : ∀ (e : E) (c : Ck) (ex : Expr) (Wx : WX) (X : Cx), chkE m e c ex = true → GoodE m Γ k lv Z Wx X c → PE X ex (TEv Z Wx (evE Γ k e))
  | .var i, c, ex, Wx, X, h, G => by
    unfold chkE at h
    split at h
    · exact var_ok G h
    · exact no h
  | .cst w, c, ex, Wx, X, h, G => by
    unfold chkE at h
    split at h
    · exact cst_of h
    · exact no h
  | .glob g, c, ex, Wx, X, h, G => by
    unfold chkE at h
    split at h
    · simp only [Bool.and_eq_true, decide_eq_true_eq] at h
      obtain ⟨v, u, y, h1, h2, h3, h4, h5⟩ := G.env.gl g _ h.1
      exact PE.w (pe_glob (gl_of G h.2).1 h4 h5 (nd_of (gl_of G h.2).2).1) fun σ H Q q => w_glob h1 h2 h3 q
    · exact no h
  | .ty n, c, ex, Wx, X, h, G => by
    unfold chkE at h
    split at h
    · simp only [Bool.and_eq_true, decide_eq_true_eq] at h
      obtain ⟨rfl, h1, h2⟩ := h
      obtain ⟨g1, g2, g3⟩ := fr_of G h2
      exact PE.w (pe_bltn (v := .ty n) g1 g3 (tyBoot n (List.contains_iff_mem.mp h1)) rfl (nd_of g2).2.2 (nd_of g2).1) fun σ H Q q => w_ty q
    · exact no h
  | .cls d, c, ex, Wx, X, h, G => by
    unfold chkE at h
    split at h
    · simp only [Bool.and_eq_true, decide_eq_true_eq] at h
      obtain ⟨g1, g2⟩ := gl_of G h.2
      exact PE.w (pe_glob (v := .ref (Z.cl d)) g1 (G.env.cls d _ h.1) rfl (nd_of g2).1) fun σ H Q q => w_cls q
    · exact no h
  | .bin o a b, c, ex, Wx, X, h, G => by
    unfold chkE at h
    split at h
    · simp only [Bool.and_eq_true, decide_eq_true_eq] at h
      obtain ⟨rfl, h1, h2⟩ := h
      have r := opBin (X := X) o
      rw [G.K] at r
      exact PE.w (pe_op r (chkE_ok a c _ Wx X h1 G) (chkE_ok b c _ Wx X h2 G)) fun σ H Q q => w_bin q
    · exact no h
  | .neg a, c, ex, Wx, X, h, G => by
    unfold chkE at h
    split at h
    · exact PE.w (pe_un un_neg (chkE_ok a c _ Wx X h G)) fun σ H Q q => w_neg q
    · exact no h
  | .cmp o a b, c, ex, Wx, X, h, G => by
    unfold chkE at h
    split at h
    · simp only [Bool.and_eq_true, decide_eq_true_eq] at h
      obtain ⟨rfl, h1, h2, h3⟩ := h
      have r := opCmp (X := X) (units_of G) o
      rw [G.K] at r
      exact PE.w (pe_cmpR r (chkE_ok a c _ Wx X h2 G) (chkE_ok b c _ Wx X h3 G) (set_hm h1)) fun σ H Q q => w_cmp q
    · exact no h
  | .isN s a, c, ex, Wx, X, h, G => by
    unfold chkE at h
    split at h
    · simp only [Bool.and_eq_true, decide_eq_true_eq] at h
      obtain ⟨rfl, h1⟩ := h
      exact PE.w (pe_cmpR (isN_of s) (chkE_ok a c _ Wx X h1 G) pe_non (by cases s <;> rfl)) fun σ H Q q => w_isN q
    · exact no h
  | .chn o p a b d, c, ex, Wx, X, h, G => by
    unfold chkE at h
    split at h
    · simp only [Bool.and_eq_true, decide_eq_true_eq] at h
      obtain ⟨rfl, rfl, h1, h2, h3, h4⟩ := h
      have r := opCmp (X := X) (units_of G) o
      have r' := opCmp (X := X) (units_of G) p
      rw [G.K] at r r'
      exact PE.w (pe_chain r r' (chkE_ok a c _ Wx X h2 G) (chkE_ok b c _ Wx X h3 G) (chkE_ok d c _ Wx X h4 G) (set_lm h1)) fun σ H Q q => w_chn q
    · exact no h
  | .not a, c, ex, Wx, X, h, G => by
    unfold chkE at h
    split at h
    · exact PE.w (pe_not (chkE_ok a c _ Wx X h G)) fun σ H Q q => w_not q
    · exact no h
  | .and a b, c, ex, Wx, X, h, G => by
    unfold chkE at h
    split at h
    · obtain ⟨h1, h2⟩ := Bool.and_eq_true_iff.mp h
      exact PE.w (pe_and (chkE_ok a c _ Wx X h1 G) (pe_one (chkE_ok b c _ Wx X h2 G))) fun σ H Q q => w_and q
    · obtain ⟨h1, h2⟩ := Bool.and_eq_true_iff.mp h
      exact PE.w (pe_and (chkE_ok a c _ Wx X h1 G) (chkE_ok b c _ Wx X h2 G)) fun σ H Q q => w_and q
    · exact no h
  | .or a b, c, ex, Wx, X, h, G => by
    unfold chkE at h
    split at h
    · obtain ⟨h1, h2⟩ := Bool.and_eq_true_iff.mp h
      exact PE.w (pe_or (chkE_ok a c _ Wx X h1 G) (pe_one (chkE_ok b c _ Wx X h2 G))) fun σ H Q q => w_or q
    · obtain ⟨h1, h2⟩ := Bool.and_eq_true_iff.mp h
      exact PE.w (pe_or (chkE_ok a c _ Wx X h1 G) (chkE_ok b c _ Wx X h2 G)) fun σ H Q q => w_or q
    · exact no h
  | .ite t a b, c, ex, Wx, X, h, G => by
    unfold chkE at h
    split at h
    · simp only [Bool.and_eq_true] at h
      exact PE.w (pe_ifExp (chkT_ok t c _ Wx X h.1 G) (chkE_ok a c _ Wx X h.2.1 G) (chkE_ok b c _ Wx X h.2.2 G)) fun σ H Q q => w_ite q
    · exact no h
  | .call f es, c, ex, Wx, X, h, G => by
    unfold chkE at h
    split at h
    · rename_i x p e' es' pos
      simp only [Bool.and_eq_true, decide_eq_true_eq] at h
      obtain ⟨h1, h2, h3, h4⟩ := h
      exact call_of G h1 h2 h3 (chkEs_ok es c _ Wx X h4 G) (chkEs_st h4) (chkEs_tl h4)
    · exact no h
  | .fn b es, c, ex, Wx, X, h, G => by
    unfold chkE at h
    split at h
    · rename_i x p e' es' pos
      simp only [Bool.and_eq_true, decide_eq_true_eq] at h
      obtain ⟨h1, h2, h3, h4⟩ := h
      exact fn_of_ G h1 h2 h3 (chkEs_ok es c _ Wx X h4 G) (chkEs_st h4) (chkEs_tl h4)
    · exact no h
  | .mth mt o es, c, ex, Wx, X, h, G => by
    unfold chkE at h
    split at h
    · split at h
      · simp only [Bool.and_eq_true, decide_eq_true_eq] at h
        obtain ⟨h1, h2, h3, h4⟩ := h
        exact PE.w (pe_bmK0 G.K h1 h2 h3 (chkE_ok o c _ Wx X h4 G)) fun σ H Q q => w_mth0 q
      · exact no h
    · simp only [Bool.and_eq_true, decide_eq_true_eq] at h
      obtain ⟨h1, h2, h3, h4, h5⟩ := h
      exact PE.w (pe_bmK G.K h1 h2 h3 (chkEs_s0 h5) (chkE_ok o c _ Wx X h4 G) (chkEs_ok es c _ Wx X h5 G)) fun σ H Q q => w_mth q
    · exact no h
  | .attr f o, c, ex, Wx, X, h, G => by
    unfold chkE at h
    split at h
    · simp only [Bool.and_eq_true, decide_eq_true_eq] at h
      obtain ⟨rfl, rfl, h2, h3⟩ := h
      have W := G.env.what
      rw [G.K] at W
      exact PE.w (pe_what G.K (px_of G) (chkE_ok o c _ Wx X h3 G) (base_of h2)) fun σ H Q q => w_what W q
    · exact no h
  | .lrg a, c, ex, Wx, X, h, G => by
    unfold chkE at h
    split at h
    · simp only [Bool.and_eq_true, decide_eq_true_eq, Bool.not_eq_true'] at h
      obtain ⟨h1, rfl, rfl, h4, h5, h6⟩ := h
      obtain ⟨g1, g2, g3⟩ := fr_of G h4
      obtain ⟨f1, f2, f3⟩ := fr_of G h5
      exact PE.w (pe_listRg (G.calm h1).1 g1 g3 (prg_1 f1 f3 (chkE_ok a c _ Wx X h6 G) (starE (star_of h6)))) fun σ H Q q => w_lrg q
    · exact no h
  | .lrg2 a b, c, ex, Wx, X, h, G => by
    unfold chkE at h
    exact no h
  | .ix a i, c, ex, Wx, X, h, G => by
    unfold chkE at h
    split at h
    · simp only [Bool.and_eq_true] at h
      have r := ix_seq (X := X)
      rw [G.K] at r
      exact PE.w (pe_ix r (chkE_ok a c _ Wx X h.2.1 G) (chkE_ok i c _ Wx X h.2.2 G) (slc_of h.1)) fun σ H Q q => w_ix q
    · exact no h
  | .cut a lo hi, c, ex, Wx, X, h, G => by
    unfold chkE at h
    split at h
    · simp only [Bool.and_eq_true] at h
      have r := slBoth (X := X)
      rw [G.K] at r
      exact PE.w (pe_slice r (chkE_ok a c _ Wx X h.1 G) (chkO_ok lo c _ Wx X h.2.1 G) (chkO_ok hi c _ Wx X h.2.2 G)) fun σ H Q q => w_cut q
    · exact no h
  | .tup es, c, ex, Wx, X, h, G => by
    unfold chkE at h
    split at h
    · exact PE.w (pe_tup (chkEs_ok es c _ Wx X h G)) fun σ H Q q => w_tup q
    · exact no h
  | .lst es, c, ex, Wx, X, h, G => by
    unfold chkE at h
    split at h
    · exact PE.w (pe_lst (chkEs_ok es c _ Wx X h G)) fun σ H Q q => w_lst q
    · exact no h
  | .comp x s t el, c, ex, Wx, X, h, G => by
    unfold chkE at h
    split at h
    · rename_i el' y py it ifs scope pos
      simp only [Bool.and_eq_true, decide_eq_true_eq] at h
      obtain ⟨h1, h2, h3, h4, h5, h6, h7⟩ := h
      obtain ⟨b, hb, sv⟩ := chkSrc_ok s c it Wx X (.Name y py) h5 G
      have bk := blk_of h2 h1
      rw [← G.hN, ← G.sc] at bk
      exact PE.w (lcH sv (by rw [G.hN]; exact G.nod) hb bk
        (fun s H C cl fp pn hp => let Y := good_in G (scope := scope) s H C cl fp pn hp; pg_name (by rw [Y.hN]; exact Y.nod) (slot_of Y h1) (loc_of Y h3).1 (loc_of Y h3).2)
        (fun s H C cl fp pn hp => chkC_ok t (inC c scope) ifs _ h6 (good_in G s H C cl fp pn hp))
        (fun s H C cl fp pn hp => chkE_ok el _ _ wN _ h7 (good_in G s H C cl fp pn hp)) (set_hs h4)) fun σ H Q q => w_comp q
    · exact no h
theorem chkT_ok : ∀ (e : E) (c : Ck) (ex : Expr) (Wx : WX) (X : Cx), chkT m e c ex = true → GoodE m Γ k lv Z Wx X c → PT X ex (TTv Z Wx (evT Γ k e))
  | .not a, c, ex, Wx, X, h, G => by
    unfold chkT at h
    split at h
    · exact PT.w (pt_not (chkT_ok a c _ Wx X h G)) fun σ H Q q => w_notT q
    · exact no h
  | .and a b, c, ex, Wx, X, h, G => by
    unfold chkT at h
    split at h
    · obtain ⟨h1, h2⟩ := Bool.and_eq_true_iff.mp h
      exact PT.w (pw_and (chkT_ok a c _ Wx X h1 G) (pw_and1 (chkT_ok b c _ Wx X h2 G))).pt fun σ H Q q => w_andT q
    · obtain ⟨h1, h2⟩ := Bool.and_eq_true_iff.mp h
      exact PT.w (pw_and (chkT_ok a c _ Wx X h1 G) (PW.of_pt (chkT_ok b c _ Wx X h2 G))).pt fun σ H Q q => w_andT q
    · exact no h
  | .or a b, c, ex, Wx, X, h, G => by
    unfold chkT at h
    split at h
    · obtain ⟨h1, h2⟩ := Bool.and_eq_true_iff.mp h
      exact PT.w (pw_or (chkT_ok a c _ Wx X h1 G) (pw_or1 (chkT_ok b c _ Wx X h2 G))).pt fun σ H Q q => w_orT q
    · obtain ⟨h1, h2⟩ := Bool.and_eq_true_iff.mp h
      exact PT.w (pw_or (chkT_ok a c _ Wx X h1 G) (PW.of_pt (chkT_ok b c _ Wx X h2 G))).pt fun σ H Q q => w_orT q
    · exact no h
  | .cmp o a b, c, ex, Wx, X, h, G => by
    unfold chkT at h
    split at h
    · simp only [Bool.and_eq_true, decide_eq_true_eq] at h
      obtain ⟨rfl, h1, h2, h3⟩ := h
      have r := opCmp (X := X) (units_of G) o
      rw [G.K] at r
      exact PT.w (pt_cmpR r (chkE_ok a c _ Wx X h2 G) (chkE_ok b c _ Wx X h3 G) (set_hm h1)) fun σ H Q q => w_cmpT q
    · exact no h
  | .isN s a, c, ex, Wx, X, h, G => by
    unfold chkT at h
    split at h
    · simp only [Bool.and_eq_true, decide_eq_true_eq] at h
      obtain ⟨rfl, h1⟩ := h
      exact PT.w (pt_cmpR (isN_of s) (chkE_ok a c _ Wx X h1 G) pe_non (by cases s <;> rfl)) fun σ H Q q => w_isNT q
    · exact no h
  | .chn o p a b d, c, ex, Wx, X, h, G => by
    unfold chkT at h
    split at h
    · simp only [Bool.and_eq_true, decide_eq_true_eq] at h
      obtain ⟨rfl, rfl, h1, h2, h3, h4⟩ := h
      have r := opCmp (X := X) (units_of G) o
      have r' := opCmp (X := X) (units_of G) p
      rw [G.K] at r r'
      exact PT.w (pt_chain r r' (chkE_ok a c _ Wx X h2 G) (chkE_ok b c _ Wx X h3 G) (chkE_ok d c _ Wx X h4 G) (set_lm h1)) fun σ H Q q => w_chnT q
    · exact no h
  | .var i, c, ex, Wx, X, h, G => by
    unfold chkT at h
    split at h
    · exact PT.w (pt_truth (var_ok G h) fun _ => rfl) fun σ H Q q => by rw [G.K]; exact w_tru (w_varT q)
    · exact no h
  | .call f es, c, ex, Wx, X, h, G => by
    unfold chkT at h
    split at h
    · rename_i x p e' es' pos
      simp only [Bool.and_eq_true, decide_eq_true_eq] at h
      obtain ⟨h1, h2, h3, h4⟩ := h
      exact PT.w (pt_truth (call_of G h1 h2 h3 (chkEs_ok es c _ Wx X h4 G) (chkEs_st h4) (chkEs_tl h4)) fun _ => rfl) fun σ H Q q => by rw [G.K]; exact w_tru (w_bndE q)
    · exact no h
  | .fn b es, c, ex, Wx, X, h, G => by
    unfold chkT at h
    split at h
    · rename_i x p e' es' pos
      simp only [Bool.and_eq_true, decide_eq_true_eq] at h
      obtain ⟨h1, h2, h3, h4⟩ := h
      exact PT.w (pt_truth (fn_of_ G h1 h2 h3 (chkEs_ok es c _ Wx X h4 G) (chkEs_st h4) (chkEs_tl h4)) fun _ => rfl) fun σ H Q q => by rw [G.K]; exact w_tru (w_bndE q)
    · exact no h
  | .ix a i, c, ex, Wx, X, h, G => by
    unfold chkT at h
    split at h
    · simp only [Bool.and_eq_true] at h
      have r := ix_seq (X := X)
      rw [G.K] at r
      exact PT.w (pt_truth (PE.w (pe_ix r (chkE_ok a c _ Wx X h.2.1 G) (chkE_ok i c _ Wx X h.2.2 G) (slc_of h.1)) fun σ H Q q => w_ix q) fun _ => rfl) fun σ H Q q => by rw [G.K]; exact w_tru (w_bndE2 q)
    · exact no h
  | .cst _, _, _, _, _, h, _ => by unfold chkT at h; exact no h
  | .glob _, _, _, _, _, h, _ => by unfold chkT at h; exact no h
  | .ty _, _, _, _, _, h, _ => by unfold chkT at h; exact no h
  | .cls _, _, _, _, _, h, _ => by unfold chkT at h; exact no h
  | .bin _ _ _, _, _, _, _, h, _ => by unfold chkT at h; exact no h
  | .neg _, _, _, _, _, h, _ => by unfold chkT at h; exact no h
  | .ite _ _ _, _, _, _, _, h, _ => by unfold chkT at h; exact no h
  | .mth _ _ _, _, _, _, _, h, _ => by unfold chkT at h; exact no h
  | .attr _ _, _, _, _, _, h, _ => by unfold chkT at h; exact no h
  | .lrg _, _, _, _, _, h, _ => by unfold chkT at h; exact no h
  | .lrg2 _ _, _, _, _, _, h, _ => by unfold chkT at h; exact no h
  | .cut _ _ _, _, _, _, _, h, _ => by unfold chkT at h; exact no h
  | .tup _, _, _, _, _, h, _ => by unfold chkT at h; exact no h
  | .lst _, _, _, _, _, h, _ => by unfold chkT at h; exact no h
  | .comp _ _ _ _, _, _, _, _, h, _ => by unfold chkT at h; exact no h
theorem chkEs_ok : ∀ (es : Es) (c : Ck) (l : List Expr) (Wx : WX) (X : Cx), chkEs m es c l = true → GoodE m Γ k lv Z Wx X c → PA X l (TAv Z Wx (evEs Γ k es))
  | .nil, c, l, Wx, X, h, G => by
    unfold chkEs at h
    cases l with
    | nil => exact PA.w pa_nil fun σ H Q q => w_nil q
    | cons _ _ => cases h
  | .cons e es, c, l, Wx, X, h, G => by
    unfold chkEs at h
    split at h
    · simp only [Bool.and_eq_true] at h
      exact PA.w (pa_cons (chkE_ok e c _ Wx X h.2.1 G) (chkEs_ok es c _ Wx X h.2.2 G) (starE h.1)) fun σ H Q q => w_cons q
    · exact no h
theorem chkO_ok : ∀ (o : Op) (c : Ck) (l : Option Expr) (Wx : WX) (X : Cx), chkO m o c l = true → GoodE m Γ k lv Z Wx X c → PO X l (TOv Z Wx (evO Γ k o))
  | .no, c, l, Wx, X, h, G => by
    unfold chkO at h
    cases l with
    | none => exact PO.w po_none fun σ H Q q => w_no q
    | some _ => cases h
  | .yes e, c, l, Wx, X, h, G => by
    unfold chkO at h
    split at h
    · exact PO.w (po_some (chkE_ok e c _ Wx X h G)) fun σ H Q q => w_yes q
    · exact no h
theorem chkC_ok : ∀ (o : Op) (c : Ck) (ifs : List Expr) (X : Cx), (match o with
        | .no => ifs.isEmpty
        | .yes t' => (match ifs with
          | [i'] => chkT m t' c i'
          | _ => false)) = true → GoodE m Γ k lv Z wN X c → PTs X ifs (TTv Z wN (evC Γ k o))
  | .no, c, ifs, X, h, G => by
    cases ifs with
    | nil => exact ⟨fun pins s σ H Q I q => pts_nil.run pins s σ H Q I (w_cno q)⟩
    | cons _ _ => cases h
  | .yes e, c, ifs, X, h, G => by
    dsimp only at h
    split at h
    · have z := chkT_ok e c _ wN X h G
      exact ⟨fun pins s σ H Q I q => (pts_one z).run pins s σ H Q I (w_cyes q)⟩
    · exact no h
theorem chkSrc_ok : ∀ (s : Src) (c : Ck) (ex : Expr) (Wx : WX) (X : Cx) (tg : Expr), chkSrc m s c ex = true → GoodE m Γ k lv Z Wx X c → ∃ b, PIH b X tg ex (TIv Z Wx (evS Γ k s)) ∧ Serves b X
  | .any e, c, ex, Wx, X, tg, h, G => by
    unfold chkSrc at h
    simp only [Bool.and_eq_true, Bool.not_eq_true'] at h
    exact ⟨false, PIH.w (pih_any G.K (chkE_ok e c _ Wx X h.2 G)) fun σ H R q => w_any q, .inl (G.calm h.1).1⟩
  | .rng a, c, ex, Wx, X, tg, h, G => by
    unfold chkSrc at h
    split at h
    · simp only [Bool.and_eq_true, decide_eq_true_eq] at h
      obtain ⟨rfl, h1, h2, h3⟩ := h
      obtain ⟨g1, g2, g3⟩ := fr_of G h1
      exact ⟨true, pih_rg (prg_1 g1 g3 (chkE_ok a c _ Wx X h3 G) (starE h2)) fun σ H R q => w_rng1 q, serves_of G⟩
    · exact no h
  | .rng2 a b, c, ex, Wx, X, tg, h, G => by
    unfold chkSrc at h
    split at h
    · simp only [Bool.and_eq_true, decide_eq_true_eq] at h
      obtain ⟨rfl, h1, h2, h3, h4, h5⟩ := h
      obtain ⟨g1, g2, g3⟩ := fr_of G h1
      exact ⟨true, pih_rg (prg_2 g1 g3 (chkE_ok a c _ Wx X h4 G) (chkE_ok b c _ Wx X h5 G) (starE h2) (starE h3) (by rw [starE h3]; rfl)) fun σ H R q => w_rng12 q, serves_of G⟩
    · exact no h
end
end
end Mp
set_option Elab.async false
set_option linter.all false
set_option maxRecDepth 100000
set_option maxHeartbeats 1000000
/-! Mp P: the check of statements, and that it is sound. -/
namespace Mp
open PySem PySem.Spec PyProof.Rows L2
/-- several names as targets -/
def chkTs (c : Ck) : List Nat → List Expr → Bool
  | [], [] => true
  | i :: is, .Name x _ :: ts => decide (c.N[i]? = some x) && (locB c x && chkTs c is ts)
  | _, _ => false
/-- a mark of the plain side: no statement -/
def isFrz : S → Bool
  | .frz _ => true
  | _ => false
mutual
def chkS (m : Nm) (Γ : Gam) : S → Ck → Stmt → Bool
  | .asg i e, c, st => (match st with
    | .Assign [.Name x _] e' _ => decide (c.N[i]? = some x) && (locB c x && (comp0 e' && chkE m e c e'))
    | _ => false)
  | .asc i e, c, st => (match st with
    | .Assign [.Name y py] (.ListComp el' [⟨.Name z pz, it, ifs, 0⟩] scope pos) _ => (match e with
      | .comp x s t el => decide (c.N[i]? = some y) && (decide (c.sc.names.lookup y = some .local) && ((py.line == pos.line) && (!(scope.names.any fun (n, k) => n == y && (k == .local || k == .cell)) &&
          (decide (c.N[x]? = some z) && (blkB c.N c.sc scope z && (locB (inC c scope) z && (set0 it && (chkSrc m s c it && ((match t with
            | .no => ifs.isEmpty
            | .yes t' => (match ifs with
              | [i'] => chkT m t' (inC c scope) i'
              | _ => false)) && chkE m el (inC c scope) el')))))))))
      | _ => false)
    | _ => false)
  | .unp is e, c, st => (match st with
    | .Assign [.Tuple ts _ _] e' _ => !c.hot && (chkTs c is ts && (tup0 e' && chkE m e c e'))
    | _ => false)
  | .sto o i e, c, st => (match st with
    | .Assign [.Subscript o' i' _] e' _ => slc0 i' && (chkE m e c e' && (chkE m o c o' && chkE m i c i'))
    | _ => false)
  | .aug i o e, c, st => (match st with
    | .AugAssign (.Name x _) op e' _ => decide (c.N[i]? = some x) && (locB c x && (decide (opOf o = op) && chkE m e c e'))
    | _ => false)
  | .exp e, c, st => (match st with
    | .Expr e' _ => comp0 e' && chkE m e c e'
    | _ => false)
  | .ite t a b, c, st => (match st with
    | .If t' a' b' _ => chkT m t c t' && (chkSs m Γ a c a' && chkSs m Γ b c b')
    | _ => false)
  | .whl t b, c, st => (match st with
    | .While t' b' [] _ => chkT m t c t' && chkSs m Γ b c b'
    | _ => false)
  | .for v s b, c, st => (match st with
    | .For (.Name x _) it b' [] _ => decide (c.N[v]? = some x) && (locB c x && (set0 it && (chkSrc m s c it && chkSs m Γ b c b')))
    | _ => false)
  | .ret e, c, st => (match st with
    | .Return (some e') _ => chkE m e c e'
    | _ => false)
  | .ret0, _, st => (match st with
    | .Return none _ => true
    | _ => false)
  | .rse d e, c, st => (match st with
    | .Raise (some (.Call (.Name x _) [e'] [] _)) none _ => !c.hot && (decide (m.cls.lookup d = some x) && (Γ.hc d && (Γ.exc d && (glB c x && (star0 e' && chkE m e c e')))))
    | _ => false)
  | .try b d i hb, c, st => (match st with
    | .Try b' [.ExceptHandler (some (.Name x _)) (some n) (h0 :: hs) _] [] [] _ => !c.hot && (decide (m.cls.lookup d = some x) && (Γ.hc d && (Γ.exc d && (glB c x && (decide (c.N[i]? = some n) && (decide (c.sc.names.lookup n = some .local) &&
        (chkSs m Γ b c b' && chkSs m Γ hb { c with hot := true } (h0 :: hs))))))))
    | _ => false)
  | .brk, _, st => (match st with
    | .Break _ => true
    | _ => false)
  | .cnt, _, st => (match st with
    | .Continue _ => true
    | _ => false)
  | .pas, _, st => (match st with
    | .Pass _ => true
    | .Expr (.Constant (.str _) _ _) _ => true
    | _ => false)
  | .frz _, _, _ => false
def chkSs (m : Nm) (Γ : Gam) : Ss → Ck → List Stmt → Bool
  | .nil, _, l => l.isEmpty
  | .cons s r, c, l => if isFrz s = true then chkSs m Γ r c l else (match l with
    | s' :: r' => chkS m Γ s c s' && chkSs m Γ r c r'
    | [] => false)
end
theorem exSs_frz {Γ : Gam} {wf : Nat} {k : Calls} {s : S} {r : Ss} (h : isFrz s = true) : exSs Γ wf k (.cons s r) = exSs Γ wf k r := by
  funext ρ h'
  cases s <;> first | cases h; done | (rw [exSs, exS]; rfl)
structure GoodS (m : Nm) (Γ : Gam) (k : Calls) (lv : Nat) (Z : St0) (Wx : WX) (X : Cx) (c : Ck) : Prop extends GoodE m Γ k lv Z Wx X c where
  pas : PassesOwn (model X.prog X.w) X.A X.env X.xe
  stk : X.stack = X.env :: X.outer
  frm : X.env.frame = some X.env.locals
  knd : X.env.scope.kind = .function
section
variable {m : Nm} {Γ : Gam} {k : Calls} {lv : Nat}
theorem PS.w {st : Stmt} {X : Cx} {t u : TS} (h : PS X st t) (hw : ∀ D σ H, u D σ H → t D σ H) : PS X st u := ⟨fun pins s σ H D I q => h.run pins s σ H D I (hw D σ H q)⟩
theorem PSs.w {st : List Stmt} {X : Cx} {t u : TS} (h : PSs X st t) (hw : ∀ D σ H, u D σ H → t D σ H) : PSs X st u := ⟨fun pins s σ H D I q => h.run pins s σ H D I (hw D σ H q)⟩
theorem sw0 {e : Expr} {o : Option Expr} {l : Nat} {env : PySem.Env} (h : comp0 e = true) : swapsWith e o l env = pure false := by cases e <;> first | rfl | cases h
theorem sws_tup {e : Expr} {ts : List Expr} {j : Nat} {p : Pos} {l : Nat} {env : PySem.Env} : swapsWithSole [.Tuple ts j p] e l env = pure false := by cases e <;> rfl
theorem sws_sub {e o i : Expr} {p : Pos} {l : Nat} {env : PySem.Env} : swapsWithSole [.Subscript o i p] e l env = pure false := by cases e <;> rfl
theorem sst_tup {e : Expr} {ts : List Expr} {j : Nat} {p : Pos} {env : PySem.Env} (h : tup0 e = true) : swappedStores [.Tuple ts j p] e env = pure none := by cases e <;> first | rfl | cases h
theorem sst_sub {e o i : Expr} {p : Pos} {env : PySem.Env} : swappedStores [.Subscript o i p] e env = pure none := by cases e <;> rfl
theorem chkTs_ok {Z : St0} {Wx : WX} {X : Cx} {c : Ck} (G : GoodE m Γ k lv Z Wx X c) : ∀ {is : List Nat} {ts : List Expr}, chkTs c is ts = true →
    PGs X ts (gNs is) ∧ (assignEach ts X.env).length = is.length ∧ (assignEach ts X.env).findIdx? (·.1) = none
  | [], [], _ => ⟨pgs_nil, rfl, rfl⟩
  | i :: is, .Name x p :: ts, h => by
    unfold chkTs at h
    simp only [Bool.and_eq_true, decide_eq_true_eq] at h
    obtain ⟨h1, h2, h3⟩ := h
    obtain ⟨a, b, d⟩ := chkTs_ok G h3
    refine ⟨pgs_cons (pg_name (by rw [G.hN]; exact G.nod) (slot_of G h1) (loc_of G h2).1 (loc_of G h2).2) a rfl, congrArg (· + 1) b, ?_⟩
    show List.findIdx? (·.1) ((false, assign (.Name x p) X.env) :: assignEach ts X.env) = none
    rw [List.findIdx?_cons, d]
    rfl
theorem w_asc {Z : St0} {Wx : WX} {σ : L2.St} {H : Hp} {e : E} {i wf : Nat} {D : Ends} (t : TSv Z Wx (exS Γ wf k (.asc i e)) D σ H) : TSv Z Wx (fun ρ h => lft (evE Γ k e ρ h) ρ fun v h => some (.nx (ρ.set i (some v)), h)) D σ H := by
  obtain ⟨m, ρ, h, r, w, R, t⟩ := t
  unfold exS at t
  exact ⟨m, ρ, h, r, w, R, t⟩
theorem w_asg' {Z : St0} {Wx : WX} {σ : L2.St} {H : Hp} {e : E} {i wf : Nat} {D : Ends} (t : TSv Z Wx (exS Γ wf k (.asg i e)) D σ H) : TSv Z Wx (fun ρ h => lft (evE Γ k e ρ h) ρ fun v h => some (.nx (ρ.set i (some v)), h)) D σ H := by
  obtain ⟨m, ρ, h, r, w, R, t⟩ := t
  unfold exS at t
  exact ⟨m, ρ, h, r, w, R, t⟩
theorem tAsg_comp {Z : St0} {Wx : WX} {σ : L2.St} {H : Hp} {x : Nat} {s : Src} {t : Op} {el : E} {i : Nat} {D : Ends} (q : tAsg (TEv Z Wx (evE Γ k (.comp x s t el))) (gName i) D σ H) :
    tAsg (tLc (TIv Z Wx (evS Γ k s)) (gName x) (TTv Z wN (evC Γ k t)) (TEv Z wN (evE Γ k el)) [x]) (gName i) D σ H := w_comp q
variable {wf : Nat} (hlv : 2 ≤ lv)
include hlv
mutual
theorem chkS_ok : ∀ (t : S) (c : Ck) (st : Stmt) (Z : St0) (Wx : WX) (X : Cx), chkS m Γ t c st = true → GoodS m Γ k lv Z Wx X c → PS X st (TSv Z Wx (exS Γ wf k t))
  | .asg i e, c, st, Z, Wx, X, h, G => by
    unfold chkS at h
    split at h
    · simp only [Bool.and_eq_true, decide_eq_true_eq] at h
      obtain ⟨h1, h2, h3, h4⟩ := h
      obtain ⟨l1, l2⟩ := loc_of G.toGoodE h2
      exact PS.w (ps_set (by rw [G.hN]; exact G.nod) (slot_of G.toGoodE h1) l1 (chkE_ok e c _ Wx X h4 G.toGoodE) (sw0 h3) l2) fun D σ H q => w_asg (w_asg' q)
    · exact no h
  | .asc i e, c, st, Z, Wx, X, h, G => by
    unfold chkS at h
    split at h
    · rename_i y py el' z pz it ifs scope pos spos
      split at h
      · rename_i x s t el
        simp only [Bool.and_eq_true, decide_eq_true_eq, Bool.not_eq_true'] at h
        obtain ⟨h1, h2, h3, h4, h5, h6, h7, h8, h9, h10, h11⟩ := h
        have G1 := G.toGoodE
        obtain ⟨b, hb, sv⟩ := chkSrc_ok s c it Wx X (.Name z pz) h9 G1
        have bk := blk_of h6 h5
        rw [← G.hN, ← G.sc] at bk
        have hl : X.env.scope.names.lookup y = some .local := by rw [G.sc]; exact h2
        exact PS.w (setLcH sv (by rw [G.hN]; exact G.nod) (slot_of G1 h1) hl (sw_true G.knd hl h3 h4) hb bk
          (fun s H C cl fp pn hp => let Y := good_in G1 (scope := scope) s H C cl fp pn hp; pg_name (by rw [Y.hN]; exact Y.nod) (slot_of Y h5) (loc_of Y h7).1 (loc_of Y h7).2)
          (fun s H C cl fp pn hp => chkC_ok t (inC c scope) ifs _ h10 (good_in G1 s H C cl fp pn hp))
          (fun s H C cl fp pn hp => chkE_ok el _ _ wN _ h11 (good_in G1 s H C cl fp pn hp)) (set_hs h8)) fun D σ H q => tAsg_comp (w_asg (w_asc q))
      · exact no h
    · exact no h
  | .unp is e, c, st, Z, Wx, X, h, G => by
    unfold chkS at h
    split at h
    · rename_i ts j p e' pos
      simp only [Bool.and_eq_true, Bool.not_eq_true'] at h
      obtain ⟨h1, h2, h3, h4⟩ := h
      obtain ⟨a, b, d⟩ := chkTs_ok G.toGoodE h2
      have pg := pg_tup (k := j) (pos := p) (G.calm h1).1 a b d
      rw [G.K] at pg
      exact PS.w (ps_asg (chkE_ok e c _ Wx X h4 G.toGoodE) pg sws_tup (sst_tup h3) rfl) fun D σ H q => w_unp q
    · exact no h
  | .sto o i e, c, st, Z, Wx, X, h, G => by
    unfold chkS at h
    split at h
    · rename_i o' i' p e' pos
      simp only [Bool.and_eq_true] at h
      obtain ⟨h1, h2, h3, h4⟩ := h
      exact PS.w (ps_asg (chkE_ok e c _ Wx X h2 G.toGoodE) (pg_sub (chkE_ok o c _ Wx X h3 G.toGoodE) (chkE_ok i c _ Wx X h4 G.toGoodE) set_list fun v => by cases i' <;> first | rfl | cases h1) sws_sub sst_sub rfl) fun D σ H q => w_sto q
    · exact no h
  | .aug i o e, c, st, Z, Wx, X, h, G => by
    unfold chkS at h
    split at h
    · simp only [Bool.and_eq_true, decide_eq_true_eq] at h
      obtain ⟨h1, h2, rfl, h4⟩ := h
      obtain ⟨l1, l2⟩ := loc_of G.toGoodE h2
      exact PS.w (ps_aug (by rw [G.hN]; exact G.nod) (slot_of G.toGoodE h1) l1 (chkE_ok e c _ Wx X h4 G.toGoodE) (opAug o) l2) fun D σ H q => w_aug q
    · exact no h
  | .exp e, c, st, Z, Wx, X, h, G => by
    unfold chkS at h
    split at h
    · simp only [Bool.and_eq_true] at h
      exact PS.w (ps_expr (chkE_ok e c _ Wx X h.2 G.toGoodE) (sw0 h.1)) fun D σ H q => w_exp q
    · exact no h
  | .ite t a b, c, st, Z, Wx, X, h, G => by
    unfold chkS at h
    split at h
    · simp only [Bool.and_eq_true] at h
      exact PS.w (ps_if (chkT_ok t c _ Wx X h.1 G.toGoodE) (chkSs_ok a c _ Z Wx X h.2.1 G) (chkSs_ok b c _ Z Wx X h.2.2 G)) fun D σ H q => w_iteS q
    · exact no h
  | .whl t b, c, st, Z, Wx, X, h, G => by
    unfold chkS at h
    split at h
    · simp only [Bool.and_eq_true] at h
      exact PS.w (ps_while G.pas (chkT_ok t c _ Wx X h.1 G.toGoodE) (chkSs_ok b c _ Z Wx X h.2 G)) fun D σ H q => w_whl q
    · exact no h
  | .for v s b, c, st, Z, Wx, X, h, G => by
    unfold chkS at h
    split at h
    · rename_i x px it b' pos
      simp only [Bool.and_eq_true, decide_eq_true_eq] at h
      obtain ⟨h1, h2, h3, h4, h5⟩ := h
      obtain ⟨bb, hb, sv⟩ := chkSrc_ok s c it Wx X (.Name x px) h4 G.toGoodE
      obtain ⟨l1, l2⟩ := loc_of G.toGoodE h2
      exact PS.w (forH G.pas sv hb (pg_name (by rw [G.hN]; exact G.nod) (slot_of G.toGoodE h1) l1 l2) (chkSs_ok b c _ Z Wx X h5 G) (set_hs h3)) fun D σ H q => w_for q
    · exact no h
  | .ret e, c, st, Z, Wx, X, h, G => by
    unfold chkS at h
    split at h
    · exact PS.w (ps_ret (chkE_ok e c _ Wx X h G.toGoodE)) fun D σ H q => w_ret q
    · exact no h
  | .ret0, c, st, Z, Wx, X, h, G => by
    unfold chkS at h
    split at h
    · exact PS.w ps_retN fun D σ H q => w_ret0 q
    · exact no h
  | .rse d e, c, st, Z, Wx, X, h, G => by
    unfold chkS at h
    split at h
    · simp only [Bool.and_eq_true, decide_eq_true_eq, Bool.not_eq_true'] at h
      obtain ⟨h1, h2, h3, h4, h5, h6, h7⟩ := h
      have E := G.env.rse d _ h2 h3 h4
      obtain ⟨c1, c2, c3⟩ := G.calm h1
      obtain ⟨g1, g2⟩ := gl_of G.toGoodE h5
      refine PS.w (ps_rse E c1 (c2.mono hlv) G.tk g1 (chkE_ok e c _ Wx X h7 G.toGoodE) (nd_of g2).1 (starE h6)) fun D σ H q => ?_
      have E' := E
      rw [G.K] at E' ⊢
      exact w_rse E' q
    · exact no h
  | .try b d i hb, c, st, Z, Wx, X, h, G => by
    unfold chkS at h
    split at h
    · rename_i b' x np n h0 hs pos' pos
      simp only [Bool.and_eq_true, decide_eq_true_eq, Bool.not_eq_true'] at h
      obtain ⟨h1, h2, h3, h4, h5, h6, h7, h8, h9⟩ := h
      obtain ⟨c1, c2, c3⟩ := G.calm h1
      obtain ⟨g1, g2⟩ := gl_of G.toGoodE h5
      have hn : Names X x (.ref (Z.cl d)) := ⟨g1, (nd_of g2).1, .inl (G.env.cls d x h2)⟩
      have exm : ∀ c', Γ.hc c' = true → Γ.exc c' = true → PySem.W.exmOne Z.K (.ref (Z.cl c')) (.ref (Z.cl d)) = some (Γ.sub c' d) := fun c' a b => by
        have := G.env.exm c' d a b h3 h4
        rw [G.K] at this
        exact this
      refine PS.w (L2N.ps_try_as (tb := fun W => TSv Z W (exSs Γ wf k b)) (ts := tsX Z Γ wf k hb) (Wout := Wx) (i := i) G.stk G.frm (by rw [G.hN]; exact G.nod) (slot_of G.toGoodE h6) (by show X.env.scope.names.lookup n = _; rw [G.sc]; exact h7) hn G.tk
        (fun W pn xe tk po => chkSs_ok b c b' Z W (X.tr pn xe) h8 ⟨⟨G.hN, G.nod, G.sc, G.own, G.K, tk, fun _ => ⟨c1, c2, c3⟩, fun z => (by rw [h1] at z; cases z), G.env⟩, po, G.stk, G.frm, G.knd⟩)
        (fun a oe cls dd pn zn hv => ⟨fun pins s σ H D I q => (chkSs_ok hb { c with hot := true } (h0 :: hs) { Z with px := some (a, oe) } wN (X.suite a ((a, oe) :: pn)) h9
          ⟨⟨G.hN, G.nod, G.sc, G.own, G.K, takesN rfl, fun z => (by cases z), fun _ => ⟨L2H.roomH_mark c2 _, (a, oe), rfl, ⟨rfl, hv.choose, hv.choose_spec, zn.2.2 _ hv.choose_spec⟩, List.mem_cons_self, hv⟩, G.env⟩, PassesOwn.never, G.stk, G.frm, G.knd⟩).run pins s σ H D I (q oe zn hv)⟩)) fun D σ H q => ?_
      rw [G.K]
      exact w_try c3 exm q
    · exact no h
  | .brk, c, st, Z, Wx, X, h, G => by
    unfold chkS at h
    split at h
    · exact PS.w ps_break fun D σ H q => w_brk q
    · exact no h
  | .cnt, c, st, Z, Wx, X, h, G => by
    unfold chkS at h
    split at h
    · exact PS.w ps_continue fun D σ H q => w_cnt q
    · exact no h
  | .pas, c, st, Z, Wx, X, h, G => by
    unfold chkS at h
    split at h
    · exact PS.w ps_pass fun D σ H q => w_pas q
    · exact PS.w ps_doc fun D σ H q => w_pas q
    · exact no h
  | .frz is, c, st, Z, Wx, X, h, G => by
    unfold chkS at h
    exact no h
theorem chkSs_ok : ∀ (t : Ss) (c : Ck) (l : List Stmt) (Z : St0) (Wx : WX) (X : Cx), chkSs m Γ t c l = true → GoodS m Γ k lv Z Wx X c → PSs X l (TSv Z Wx (exSs Γ wf k t))
  | .nil, c, l, Z, Wx, X, h, G => by
    unfold chkSs at h
    cases l with
    | nil => exact PSs.w pss_nil fun D σ H q => w_ssnil q
    | cons _ _ => cases h
  | .cons s r, c, l, Z, Wx, X, h, G => by
    unfold chkSs at h
    split at h
    · rename_i hz
      rw [exSs_frz hz]
      exact chkSs_ok r c l Z Wx X h G
    split at h
    · obtain ⟨h1, h2⟩ := Bool.and_eq_true_iff.mp h
      exact PSs.w (pss_cons (chkS_ok s c _ Z Wx X h1 G) (chkSs_ok r c _ Z Wx X h2 G)) fun D σ H q => w_sscons q
    · exact no h
end
end
end Mp
set_option Elab.async false
set_option linter.all false
set_option maxRecDepth 100000
set_option maxHeartbeats 1000000
/-! Mp Q: every def keeps its promise, level by level. -/
namespace Mp
open PySem PySem.Spec PyProof.Rows L2
/-- what is known of a def of the program -/
structure DefOk (m : Nm) (Γ : Gam) (K : PySem.W.Frag) (mg : Str → Option Value) (f : Nat) (x : Str) (d : FnD) (args : Arguments) (body : List Stmt) (scope : Scope) (N : List Str) (fa : Addr) (fd : FuncData) : Prop where
  at_ : Γ.fn f = some d
  glo : mg x = some (.ref fa)
  F : FunD K x x args body scope [] [] fa fd
  B : Binds K fd (N.take d.ar) []
  S : FnScope N (N.take d.ar) scope
  len : N.length = d.n
  par : (N.take d.ar).length = d.ar
  chk : chkSs m Γ d.body ⟨N, scope, fun _ => true, false⟩ body = true
  hot : m.fhot.contains f = true → chkSs m Γ d.body ⟨N, scope, fun _ => true, true⟩ body = true
structure EnvS (m : Nm) (Γ : Gam) (P : Program) (w : World) (K : PySem.W.Frag) (mg : Str → Option Value) (base : Heap) (cl : Plc) : Prop where
  fn : ∀ (f : Nat) (x : Str), m.fns.lookup f = some x → ∃ d args body scope N fa fd, DefOk m Γ K mg f x d args body scope N fa fd
  gl : ∀ (g : Nat) (x : Str), m.gls.lookup g = some x → ∃ (v : W) (u : Value) (y : V), Γ.glob g = some v ∧ (∀ p, tv cl p v = y) ∧ (∀ n, wfW n v) ∧ mg x = some u ∧ RelV y u
  cls : ∀ (c : Nat) (x : Str), m.cls.lookup c = some x → mg x = some (.ref (cl c))
  free : ∀ x, m.free.contains x = true → mg x = none
  F : ∀ px, ClsF Γ ⟨cl, K, px⟩
  rse : ∀ (c : Nat) (x : Str), m.cls.lookup c = some x → Γ.hc c = true → Γ.exc c = true → ExK P w K mg base x (cl c)
  what : ∀ c, Γ.hc c = true → Γ.exc c = true → ExcA K (cl c)
  exm : ∀ c d, Γ.hc c = true → Γ.exc c = true → Γ.hc d = true → Γ.exc d = true → PySem.W.exmOne K (.ref (cl c)) (.ref (cl d)) = some (Γ.sub c d)
section
variable {m : Nm} {Γ : Gam} {P : Program} {w : World} {K : PySem.W.Frag} {mg : Str → Option Value} {base : Heap} {cl : Plc} {wf : Nat}
theorem start_envV {cl p : Plc} {N : List Str} {n : Nat} (h : N.length = n) (us : List W) : L2.start N (us.map (tv cl p)) = envV cl p (Mp.start n us) := by
  unfold L2.start Mp.start envV
  rw [List.map_append, List.map_map, List.map_map, List.map_replicate, List.length_map, h]
  rfl
theorem start_wf {k n : Nat} {us : List W} (h : ∀ v ∈ us, wfW k v) : wfE k (Mp.start n us) := fun v hv => by
  unfold Mp.start at hv
  rcases List.mem_append.mp hv with z | z
  · obtain ⟨u, hu, e⟩ := List.mem_map.mp z
    cases e
    exact h v hu
  · cases (List.mem_replicate.mp z).2
theorem body_of {Z : St0} {f : Nat} {d : FnD} {N : List Str} {vs : List V} {H : Hp} {Q : VK} {E : XK} (hf : Γ.fn f = some d) (hN : N.length = d.n) {n : Nat} (q : spE Z (call Γ wf (n + 1)) d.ar f vs H Q E) :
    TSv Z (fun c d _ H => E c d H) (exSs Γ wf (call Γ wf n) d.body) { nx := fun _ H' => Q .non H', rt := Q } (L2.start N vs) H := by
  obtain ⟨p, h, us, rfl, hl, wu, R, t⟩ := q
  rw [start_envV hN]
  refine ⟨p, _, h, rfl, start_wf wu, R, ?_⟩
  unfold call at t
  rw [hf] at t
  dsimp only at t
  rw [if_pos hl] at t
  match hr : exSs Γ wf (call Γ wf n) d.body (Mp.start d.n us) h, t with
  | some (.nx ρ, h1), t => exact fun m' H' e R w => t m' H' e R trivial
  | some (.ret v, h1), t => exact fun m' H' e R w => t m' H' e R w
  | some (.exc c v ρ, h1), t => exact fun m' H' dd e R w1 w2 hd => t m' H' dd e R w1 hd
  | some (.brk ρ, h1), t => exact t.elim
  | some (.ct ρ, h1), t => exact t.elim
  | none, t => exact t.elim
theorem spE_len {Z : St0} {k : Calls} {f ar : Nat} {ps : List Str} (h : ps.length = ar) : ∀ vs H Q E, spE Z k ar f vs H Q E → vs.length = ps.length := fun vs H Q E ⟨p, hh, us, e, hl, _⟩ => by
  rw [e, List.length_map, hl, h]
theorem call_ar {f : Nat} {d : FnD} (hf : Γ.fn f = some d) : ∀ (n : Nat) (us : List W) (h : Hq), us.length ≠ d.ar → call Γ wf n f us h = none
  | 0, us, h, _ => by unfold call; rfl
  | n + 1, us, h, hl => by
    unfold call
    rw [hf]
    dsimp only
    rw [if_neg hl]
theorem def_ok {f : Nat} {x : Str} {d : FnD} {args : Arguments} {body : List Stmt} {scope : Scope} {N : List Str} {fa : Addr} {fd : FuncData} {n : Nat} (D : DefOk m Γ K mg f x d args body scope N fa fd) (I : Env1 m Γ (call Γ wf n) (n + 2) P w K mg base cl) :
    FnOk P w K mg base (L2N.CX P w) (n + 3) fa fd (N.take d.ar) (spE ⟨cl, K, none⟩ (call Γ wf (n + 1)) d.ar f) :=
  D.F.ok D.S (spE_len D.par) fun cdv A outer s H vs Q Ex hr q => ⟨_, chkSs_ok (lv := n + 2) (Nat.le_add_left 2 n) d.body _ body ⟨cl, K, none⟩ (fun c dd _ H => Ex c dd H) _ D.chk
    ⟨⟨rfl, D.S.nd, rfl, fun _ _ => rfl, rfl, L2N.takes_of rfl rfl rfl rfl, fun _ => ⟨rfl, hr, rfl⟩, fun z => (by cases z), I⟩, L2.passes_of rfl, rfl, rfl, D.S.kind⟩, body_of D.at_ D.len q⟩
theorem def_okX {f : Nat} {x : Str} {d : FnD} {args : Arguments} {body : List Stmt} {scope : Scope} {N : List Str} {fa : Addr} {fd : FuncData} {n : Nat} (D : DefOk m Γ K mg f x d args body scope N fa fd) (I : Env1 m Γ (call Γ wf n) (n + 2) P w K mg base cl) (hh : m.fhot.contains f = true) :
    FnX P w K mg base (L2N.CX P w) (n + 3) fa fd (N.take d.ar) fun p => spE ⟨cl, K, some p⟩ (call Γ wf (n + 1)) d.ar f :=
  fnX_of D.F D.S (fun p => spE_len D.par) fun p cdv A outer s H vs Q Ex ⟨h1, vs', h2, h3⟩ hr q => ⟨_, chkSs_ok (lv := n + 2) (Nat.le_add_left 2 n) d.body _ body ⟨cl, K, some p⟩ (fun c dd _ H => Ex c dd H) _ (D.hot hh)
    ⟨⟨rfl, D.S.nd, rfl, fun _ _ => rfl, rfl, L2N.takes_of rfl rfl rfl rfl, fun z => (by cases z), fun _ => ⟨hr, p, rfl, ⟨h1, vs', h2, h3⟩, List.mem_singleton.mpr rfl, vs', h2⟩, I⟩, L2.passes_of rfl, rfl, rfl, D.S.kind⟩, body_of D.at_ D.len q⟩
theorem env_all (E : EnvS m Γ P w K mg base cl) : ∀ n, Env1 m Γ (call Γ wf n) (n + 2) P w K mg base cl
  | 0 => { E with
    fn := fun f x hx => by
      obtain ⟨d, args, body, scope, N, fa, fd, D⟩ := E.fn f x hx
      have never : ∀ Z vs H Q E, ¬ spE Z (call Γ wf 0) d.ar f vs H Q E := fun Z vs H Q E ⟨p, h, us, _, _, _, _, t⟩ => by
        unfold call at t
        exact t
      exact ⟨d.ar, fa, fd, _, D.glo, D.F.kp, D.B, call_ar D.at_ 0, ⟨spE_len D.par, fun _ _ _ _ _ _ _ _ _ _ _ _ _ q => (never _ _ _ _ _ q).elim⟩,
        fun _ => ⟨fun p => spE_len D.par, fun _ _ _ _ _ _ _ _ _ _ _ _ _ _ _ _ q => (never _ _ _ _ _ q).elim⟩⟩ }
  | n + 1 => { E with
    fn := fun f x hx => by
      obtain ⟨d, args, body, scope, N, fa, fd, D⟩ := E.fn f x hx
      exact ⟨d.ar, fa, fd, _, D.glo, D.F.kp, D.B, call_ar D.at_ (n + 1), def_ok D (env_all E n), def_okX D (env_all E n)⟩ }
end
end Mp
set_option Elab.async false
set_option linter.all false
set_option maxRecDepth 100000
set_option maxHeartbeats 1000000
/-! Mp R: what the head of the program tells, as one Bool, and what follows of it. -/
namespace Mp
open PySem PySem.Spec PyProof.Rows L2

theorem look_at : ∀ {ps : List Str} {us : List Value} {i : Nat} {n : Str} {v : Value}, ps.Nodup → ps[i]? = some n → us[i]? = some v → (ps.zip us).lookup n = some v
  | [], _, _, _, _, _, h, _ => by cases h
  | _ :: _, [], _, _, _, _, _, h => by cases h
  | p :: ps, u :: us, 0, n, v, nd, h, e => by
    cases h; cases e
    show (match p == p with | true => some u | false => (ps.zip us).lookup p) = _
    rw [beq_self_eq_true]
  | p :: ps, u :: us, i + 1, n, v, nd, h, e => by
    obtain ⟨a, b⟩ := List.nodup_cons.mp nd
    have ne : (n == p) = false := beq_false_of_ne fun z => a (z ▸ List.mem_of_getElem? (show ps[i]? = some n from h))
    show (match n == p with | true => some u | false => (ps.zip us).lookup n) = _
    rw [ne]
    exact look_at b h e
theorem bind_plain {fd : FuncData} {as : List Arg} {us : List Value} (hp : fd.params = { posonlyargs := [], args := as, vararg := none, kwonlyargs := [], kw_defaults := [], kwarg := none, defaults := [] }) (hd : fd.defaults = .none) (nd : (as.map (·.arg)).Nodup) (hl : us.length = (as.map (·.arg)).length) :
    bindArgs fd ⟨us, []⟩ = pure ((as.map (·.arg)).zip us) := by
  have lk : ∀ n ∈ as.map (·.arg), ∃ v, ((as.map (·.arg)).zip us).lookup n = some v := fun n hn => by
    obtain ⟨i, hi, e⟩ := List.mem_iff_getElem.mp hn
    exact ⟨us[i]'(hl ▸ hi), look_at nd (by rw [List.getElem?_eq_getElem hi, e]) (List.getElem?_eq_getElem _)⟩
  have h1 : ((as.map (·.arg)).filter fun n => (((as.map (·.arg)).zip us).lookup n).isNone) = [] := List.filter_eq_nil_iff.mpr fun n hn => by
    obtain ⟨v, e⟩ := lk n hn
    rw [e]
    exact Bool.false_ne_true
  have h2 : ((as.map (·.arg)).filterMap fun n => (((as.map (·.arg)).zip us).lookup n).map fun x => (n, x)) = (as.map (·.arg)).zip us := by
    have key : ∀ {ps : List Str} {us : List Value} {f : Str → Option Value}, us.length = ps.length → (∀ (i : Nat) (n : Str) (v : Value), ps[i]? = some n → us[i]? = some v → f n = some v) → (ps.filterMap fun n => (f n).map fun x => (n, x)) = ps.zip us := by
      intro ps
      induction ps with
      | nil => intro us f hl h; rfl
      | cons p ps ih =>
        intro us f hl h
        cases us with
        | nil => cases hl
        | cons u us =>
          rw [List.filterMap_cons, h 0 p u rfl rfl]
          show (p, u) :: _ = _
          rw [ih (Nat.succ.inj hl) fun i n v a b => h (i + 1) n v a b]
          rfl
    exact key hl fun i n v a b => look_at nd a b
  unfold bindArgs
  rw [hp, hd]
  dsimp only
  have hs : seqItems? Value.none = pure none := rfl
  rw [hs]
  generalize as.map (·.arg) = ps at *
  simp only [List.map_nil, List.nil_append, List.forIn_nil, pure_bind, Option.getD_none, List.append_nil]
  have h0 : ¬ (us.length > ps.length) := by omega
  simp [h0, h1, h2]
/-! ### classes that are exceptions -/
def oexB (K : PySem.W.Frag) (C : Addr) : Bool := (match K.lookup C with
  | some ⟨.type t, _, .cls cd, sl⟩ => decide (t = "type") && (match cd.mro, sl.toList with
    | .ref C' :: bm, [_, _, _, _, some (.builtin n), _] => decide (C' = C) && (decide (n = "ValueError.__new__") && (cd.hasDict && (!cd.hasDel && PySem.HandSPX.refsVE bm)))
    | _, _ => false)
  | _ => false) && (decide (PySem.W.findIn K (.ref C) "__setattr__" = some (some (.builtin "object.__setattr__"))) && (decide (PySem.W.subIn K (.ref C) (.type "BaseException") = some true) &&
    (decide (PySem.W.typeIn K (.ref C) = some (.type "type")) && PySem.W.keepIn K (.ref C))))
theorem oexB_ok {K : PySem.W.Frag} {C : Addr} (h : oexB K C = true) : OexC K C := by
  unfold oexB at h
  simp only [Bool.and_eq_true, decide_eq_true_eq] at h
  obtain ⟨h1, h2, h3, h4, h5⟩ := h
  refine ⟨?_, h2, h3, h4, h5⟩
  split at h1
  · rename_i t dd cd sl ho
    simp only [Bool.and_eq_true, decide_eq_true_eq] at h1
    obtain ⟨rfl, h1⟩ := h1
    split at h1
    · rename_i C' bm k0 k1 k2 k3 n k5 hm hs
      simp only [Bool.and_eq_true, decide_eq_true_eq, Bool.not_eq_true'] at h1
      obtain ⟨rfl, rfl, g1, g2, g3⟩ := h1
      obtain ⟨nm, bs, mro, ns, qn, hd, sn, sub, ab, col, del⟩ := cd
      dsimp only at hm g1 g2
      subst hm g1 g2
      have e : sl = #[k0, k1, k2, k3, some (.builtin "ValueError.__new__"), k5] := by rw [← hs]
      subst e
      exact ⟨nm, qn, ns, bs, bm, sn, sub, ab, col, dd, k0, k1, k2, k3, k5, ho, g3⟩
    · exact (Bool.false_ne_true h1).elim
  · exact (Bool.false_ne_true h1).elim
/-- what an exception class of the program is asked; fI: the __init__ that it has -/
def excB (K : PySem.W.Frag) (C fI : Addr) : Bool := oexB K C && (decide (PySem.W.findIn K (.ref C) wht = some none) && (decide (PySem.W.findIn K (.ref C) "__init__" = some (some (.ref fI))) &&
  (decide (PySem.W.findIn K (.ref C) "__getattribute__" = some (some (.builtin "BaseException.__getattribute__"))) && (decide (PySem.W.findIn K (.ref C) "__getattr__" = some none) && (PySem.W.hasDictIn K C &&
    (decide (PySem.W.findIn K (.ref C) "__class__" = some (some (.builtin "object.__class__"))) && decide (PySem.W.mroIn K C (.type "object") = some true)))))))
def objB (K : PySem.W.Frag) : Bool := decide (PySem.W.specialIn K (.builtin "object.__class__") "__get__" = some (some (.builtin "getset_descriptor.__get__"))) && decide (PySem.W.takesIn K (.builtin "object.__class__") = some true)
structure ExcFacts (K : PySem.W.Frag) (C fI : Addr) : Prop where
  oex : OexC K C
  no : PySem.W.findIn K (.ref C) wht = some none
  ini : PySem.W.findIn K (.ref C) "__init__" = some (some (.ref fI))
  exc : ExcC K C
theorem excB_ok {K : PySem.W.Frag} {C fI : Addr} (h : excB K C fI = true) (ho : objB K = true) : ExcFacts K C fI := by
  unfold excB at h
  unfold objB at ho
  simp only [Bool.and_eq_true, decide_eq_true_eq] at h ho
  obtain ⟨h1, h2, h3, h4, h5, h6, h7, h8⟩ := h
  have o := oexB_ok h1
  exact ⟨o, h2, h3, ⟨h4, h5, o.exC, h6, h7, ho.1, ho.2, h8⟩⟩
/-- __init__(self, what): self.what = what -/
theorem init_ok {P : Program} {w : World} {K : PySem.W.Frag} {mg : Str → Option Value} {base : Heap} {x qual : Str} {args : Arguments} {scope : Scope} {f : Addr} {fd : FuncData} {p1 p2 p3 p4 : Pos}
    (F : FunD K x qual args [.Assign [.Attribute (.Name "self" p1) "what" p2] (.Name "what" p3) p4] scope [] [] f fd) (S : FnScope ["self", "what"] ["self", "what"] scope) (v0 : Vis scope "self") (v1 : Vis scope "what") :
    FnOk P w K mg base CX0 1 f fd ["self", "what"] (spInit K) := by
  refine F.ok S (fun vs H Q E h => ?_) fun cdv A outer s H vs Q E hr h => ⟨tOst K wht (tVar 0) (tVar 1), pss_one (ps_ost (pe_var (i := 0) rfl v0) (pe_var (i := 1) rfl v1)), ?_⟩
  · obtain ⟨a, C, y, rfl, _⟩ := h
    rfl
  · obtain ⟨a, C, y, rfl, T, no, ha, q⟩ := h
    exact ⟨y, rfl, .ref a, rfl, a, C, rfl, T, no, .inl ⟨ha, q⟩⟩
/-! ### the program's text -/
def isDef : Stmt → Bool
  | .FunctionDef _ _ _ _ _ _ _ _ _ _ => true
  | _ => false
def defNm : Stmt → Str
  | .FunctionDef x _ _ _ _ _ _ _ _ _ => x
  | _ => Str.empty
def topDefs (P : Program) : List Stmt := P.main.body.filter isDef
def dOf (s : Stmt) : He.DefD := ⟨(defNm s, none), defNm s, defNm s, defArgs s, defBody s, defScope s, [], []⟩
def inisOf : Stmt → List (Str × Stmt)
  | .ClassDef x _ _ body _ _ _ _ _ _ _ => (body.filter fun s => isDef s && decide (defNm s = "__init__")).map fun s => (x, s)
  | _ => []
def clsInit (P : Program) : Str × Stmt := (P.main.body.flatMap inisOf).headD (Str.empty, .Pass ⟨0, 0, 0, 0⟩)
def iniD (P : Program) : He.DefD := ⟨((clsInit P).1, some "__init__"), "__init__", (clsInit P).1 ++ ".__init__", defArgs (clsInit P).2, defBody (clsInit P).2, defScope (clsInit P).2, [], []⟩
def scopeB (N ps : List Str) (sc : Scope) : Bool := decide (sc.kind = .function) && (!sc.isCoroutine && (!sc.isGenerator && (decide N.Nodup && (decide (N.take ps.length = ps) &&
  ((ps.all fun x => decide (sc.names.lookup x = some .local) || decide (sc.names.lookup x = some .cell)) && sc.names.all fun y => decide (y.2 ≠ .free))))))
theorem scopeB_ok {N ps : List Str} {sc : Scope} (h : scopeB N ps sc = true) : FnScope N ps sc := by
  unfold scopeB at h
  simp only [Bool.and_eq_true, decide_eq_true_eq, Bool.not_eq_true', List.all_eq_true, Bool.or_eq_true] at h
  obtain ⟨h1, h2, h3, h4, h5, h6, h7⟩ := h
  exact ⟨h1, h2, h3, h4, h5, h6, h7⟩
/-- parameters by position, nothing else -/
def plainArgs (a : Arguments) : Bool := a.posonlyargs.isEmpty && (a.vararg.isNone && (a.kwonlyargs.isEmpty && (a.kw_defaults.isEmpty && (a.kwarg.isNone && a.defaults.isEmpty))))
theorem plainArgs_ok {a : Arguments} (h : plainArgs a = true) : a = { posonlyargs := [], args := a.args, vararg := none, kwonlyargs := [], kw_defaults := [], kwarg := none, defaults := [] } := by
  obtain ⟨a1, a2, a3, a4, a5, a6, a7⟩ := a
  unfold plainArgs at h
  simp only [Bool.and_eq_true, List.isEmpty_iff, Option.isNone_iff_eq_none] at h
  obtain ⟨rfl, rfl, rfl, rfl, rfl, rfl⟩ := h
  rfl
def psOf (s : Stmt) : List Str := (defArgs s).args.map (·.arg)
def defB1 (m : Nm) (Γ : Gam) (f : Nat) (x : Str) (s : Stmt) (d : FnD) (N : List Str) : Bool := isDef s && (decide (defNm s = x) && (plainArgs (defArgs s) && (decide (psOf s).Nodup && (decide ((psOf s).length = d.ar) && (decide (N.take d.ar = psOf s) && (decide (N.length = d.n) &&
  (scopeB N (psOf s) (defScope s) && (chkSs m Γ d.body ⟨N, defScope s, fun _ => true, false⟩ (defBody s) && (!m.fhot.contains f || chkSs m Γ d.body ⟨N, defScope s, fun _ => true, true⟩ (defBody s))))))))))
/-- the whole text is the own text -/
def defsB (m : Nm) (Γ : Gam) (Ns : List (Nat × List Str)) (tops : List Stmt) : Bool := m.fns.all fun q => match tops.find? fun s => decide (defNm s = q.2), Γ.fn q.1, Ns.lookup q.1 with
  | some s, some d, some N => defB1 m Γ q.1 q.2 s d N
  | _, _, _ => false
theorem look_mem {α : Type} {a : Nat} {o : α} : ∀ {l : List (Nat × α)}, l.lookup a = some o → (a, o) ∈ l
  | [], h => by cases h
  | (b, u) :: r, h => by
    cases q : (a == b) with
    | true =>
      have h : (match a == b with | true => some u | false => r.lookup a) = some o := h
      rw [q] at h
      cases h
      rw [eq_of_beq q]
      exact List.mem_cons_self
    | false =>
      have h : (match a == b with | true => some u | false => r.lookup a) = some o := h
      rw [q] at h
      exact List.mem_cons_of_mem _ (look_mem h)
/-- the __init__ of the exceptions -/
def iniB (s : Stmt) : Bool := (match defBody s with
  | [.Assign [.Attribute (.Name a _) b _] (.Name c _) _] => decide (a = "self") && (decide (b = "what") && decide (c = "what"))
  | _ => false) && (plainArgs (defArgs s) && (decide (psOf s = [Str.ofString "self", Str.ofString "what"]) && (scopeB ["self", "what"] ["self", "what"] (defScope s) && (visB (defScope s) "self" && visB (defScope s) "what"))))
def clN (K : PySem.W.Frag) (m : Nm) : Plc := fun c => He.ga K ((m.cls.lookup c).getD Str.empty)
def glB1 (K : PySem.W.Frag) (x : Str) : W → Bool
  | .int i => (He.Fa.int x i).ok K
  | .str s => (He.Fa.str x s).ok K
  | _ => false
/-- what is asked of the heap behind the top -/
def exB (m : Nm) (Γ : Gam) (inC : Str) (K : PySem.W.Frag) : Bool :=
  (m.fns.all fun q => (He.Fa.glo q.2).ok K) && ((m.cls.all fun q => (He.Fa.glo q.2).ok K) && ((m.free.all fun x => (He.Fa.free x).ok K) && (objB K &&
    ((m.gls.all fun q => match Γ.glob q.1 with
      | some v => glB1 K q.2 v
      | _ => false) &&
    (decide (PySem.W.typeIn K (.ref (He.fAd K (inC, some "__init__"))) = some (.type "function")) &&
    (m.cls.all fun q => Γ.exc q.1 && (excB K (clN K m q.1) (He.fAd K (inC, some "__init__")) &&
      ((m.cls.all fun r => decide (PySem.W.kitOne K (.ref (clN K m q.1)) (.ref (clN K m r.1)) = some (Γ.sub q.1 r.1)) && decide (PySem.W.exmOne K (.ref (clN K m q.1)) (.ref (clN K m r.1)) = some (Γ.sub q.1 r.1))) &&
       (Γ.tys.all fun t => decide (PySem.W.kitOne K (.ref (clN K m q.1)) (.type t) = some (Γ.subT q.1 t)))))))))))
section
variable {m : Nm} {Γ : Gam} {P : Program} {w : World} {K : PySem.W.Frag} {mg : Str → Option Value} {base h : Heap} {Ns : List (Nat × List Str)}
theorem def_of (hd : defsB m Γ Ns (topDefs P) = true) (X : K.In h) (G : h.Ns mainGlobals mg) (hs : He.SaysD [] ((topDefs P).map dOf ++ [iniD P]) K) (hx : ∀ q ∈ m.fns, (He.Fa.glo q.2).ok K = true) {f : Nat} {x : Str} (hf : m.fns.lookup f = some x) :
    ∃ s d N fd, ((topDefs P).find? fun s => decide (defNm s = x)) = some s ∧ DefOk m Γ K mg f x d (defArgs s) (defBody s) (defScope s) N (He.ga K x) fd ∧ N.take d.ar = psOf s ∧ ∀ (st : Shared) (us : List Value), us.length = (psOf s).length → BindsTo st fd ⟨us, []⟩ ((psOf s).zip us) := by
  have q := List.all_eq_true.mp hd (f, x) (look_mem hf)
  dsimp only at q
  split at q
  · rename_i s d N es ed eN
    unfold defB1 at q
    simp only [Bool.and_eq_true, decide_eq_true_eq] at q
    obtain ⟨q0, q1, q2, q3, q4, q5, q6, q7, q8, q9⟩ := q
    subst q1
    obtain ⟨fd, F⟩ := He.SaysD.defs hs (d := dOf s) (List.mem_append_left _ (List.mem_map.mpr ⟨s, List.mem_of_find?_eq_some es, rfl⟩))
    refine ⟨s, d, N, fd, es, ⟨ed, He.glo_ok X G (hx _ (look_mem hf)), F, ?_, ?_, q6, by rw [q5]; exact q4, q8, fun hh => ?_⟩, q5, fun st us hu => ?_⟩
    · rw [q5]
      exact FunD.bindsN F fun kV doc pm an cdv ct us hu => bind_plain (plainArgs_ok q2) rfl q3 hu
    · rw [q5]; exact scopeB_ok q7
    · rw [hh] at q9
      exact q9
    · exact FunD.bindsA F (fun kV doc pm an cdv ct us hu => bind_plain (plainArgs_ok q2) rfl q3 hu) st us hu
  · exact (Bool.false_ne_true q).elim
theorem env_of (hd : defsB m Γ Ns (topDefs P) = true) (hi : iniB (clsInit P).2 = true) (hl : ∀ c, Γ.hc c = (m.cls.lookup c).isSome) (X : K.In h) (G : h.Ns mainGlobals mg) (hs : He.SaysD [] ((topDefs P).map dOf ++ [iniD P]) K) (hx : exB m Γ (clsInit P).1 K = true) :
    EnvS m Γ P w K mg base (clN K m) := by
  unfold exB at hx
  simp only [Bool.and_eq_true, List.all_eq_true] at hx
  obtain ⟨x1, x2, x3, x4, x5, x6, x7⟩ := hx
  have inn : ∀ c, Γ.hc c = true → ∃ x, (c, x) ∈ m.cls := fun c hc => by
    rw [hl] at hc
    obtain ⟨x, e⟩ := Option.isSome_iff_exists.mp hc
    exact ⟨x, look_mem e⟩
  have exc : ∀ c, Γ.hc c = true → Γ.exc c = true ∧ ExcFacts K (clN K m c) (He.fAd K ((clsInit P).1, some "__init__")) := fun c hc => by
    obtain ⟨x, hx⟩ := inn c hc
    obtain ⟨a, b, _⟩ := x7 _ hx
    exact ⟨a, excB_ok b x4⟩
  have atc : ∀ (c : Nat) (x : Str), m.cls.lookup c = some x → clN K m c = He.ga K x := fun c x e => by
    unfold clN
    rw [e]
    rfl
  have gl : ∀ (c : Nat) (x : Str), m.cls.lookup c = some x → mg x = some (.ref (He.ga K x)) := fun c x e => He.glo_ok X G (x2 _ (look_mem e))
  obtain ⟨fi, FI⟩ := He.SaysD.defs hs (d := iniD P) (List.mem_append_right _ (List.mem_singleton.mpr rfl))
  refine ⟨fun f x hx => ?_, fun g x hx => ?_, fun c x e => ?_, fun x hx => ?_, fun px => ⟨fun c d h1 h2 => ?_, fun c t h1 h2 => ?_, fun c h1 _ => ?_, fun c h1 h2 => ?_⟩, fun c x e h1 h2 => ?_, fun c h1 _ => ?_, fun c d h1 _ h2 _ => ?_⟩
  · obtain ⟨s, d, N, fd, _, D, _⟩ := def_of hd X G hs x1 hx
    exact ⟨_, _, _, _, _, _, _, D⟩
  · have q := x5 _ (look_mem hx)
    dsimp only at q
    split at q
    · rename_i v ev
      cases v with
      | int i =>
        obtain ⟨t, e⟩ := He.int_ok X G q
        exact ⟨_, _, .int i, ev, fun _ => rfl, fun _ => trivial, e, ⟨t, rfl⟩⟩
      | str z =>
        obtain ⟨t, e⟩ := He.str_ok X G q
        exact ⟨_, _, .str z, ev, fun _ => rfl, fun _ => trivial, e, ⟨t, rfl⟩⟩
      | _ => exact (Bool.false_ne_true q).elim
    · exact (Bool.false_ne_true q).elim
  · rw [atc c x e]
    exact gl c x e
  · exact He.free_ok X G (x3 x (List.contains_iff_mem.mp hx))
  · obtain ⟨x, y1⟩ := inn c h1
    obtain ⟨x', y2⟩ := inn d h2
    exact of_decide_eq_true ((x7 _ y1).2.2.1 _ y2).1
  · obtain ⟨x, y1⟩ := inn c h1
    exact of_decide_eq_true ((x7 _ y1).2.2.2 t h2)
  · exact (exc c h1).2.exc
  · rw [(exc c h1).1] at h2; cases h2
  · obtain ⟨_, T⟩ := exc c h1
    refine ⟨?_, T.oex, T.no, _, fi, T.ini, of_decide_eq_true x6, ?_, ?_⟩
    · rw [atc c x e]; exact gl c x e
    all_goals
      unfold iniB at hi
      simp only [Bool.and_eq_true, decide_eq_true_eq] at hi
      obtain ⟨i1, i2, i3, i4, i5, i6⟩ := hi
    · exact FunD.bindsN (ps := ["self", "what"]) FI fun kV doc pm an cdv ct us hu => by
        have := bind_plain (fd := PySem.W.fnOf "__init__" ((clsInit P).1 ++ ".__init__") (defArgs (clsInit P).2) (defBody (clsInit P).2) (defScope (clsInit P).2) .none kV doc pm an cdv ct) (us := us) (plainArgs_ok i2) rfl
        rw [show (defArgs (clsInit P).2).args.map (·.arg) = [Str.ofString "self", Str.ofString "what"] from i3] at this
        exact this (by decide) hu
    · split at i1
      · rename_i a pa b pb c' pc pd hb
        simp only [Bool.and_eq_true, decide_eq_true_eq] at i1
        obtain ⟨rfl, rfl, rfl⟩ := i1
        have FI' := FI
        unfold iniD at FI'
        dsimp only at FI'
        rw [hb] at FI'
        exact init_ok FI' (scopeB_ok i4) (vis_of i5) (vis_of i6)
      · exact (Bool.false_ne_true i1).elim
  · obtain ⟨_, T⟩ := exc c h1
    exact ⟨T.exc.hg, T.exc.hk, T.no, T.exc.hs, T.exc.hd⟩
  · obtain ⟨x, y1⟩ := inn c h1
    obtain ⟨x', y2⟩ := inn d h2
    exact of_decide_eq_true ((x7 _ y1).2.2.1 _ y2).2
end
end Mp
set_option Elab.async false
set_option linter.all false
set_option maxRecDepth 100000
set_option maxHeartbeats 1000000
/-! Mp S: the law's walk, by the evaluator's word. -/
namespace Mp
open PySem PySem.Spec PyProof.Rows L2
theorem walk_cx {l : PySem.W.OpenLaw} {n k : Nat} {q : Program} {loose : List Str} {XP : (Str → Option Value) → Heap → Prop} {YP : World → Heap → Prop} {d : DefRec} {x : Str} (hn : l.most = some n) (hs : n ≤ sizeLine) (hdf : d.params.defaults = []) (hr : Room k callerA)
    (F : ∀ (w : World) (mg : Str → Option Value) (fa : Addr) (h : Heap), YP w h → h.Ns mainGlobals mg → mg d.name = some (.ref fa) → ∃ (K : PySem.W.Frag) (fd : FuncData) (sp : Sp), K.In h ∧ (∀ (s : Shared) (u : Value), BindsTo s fd ⟨[u], []⟩ [(x, u)]) ∧
      (∀ (H : Hp) (a : Addr) (ns : List Int), ns.length ≤ n → Only H → SqL K H a (ns.map V.int) → sp [.ref a] H (fun v _ => v = .bl true) fun _ _ _ => False) ∧ ∀ base : Heap, K.In base → base.Ns mainGlobals mg → FnOk l.prog w K mg base (L2N.CX l.prog w) k fa fd [x] sp) :
    PySem.W.WalkO q loose XP YP l.row.toRowW d [] (fun f vs => PySem.call f vs) := by
  refine Att.attach_call hn hdf fun w s0 s1 mg mb fa o pm cd doc a vs ns G Y ho hd hcd hmg hobj hints hlen hg => ?_
  obtain ⟨K, fd, sp, KX, hb, hsp, hF⟩ := F w mg fa _ Y G.T.g hmg
  exact law_call KX G.T.g G.T.b G.T.builtins G.T.nolimit hg hobj hints (Nat.le_trans hlen hs) hr hF hb (fun H hO hS => hsp H a ns hlen hO hS) fun H e s' ⟨_, _, _, _, _, _, _, _, _, _, _, _, z⟩ => z
section
variable {m : Nm} {Γ : Gam} {Ns : List (Nat × List Str)} {wf n f N : Nat} {l : PySem.W.OpenLaw} {q : Program} {loose : List Str} {XP : (Str → Option Value) → Heap → Prop} {d : DefRec} {x : Str}
abbrev hkP (N : Nat) (P : Program) (m : Nm) (Γ : Gam) : PySem.W.Hook := He.hookX N [] ((topDefs P).map dOf ++ [iniD P]) [] [] (exB m Γ (clsInit P).1)
theorem law_walk (hn : l.most = some 63) (hdf : d.params.defaults = []) (hr : Room (n + 3) callerA) (hf : m.fns.lookup f = some d.name) (hx : ((topDefs l.prog).find? fun s => decide (defNm s = d.name)).map psOf = some [x])
    (hd : defsB m Γ Ns (topDefs l.prog) = true) (hi : iniB (clsInit l.prog).2 = true) (hl : ∀ c, Γ.hc c = (m.cls.lookup c).isSome)
    (run : ∀ ns : List Int, ns.length ≤ 63 → ∃ h', call Γ wf (n + 1) f [.ref 0] [.frl (ns.map W.int)] = some (.ok (.bl true), h')) :
    PySem.W.WalkO q loose XP (hkP N l.prog m Γ).says l.row.toRowW d [] (fun f vs => PySem.call f vs) := by
  refine walk_cx (x := x) hn (by rw [sizeLine_eq]; decide) hdf hr fun w mg fa h Y G hmg => ?_
  obtain ⟨K, KX, S⟩ := Y
  have E : ∀ base, EnvS m Γ l.prog w K mg base (clN K m) := fun base => env_of hd hi hl KX G S.t.d S.more
  have x1 : ∀ q ∈ m.fns, (He.Fa.glo q.2).ok K = true := List.all_eq_true.mp (Bool.and_eq_true_iff.mp S.more).1
  obtain ⟨s, dd, NN, fd, es, D, eN, hB⟩ := def_of hd KX G S.t.d x1 hf
  rw [es] at hx
  have ep : psOf s = [x] := Option.some.inj hx
  have ef : He.ga K d.name = fa := by
    have z := D.glo
    rw [hmg] at z
    injection z with z
    injection z with z
    exact z.symm
  rw [ef] at D
  rw [ep] at hB eN
  have ar1 : dd.ar = 1 := by rw [← D.par, eN]; rfl
  refine ⟨K, fd, spE ⟨clN K m, K, none⟩ (call Γ wf (n + 1)) dd.ar f, KX, fun st u => hB st [u] rfl, fun H a ns hl hO hS => ?_, fun base hK hG => ?_⟩
  · obtain ⟨h', e⟩ := run ns hl
    refine ⟨fun _ => a, [.frl (ns.map W.int)], [.ref 0], rfl, ar1.symm, fun w hw => ?_, ⟨fun i o e => ?_, fun i j o u e1 e2 h1 h2 _ => ?_, fun i o e => ?_⟩, ?_⟩
    · rw [List.mem_singleton.mp hw]; exact Nat.zero_lt_one
    · cases i with
      | zero =>
        cases e
        show Frl K H a ((ns.map W.int).map (tv _ _))
        rw [List.map_map]
        have em : (tv (clN K m) (fun _ => a)) ∘ W.int = V.int := rfl
        show Frl K H a (ns.map ((tv (clN K m) (fun _ => a)) ∘ W.int))
        rw [em]
        rcases hS with (z | ⟨o, z⟩) | z
        · rcases hO a with y | ⟨o, xs, y⟩
          · rw [y] at z; cases z
          · rw [y] at z; cases z
        · exact .inl ⟨o, z⟩
        · exact .inr z
      | succ i => cases e
    · cases i with
      | zero => cases j with
        | zero => rfl
        | succ j => cases e2
      | succ i => cases e1
    · cases i with
      | zero =>
        cases e
        intro w hw
        obtain ⟨z, _, rfl⟩ := List.mem_map.mp hw
        trivial
      | succ i => cases e
    · rw [e]
      intro m' H' _ _ _
      rfl
  · have E1 := def_ok D (env_all (wf := wf) (E base) n)
    rw [eN] at E1
    exact E1
end
end Mp
set_option Elab.async false
set_option linter.all false
set_option maxRecDepth 100000
/-! Mp T: the evaluator by named continuations: rules for simp that open nothing ahead of its turn. -/
namespace Mp
section
variable (Γ : Gam) (k : Calls) (wf : Nat) (ρ : Env)
def varF (h : Hq) : Option (Option W) → M W
  | some (some v) => ret v h
  | _ => none
def globF (h : Hq) : Option W → M W
  | some v => ret v h
  | none => none
def kBin1 (o : BOp) (b : E) (x : W) (h : Hq) : M W := bnd (evE Γ k b ρ h) (binV o x)
def kNeg (x : W) (h : Hq) : M W := match x with
  | .int i => ret (.int (-i)) h
  | _ => none
def kCmp2 (o : COp) (x y : W) (h : Hq) : M W := optB (cmpV o x y h) h
def kCmp1 (o : COp) (b : E) (x : W) (h : Hq) : M W := bnd (evE Γ k b ρ h) (kCmp2 o x)
def kIsN (s : Bool) (x : W) (h : Hq) : M W := ret (.bl (s == decide (x = .non))) h
def kChn3 (p : COp) (c : E) (y : W) (t : Bool) (h : Hq) : M W := if t = true then bnd (evE Γ k c ρ h) (kCmp2 p y) else ret (.bl false) h
def kChn2 (o p : COp) (c : E) (x y : W) (h : Hq) : M W := bnd (optT (cmpV o x y h) h) (kChn3 Γ k ρ p c y)
def kChn1 (o p : COp) (b c : E) (x : W) (h : Hq) : M W := bnd (evE Γ k b ρ h) (kChn2 Γ k ρ o p c x)
def kNot (x : W) (h : Hq) : M W := match x with
  | .bl b => ret (.bl (!b)) h
  | _ => none
def kAnd (b : E) (x : W) (h : Hq) : M W := match x with
  | .bl true => evE Γ k b ρ h
  | .bl false => ret (.bl false) h
  | _ => none
def kOr (b : E) (x : W) (h : Hq) : M W := match x with
  | .bl true => ret (.bl true) h
  | .bl false => evE Γ k b ρ h
  | _ => none
def kIte (a b : E) (t : Bool) (h : Hq) : M W := if t = true then evE Γ k a ρ h else evE Γ k b ρ h
def mthF : Bool → M W → M W
  | true, r => r
  | false, _ => none
def kMth (m : Mt) (es : Es) (x : W) (h : Hq) : M W := mthF (mthPre m x h) (bnd (evEs Γ k es ρ h) (mthV m x))
def kLrg (a : E) (x : W) (h : Hq) : M W := bnd (evE Γ k a ρ h) (lrgV x)
def kIx (i : E) (x : W) (h : Hq) : M W := bnd (evE Γ k i ρ h) (ixV x)
def kCut2 (hi : Op) (x : W) (l : Option Int) (h : Hq) : M W := bnd (evO Γ k hi ρ h) (cutW x l)
def kCut1 (lo hi : Op) (x : W) (h : Hq) : M W := bnd (evO Γ k lo ρ h) (kCut2 Γ k ρ hi x)
def kTup (vs : List W) (h : Hq) : M W := if vs.length ≤ line then alloc (.tup vs) h else none
def kLst (vs : List W) (h : Hq) : M W := if vs.length ≤ line then alloc (.lst vs) h else none
def Ct (c : Op) (x : Nat) (v : W) (h : Hq) : M Bool := evC Γ k c (ρ.set x (some v)) h
def Ce (el : E) (x : Nat) (v : W) (h : Hq) : M W := evE Γ k el (ρ.set x (some v)) h
def compF (D : Nat) : Option Hq → M W
  | some h' => ret (.ref D) h'
  | none => none
def kComp (x : Nat) (c : Op) (el : E) (w : Wk) (h : Hq) : M W := compF h.length (compL w.1 h.length (Ct Γ k ρ c x) (Ce Γ k ρ el x) w.2 (h ++ [.lst []]))
def kNotT (b : Bool) (h : Hq) : M Bool := ret (!b) h
def kAndT (b : E) (t : Bool) (h : Hq) : M Bool := if t = true then evT Γ k b ρ h else ret false h
def kOrT (b : E) (t : Bool) (h : Hq) : M Bool := if t = true then ret true h else evT Γ k b ρ h
def kCmpT2 (o : COp) (x y : W) (h : Hq) : M Bool := optT (cmpV o x y h) h
def kCmpT1 (o : COp) (b : E) (x : W) (h : Hq) : M Bool := bnd (evE Γ k b ρ h) (kCmpT2 o x)
def kIsNT (s : Bool) (x : W) (h : Hq) : M Bool := ret (s == decide (x = .non)) h
def kChnT3 (p : COp) (c : E) (y : W) (t : Bool) (h : Hq) : M Bool := if t = true then bnd (evE Γ k c ρ h) (kCmpT2 p y) else ret false h
def kChnT2 (o p : COp) (c : E) (x y : W) (h : Hq) : M Bool := bnd (optT (cmpV o x y h) h) (kChnT3 Γ k ρ p c y)
def kChnT1 (o p : COp) (b c : E) (x : W) (h : Hq) : M Bool := bnd (evE Γ k b ρ h) (kChnT2 Γ k ρ o p c x)
def varT (h : Hq) : Option (Option W) → M Bool
  | some (some v) => optT (truV h v) h
  | _ => none
def kTru (x : W) (h : Hq) : M Bool := optT (truV h x) h
def kCallT (f : Nat) (vs : List W) (h : Hq) : M Bool := bnd (k f vs h) kTru
def kFnT (b : Fn) (vs : List W) (h : Hq) : M Bool := bnd (fnV Γ b vs h) kTru
def kIxT2 (x y : W) (h : Hq) : M Bool := bnd (ixV x y h) kTru
def kIxT (i : E) (x : W) (h : Hq) : M Bool := bnd (evE Γ k i ρ h) (kIxT2 x)
def kEs2 (v : W) (vs : List W) (h : Hq) : M (List W) := ret (v :: vs) h
def kEs1 (es : Es) (v : W) (h : Hq) : M (List W) := bnd (evEs Γ k es ρ h) (kEs2 v)
def kO (v : W) (h : Hq) : M (Option Int) := match v with
  | .int i => ret (some i) h
  | _ => none
def rngF : Bool → List W → Hq → M Wk
  | true, xs, h => ret (none, xs) h
  | false, _, _ => none
def kRng (v : W) (h : Hq) : M Wk := match v with
  | .int j => rngF (rngOk j) (rngL 0 j) h
  | _ => none
def kRng22 (v w : W) (h : Hq) : M Wk := match v, w with
  | .int i, .int j => rngF (rngOk i && rngOk j) (rngL i j) h
  | _, _ => none
def kRng2 (b : E) (v : W) (h : Hq) : M Wk := bnd (evE Γ k b ρ h) (kRng22 v)
def kAsg (i : Nat) (v : W) (h : Hq) : RS := some (.nx (ρ.set i (some v)), h)
def unpF (is : List Nat) (h : Hq) : Option (List W) → RS
  | some xs => (match setAll is xs ρ with
    | some ρ' => some (.nx ρ', h)
    | none => none)
  | none => none
def kUnp (is : List Nat) (v : W) (h : Hq) : RS := unpF ρ is h (tupOf h v)
def stoF : Option Hq → RS
  | some h' => some (.nx ρ, h')
  | none => none
def kSto3 (v x y : W) (h : Hq) : RS := stoF ρ (setV x y v h)
def kSto2 (i : E) (v x : W) (h : Hq) : RS := lft (evE Γ k i ρ h) ρ (kSto3 ρ v x)
def kSto1 (o i : E) (v : W) (h : Hq) : RS := lft (evE Γ k o ρ h) ρ (kSto2 Γ k ρ i v)
def kAug1 (i : Nat) (o : BOp) (x y : W) (h : Hq) : RS := lft (augV o x y h) ρ (kAsg ρ i)
def augF (i : Nat) (o : BOp) (e : E) (h : Hq) : Option (Option W) → RS
  | some (some x) => lft (evE Γ k e ρ h) ρ (kAug1 ρ i o x)
  | _ => none
def kExp (_ : W) (h : Hq) : RS := some (.nx ρ, h)
def kIf (a b : Ss) (t : Bool) (h : Hq) : RS := if t = true then exSs Γ wf k a ρ h else exSs Γ wf k b ρ h
def Bd (b : Ss) (ρ : Env) (h : Hq) : RS := exSs Γ wf k b ρ h
def Tt (c : E) (ρ : Env) (h : Hq) : M Bool := evT Γ k c ρ h
def kFor (t : Nat) (b : Ss) (w : Wk) (h : Hq) : RS := forL w.1 t (Bd Γ k wf b) w.2 ρ h
def kRet (v : W) (h : Hq) : RS := some (.ret v, h)
def kRse (c : Nat) (v : W) (h : Hq) : RS := some (.exc c v ρ, h)
def tryE (i : Nat) : RS → RS
  | some (.nx ρ2, h2) => some (.nx (ρ2.set i none), h2.map killX)
  | some (.ret v, h2) => some (.ret v, h2.map killX)
  | _ => none
def tryF (c i : Nat) (hb : Ss) : RS → RS
  | some (.exc c' w ρ', h') => if (Γ.hc c' && Γ.exc c') = true then (if Γ.sub c' c = true then tryE i (exSs Γ wf k hb (ρ'.set i (some (.ref h'.length))) (h' ++ [.exc c' w])) else some (.exc c' w ρ', h')) else none
  | r => r
def kSs (r : Ss) (ρ : Env) (h : Hq) : RS := exSs Γ wf k r ρ h
end
section
variable {Γ : Gam} {k : Calls} {wf : Nat} {ρ : Env} {h : Hq}
/-! ### what fires -/
@[simp] theorem varF_some (v : W) : varF h (some (some v)) = ret v h := rfl
@[simp] theorem globF_some (v : W) : globF h (some v) = ret v h := rfl
@[simp] theorem kBin1_ap (o : BOp) (b : E) (x : W) : kBin1 Γ k ρ o b x h = bnd (evE Γ k b ρ h) (binV o x) := rfl
@[simp] theorem kNeg_ap (i : Int) : kNeg (.int i) h = ret (.int (-i)) h := rfl
@[simp] theorem kCmp2_ap (o : COp) (x y : W) : kCmp2 o x y h = optB (cmpV o x y h) h := rfl
@[simp] theorem kCmp1_ap (o : COp) (b : E) (x : W) : kCmp1 Γ k ρ o b x h = bnd (evE Γ k b ρ h) (kCmp2 o x) := rfl
@[simp] theorem kIsN_ap (s : Bool) (x : W) : kIsN s x h = ret (.bl (s == decide (x = .non))) h := rfl
@[simp] theorem kChn3_t (p : COp) (c : E) (y : W) : kChn3 Γ k ρ p c y true h = bnd (evE Γ k c ρ h) (kCmp2 p y) := rfl
@[simp] theorem kChn3_f (p : COp) (c : E) (y : W) : kChn3 Γ k ρ p c y false h = ret (.bl false) h := rfl
@[simp] theorem kChn2_ap (o p : COp) (c : E) (x y : W) : kChn2 Γ k ρ o p c x y h = bnd (optT (cmpV o x y h) h) (kChn3 Γ k ρ p c y) := rfl
@[simp] theorem kChn1_ap (o p : COp) (b c : E) (x : W) : kChn1 Γ k ρ o p b c x h = bnd (evE Γ k b ρ h) (kChn2 Γ k ρ o p c x) := rfl
@[simp] theorem kNot_ap (b : Bool) : kNot (.bl b) h = ret (.bl (!b)) h := rfl
@[simp] theorem kAnd_t (b : E) : kAnd Γ k ρ b (.bl true) h = evE Γ k b ρ h := rfl
@[simp] theorem kAnd_f (b : E) : kAnd Γ k ρ b (.bl false) h = ret (.bl false) h := rfl
@[simp] theorem kOr_t (b : E) : kOr Γ k ρ b (.bl true) h = ret (.bl true) h := rfl
@[simp] theorem kOr_f (b : E) : kOr Γ k ρ b (.bl false) h = evE Γ k b ρ h := rfl
@[simp] theorem kIte_t (a b : E) : kIte Γ k ρ a b true h = evE Γ k a ρ h := rfl
@[simp] theorem kIte_f (a b : E) : kIte Γ k ρ a b false h = evE Γ k b ρ h := rfl
@[simp] theorem mthF_t (r : M W) : mthF true r = r := rfl
@[simp] theorem kMth_ap (m : Mt) (es : Es) (x : W) : kMth Γ k ρ m es x h = mthF (mthPre m x h) (bnd (evEs Γ k es ρ h) (mthV m x)) := rfl
@[simp] theorem kIx_ap (i : E) (x : W) : kIx Γ k ρ i x h = bnd (evE Γ k i ρ h) (ixV x) := rfl
@[simp] theorem kCut2_ap (hi : Op) (x : W) (l : Option Int) : kCut2 Γ k ρ hi x l h = bnd (evO Γ k hi ρ h) (cutW x l) := rfl
@[simp] theorem kCut1_ap (lo hi : Op) (x : W) : kCut1 Γ k ρ lo hi x h = bnd (evO Γ k lo ρ h) (kCut2 Γ k ρ hi x) := rfl
@[simp] theorem compF_some (D : Nat) (h' : Hq) : compF D (some h') = ret (.ref D) h' := rfl
@[simp] theorem kComp_ap (x : Nat) (c : Op) (el : E) (w : Wk) : kComp Γ k ρ x c el w h = compF h.length (compL w.1 h.length (Ct Γ k ρ c x) (Ce Γ k ρ el x) w.2 (h ++ [.lst []])) := rfl
@[simp] theorem kNotT_ap (b : Bool) : kNotT b h = ret (!b) h := rfl
@[simp] theorem kAndT_t (b : E) : kAndT Γ k ρ b true h = evT Γ k b ρ h := rfl
@[simp] theorem kAndT_f (b : E) : kAndT Γ k ρ b false h = ret false h := rfl
@[simp] theorem kOrT_t (b : E) : kOrT Γ k ρ b true h = ret true h := rfl
@[simp] theorem kOrT_f (b : E) : kOrT Γ k ρ b false h = evT Γ k b ρ h := rfl
@[simp] theorem kCmpT2_ap (o : COp) (x y : W) : kCmpT2 o x y h = optT (cmpV o x y h) h := rfl
@[simp] theorem kCmpT1_ap (o : COp) (b : E) (x : W) : kCmpT1 Γ k ρ o b x h = bnd (evE Γ k b ρ h) (kCmpT2 o x) := rfl
@[simp] theorem kIsNT_ap (s : Bool) (x : W) : kIsNT s x h = ret (s == decide (x = .non)) h := rfl
@[simp] theorem kChnT3_t (p : COp) (c : E) (y : W) : kChnT3 Γ k ρ p c y true h = bnd (evE Γ k c ρ h) (kCmpT2 p y) := rfl
@[simp] theorem kChnT3_f (p : COp) (c : E) (y : W) : kChnT3 Γ k ρ p c y false h = ret false h := rfl
@[simp] theorem kChnT2_ap (o p : COp) (c : E) (x y : W) : kChnT2 Γ k ρ o p c x y h = bnd (optT (cmpV o x y h) h) (kChnT3 Γ k ρ p c y) := rfl
@[simp] theorem kChnT1_ap (o p : COp) (b c : E) (x : W) : kChnT1 Γ k ρ o p b c x h = bnd (evE Γ k b ρ h) (kChnT2 Γ k ρ o p c x) := rfl
@[simp] theorem varT_some (v : W) : varT h (some (some v)) = optT (truV h v) h := rfl
@[simp] theorem kTru_ap (x : W) : kTru x h = optT (truV h x) h := rfl
@[simp] theorem kCallT_ap (f : Nat) (vs : List W) : kCallT k f vs h = bnd (k f vs h) kTru := rfl
@[simp] theorem kFnT_ap (b : Fn) (vs : List W) : kFnT Γ b vs h = bnd (fnV Γ b vs h) kTru := rfl
@[simp] theorem kIxT2_ap (x y : W) : kIxT2 x y h = bnd (ixV x y h) kTru := rfl
@[simp] theorem kIxT_ap (i : E) (x : W) : kIxT Γ k ρ i x h = bnd (evE Γ k i ρ h) (kIxT2 x) := rfl
@[simp] theorem kEs2_ap (v : W) (vs : List W) : kEs2 v vs h = ret (v :: vs) h := rfl
@[simp] theorem kEs1_ap (es : Es) (v : W) : kEs1 Γ k ρ es v h = bnd (evEs Γ k es ρ h) (kEs2 v) := rfl
@[simp] theorem kO_ap (i : Int) : kO (.int i) h = ret (some i) h := rfl
@[simp] theorem rngF_t (xs : List W) : rngF true xs h = ret (none, xs) h := rfl
@[simp] theorem kRng_ap (j : Int) : kRng (.int j) h = rngF (rngOk j) (rngL 0 j) h := rfl
@[simp] theorem kRng22_ap (i j : Int) : kRng22 (.int i) (.int j) h = rngF (rngOk i && rngOk j) (rngL i j) h := rfl
@[simp] theorem kRng2_ap (b : E) (v : W) : kRng2 Γ k ρ b v h = bnd (evE Γ k b ρ h) (kRng22 v) := rfl
@[simp] theorem kAsg_ap (i : Nat) (v : W) : kAsg ρ i v h = some (.nx (ρ.set i (some v)), h) := rfl
@[simp] theorem kUnp_ap (is : List Nat) (v : W) : kUnp ρ is v h = unpF ρ is h (tupOf h v) := rfl
@[simp] theorem unpF_some (is : List Nat) (xs : List W) : unpF ρ is h (some xs) = (match setAll is xs ρ with | some ρ' => some (.nx ρ', h) | none => none) := rfl
@[simp] theorem stoF_some (h' : Hq) : stoF ρ (some h') = some (.nx ρ, h') := rfl
@[simp] theorem kSto3_ap (v x y : W) : kSto3 ρ v x y h = stoF ρ (setV x y v h) := rfl
@[simp] theorem kSto2_ap (i : E) (v x : W) : kSto2 Γ k ρ i v x h = lft (evE Γ k i ρ h) ρ (kSto3 ρ v x) := rfl
@[simp] theorem kSto1_ap (o i : E) (v : W) : kSto1 Γ k ρ o i v h = lft (evE Γ k o ρ h) ρ (kSto2 Γ k ρ i v) := rfl
@[simp] theorem kAug1_ap (i : Nat) (o : BOp) (x y : W) : kAug1 ρ i o x y h = lft (augV o x y h) ρ (kAsg ρ i) := rfl
@[simp] theorem augF_some (i : Nat) (o : BOp) (e : E) (x : W) : augF Γ k ρ i o e h (some (some x)) = lft (evE Γ k e ρ h) ρ (kAug1 ρ i o x) := rfl
@[simp] theorem kExp_ap (v : W) : kExp ρ v h = some (.nx ρ, h) := rfl
@[simp] theorem kIf_t (a b : Ss) : kIf Γ k wf ρ a b true h = exSs Γ wf k a ρ h := rfl
@[simp] theorem kIf_f (a b : Ss) : kIf Γ k wf ρ a b false h = exSs Γ wf k b ρ h := rfl
theorem Bd_ap (b : Ss) : Bd Γ k wf b ρ h = exSs Γ wf k b ρ h := rfl
theorem Tt_ap (c : E) : Tt Γ k c ρ h = evT Γ k c ρ h := rfl
theorem Ct_ap (c : Op) (x : Nat) (v : W) : Ct Γ k ρ c x v h = evC Γ k c (ρ.set x (some v)) h := rfl
theorem Ce_ap (el : E) (x : Nat) (v : W) : Ce Γ k ρ el x v h = evE Γ k el (ρ.set x (some v)) h := rfl
@[simp] theorem kFor_ap (t : Nat) (b : Ss) (w : Wk) : kFor Γ k wf ρ t b w h = forL w.1 t (Bd Γ k wf b) w.2 ρ h := rfl
@[simp] theorem kRet_ap (v : W) : kRet v h = some (.ret v, h) := rfl
@[simp] theorem kRse_ap (c : Nat) (v : W) : kRse ρ c v h = some (.exc c v ρ, h) := rfl
@[simp] theorem tryE_nx (i : Nat) : tryE i (some (.nx ρ, h)) = some (.nx (ρ.set i none), h.map killX) := rfl
@[simp] theorem tryE_ret (i : Nat) (v : W) : tryE i (some (.ret v, h)) = some (.ret v, h.map killX) := rfl
@[simp] theorem tryF_nx (c i : Nat) (hb : Ss) : tryF Γ k wf c i hb (some (.nx ρ, h)) = some (.nx ρ, h) := rfl
@[simp] theorem tryF_ret (c i : Nat) (hb : Ss) (v : W) : tryF Γ k wf c i hb (some (.ret v, h)) = some (.ret v, h) := rfl
theorem tryF_exc {c i c' : Nat} {hb : Ss} {w : W} (h1 : (Γ.hc c' && Γ.exc c') = true) (h2 : Γ.sub c' c = true) : tryF Γ k wf c i hb (some (.exc c' w ρ, h)) = tryE i (exSs Γ wf k hb (ρ.set i (some (.ref h.length))) (h ++ [.exc c' w])) := by
  unfold tryF
  dsimp only
  rw [if_pos h1, if_pos h2]
@[simp] theorem kSs_ap (r : Ss) : kSs Γ k wf r ρ h = exSs Γ wf k r ρ h := rfl
/-! ### the constructs -/
@[simp] theorem evE_var (i : Nat) : evE Γ k (.var i) ρ h = varF h ρ[i]? := by rw [evE]; rfl
@[simp] theorem evE_cst (w : W) : evE Γ k (.cst w) ρ h = ret w h := by rw [evE]
@[simp] theorem evE_glob (g : Nat) : evE Γ k (.glob g) ρ h = globF h (Γ.glob g) := by rw [evE]; rfl
@[simp] theorem evE_ty (n : String) : evE Γ k (.ty n) ρ h = ret (.ty n) h := by rw [evE]
@[simp] theorem evE_cls (c : Nat) : evE Γ k (.cls c) ρ h = ret (.cls c) h := by rw [evE]
@[simp] theorem evE_bin (o : BOp) (a b : E) : evE Γ k (.bin o a b) ρ h = bnd (evE Γ k a ρ h) (kBin1 Γ k ρ o b) := by rw [evE]; rfl
@[simp] theorem evE_neg (a : E) : evE Γ k (.neg a) ρ h = bnd (evE Γ k a ρ h) kNeg := by rw [evE]; rfl
@[simp] theorem evE_cmp (o : COp) (a b : E) : evE Γ k (.cmp o a b) ρ h = bnd (evE Γ k a ρ h) (kCmp1 Γ k ρ o b) := by rw [evE]; rfl
@[simp] theorem evE_isN (s : Bool) (a : E) : evE Γ k (.isN s a) ρ h = bnd (evE Γ k a ρ h) (kIsN s) := by rw [evE]; rfl
@[simp] theorem evE_chn (o p : COp) (a b c : E) : evE Γ k (.chn o p a b c) ρ h = bnd (evE Γ k a ρ h) (kChn1 Γ k ρ o p b c) := by rw [evE]; rfl
@[simp] theorem evE_not (a : E) : evE Γ k (.not a) ρ h = bnd (evE Γ k a ρ h) kNot := by rw [evE]; rfl
@[simp] theorem evE_and (a b : E) : evE Γ k (.and a b) ρ h = bnd (evE Γ k a ρ h) (kAnd Γ k ρ b) := by rw [evE]; rfl
@[simp] theorem evE_or (a b : E) : evE Γ k (.or a b) ρ h = bnd (evE Γ k a ρ h) (kOr Γ k ρ b) := by rw [evE]; rfl
@[simp] theorem evE_ite (c a b : E) : evE Γ k (.ite c a b) ρ h = bnd (evT Γ k c ρ h) (kIte Γ k ρ a b) := by rw [evE]; rfl
@[simp] theorem evE_call (f : Nat) (es : Es) : evE Γ k (.call f es) ρ h = bnd (evEs Γ k es ρ h) (k f) := by rw [evE]
@[simp] theorem evE_fn (b : Fn) (es : Es) : evE Γ k (.fn b es) ρ h = bnd (evEs Γ k es ρ h) (fnV Γ b) := by rw [evE]
@[simp] theorem evE_mth (m : Mt) (o : E) (es : Es) : evE Γ k (.mth m o es) ρ h = bnd (evE Γ k o ρ h) (kMth Γ k ρ m es) := by
  rw [evE]
  congr 1
  funext x h
  unfold kMth
  cases mthPre m x h <;> rfl
@[simp] theorem evE_attr (f : PySem.Str) (o : E) : evE Γ k (.attr f o) ρ h = bnd (evE Γ k o ρ h) (attrV Γ f) := by rw [evE]
@[simp] theorem evE_lrg (a : E) : evE Γ k (.lrg a) ρ h = bnd (evE Γ k a ρ h) (lrgV (.int 0)) := by rw [evE]
@[simp] theorem evE_ix (a i : E) : evE Γ k (.ix a i) ρ h = bnd (evE Γ k a ρ h) (kIx Γ k ρ i) := by rw [evE]; rfl
@[simp] theorem evE_cut (a : E) (lo hi : Op) : evE Γ k (.cut a lo hi) ρ h = bnd (evE Γ k a ρ h) (kCut1 Γ k ρ lo hi) := by rw [evE]; rfl
@[simp] theorem evE_tup (es : Es) : evE Γ k (.tup es) ρ h = bnd (evEs Γ k es ρ h) kTup := by rw [evE]; rfl
@[simp] theorem evE_lst (es : Es) : evE Γ k (.lst es) ρ h = bnd (evEs Γ k es ρ h) kLst := by rw [evE]; rfl
@[simp] theorem evE_comp (x : Nat) (s : Src) (c : Op) (el : E) : evE Γ k (.comp x s c el) ρ h = bnd (evS Γ k s ρ h) (kComp Γ k ρ x c el) := by
  rw [evE]
  congr 1
@[simp] theorem evT_not (a : E) : evT Γ k (.not a) ρ h = bnd (evT Γ k a ρ h) kNotT := by rw [evT]; rfl
@[simp] theorem evT_and (a b : E) : evT Γ k (.and a b) ρ h = bnd (evT Γ k a ρ h) (kAndT Γ k ρ b) := by rw [evT]; rfl
@[simp] theorem evT_or (a b : E) : evT Γ k (.or a b) ρ h = bnd (evT Γ k a ρ h) (kOrT Γ k ρ b) := by rw [evT]; rfl
@[simp] theorem evT_cmp (o : COp) (a b : E) : evT Γ k (.cmp o a b) ρ h = bnd (evE Γ k a ρ h) (kCmpT1 Γ k ρ o b) := by rw [evT]; rfl
@[simp] theorem evT_isN (s : Bool) (a : E) : evT Γ k (.isN s a) ρ h = bnd (evE Γ k a ρ h) (kIsNT s) := by rw [evT]; rfl
@[simp] theorem evT_chn (o p : COp) (a b c : E) : evT Γ k (.chn o p a b c) ρ h = bnd (evE Γ k a ρ h) (kChnT1 Γ k ρ o p b c) := by rw [evT]; rfl
@[simp] theorem evT_var (i : Nat) : evT Γ k (.var i) ρ h = varT h ρ[i]? := by rw [evT]; rfl
@[simp] theorem evT_call (f : Nat) (es : Es) : evT Γ k (.call f es) ρ h = bnd (evEs Γ k es ρ h) (kCallT k f) := by rw [evT]; rfl
@[simp] theorem evT_fn (b : Fn) (es : Es) : evT Γ k (.fn b es) ρ h = bnd (evEs Γ k es ρ h) (kFnT Γ b) := by rw [evT]; rfl
@[simp] theorem evT_ix (a i : E) : evT Γ k (.ix a i) ρ h = bnd (evE Γ k a ρ h) (kIxT Γ k ρ i) := by rw [evT]; rfl
@[simp] theorem evEs_nil : evEs Γ k .nil ρ h = ret [] h := by rw [evEs]
@[simp] theorem evEs_cons (e : E) (es : Es) : evEs Γ k (.cons e es) ρ h = bnd (evE Γ k e ρ h) (kEs1 Γ k ρ es) := by rw [evEs]; rfl
@[simp] theorem evO_no : evO Γ k .no ρ h = ret none h := by rw [evO]
@[simp] theorem evO_yes (e : E) : evO Γ k (.yes e) ρ h = bnd (evE Γ k e ρ h) kO := by rw [evO]; rfl
@[simp] theorem evC_no : evC Γ k .no ρ h = ret true h := by rw [evC]
@[simp] theorem evC_yes (e : E) : evC Γ k (.yes e) ρ h = evT Γ k e ρ h := by rw [evC]
@[simp] theorem evS_any (e : E) : evS Γ k (.any e) ρ h = bnd (evE Γ k e ρ h) walkOf := by rw [evS]
@[simp] theorem evS_rng (e : E) : evS Γ k (.rng e) ρ h = bnd (evE Γ k e ρ h) kRng := by
  rw [evS]
  congr 1
  funext v h
  cases v with
  | int j => unfold kRng; dsimp only; cases rngOk j <;> rfl
  | _ => rfl
@[simp] theorem evS_rng2 (a b : E) : evS Γ k (.rng2 a b) ρ h = bnd (evE Γ k a ρ h) (kRng2 Γ k ρ b) := by
  rw [evS]
  congr 1
  funext v h
  unfold kRng2
  congr 1
  funext w h
  cases v with
  | int i => cases w with
    | int j => unfold kRng22; dsimp only; cases (rngOk i && rngOk j) <;> rfl
    | _ => rfl
  | _ => rfl
@[simp] theorem exS_asg (i : Nat) (e : E) : exS Γ wf k (.asg i e) ρ h = lft (evE Γ k e ρ h) ρ (kAsg ρ i) := by rw [exS]; rfl
@[simp] theorem exS_asc (i : Nat) (e : E) : exS Γ wf k (.asc i e) ρ h = lft (evE Γ k e ρ h) ρ (kAsg ρ i) := by rw [exS]; rfl
@[simp] theorem exS_unp (is : List Nat) (e : E) : exS Γ wf k (.unp is e) ρ h = lft (evE Γ k e ρ h) ρ (kUnp ρ is) := by
  rw [exS]
  congr 1
@[simp] theorem exS_sto (o i e : E) : exS Γ wf k (.sto o i e) ρ h = lft (evE Γ k e ρ h) ρ (kSto1 Γ k ρ o i) := by
  rw [exS]
  congr 1
@[simp] theorem exS_aug (i : Nat) (o : BOp) (e : E) : exS Γ wf k (.aug i o e) ρ h = augF Γ k ρ i o e h ρ[i]? := by rw [exS]; rfl
@[simp] theorem exS_exp (e : E) : exS Γ wf k (.exp e) ρ h = lft (evE Γ k e ρ h) ρ (kExp ρ) := by rw [exS]; rfl
@[simp] theorem exS_ite (c : E) (a b : Ss) : exS Γ wf k (.ite c a b) ρ h = lft (evT Γ k c ρ h) ρ (kIf Γ k wf ρ a b) := by rw [exS]; rfl
@[simp] theorem exS_whl (c : E) (b : Ss) : exS Γ wf k (.whl c b) ρ h = whileL (Tt Γ k c) (Bd Γ k wf b) wf ρ h := by rw [exS]; rfl
@[simp] theorem exS_for (t : Nat) (s : Src) (b : Ss) : exS Γ wf k (.for t s b) ρ h = lft (evS Γ k s ρ h) ρ (kFor Γ k wf ρ t b) := by rw [exS]; rfl
@[simp] theorem exS_ret (e : E) : exS Γ wf k (.ret e) ρ h = lft (evE Γ k e ρ h) ρ kRet := by rw [exS]; rfl
@[simp] theorem exS_ret0 : exS Γ wf k .ret0 ρ h = some (.ret .non, h) := by rw [exS]
@[simp] theorem exS_rse (c : Nat) (e : E) : exS Γ wf k (.rse c e) ρ h = lft (evE Γ k e ρ h) ρ (kRse ρ c) := by rw [exS]; rfl
@[simp] theorem exS_try (b : Ss) (c i : Nat) (hb : Ss) : exS Γ wf k (.try b c i hb) ρ h = tryF Γ k wf c i hb (exSs Γ wf k b ρ h) := by
  rw [exS]
  unfold tryF
  cases exSs Γ wf k b ρ h with
  | none => rfl
  | some r =>
    obtain ⟨f, h'⟩ := r
    cases f with
    | exc c' w ρ' =>
      dsimp only
      split
      · split
        · unfold tryE
          split <;> simp_all
        · rfl
      · rfl
    | _ => rfl
@[simp] theorem exS_brk : exS Γ wf k .brk ρ h = some (.brk ρ, h) := by rw [exS]
@[simp] theorem exS_cnt : exS Γ wf k .cnt ρ h = some (.ct ρ, h) := by rw [exS]
@[simp] theorem exS_pas : exS Γ wf k .pas ρ h = some (.nx ρ, h) := by rw [exS]
@[simp] theorem exS_frz (is : List Nat) : exS Γ wf k (.frz is) ρ h = some (.nx ρ, h) := by rw [exS]
@[simp] theorem exSs_nil : exSs Γ wf k .nil ρ h = some (.nx ρ, h) := by rw [exSs]
@[simp] theorem exSs_cons (s : S) (r : Ss) : exSs Γ wf k (.cons s r) ρ h = sq (exS Γ wf k s ρ h) (kSs Γ k wf r) := by rw [exSs]; rfl
end
end Mp
set_option Elab.async false
set_option linter.all false
set_option maxRecDepth 100000
set_option maxHeartbeats 400000
/-! Mp U: values' rules for simp, calls, loops. -/
namespace Mp
open PySem
section
variable {Γ : Gam} {k : Calls} {wf : Nat} {ρ : Env} {h : Hq}
theorem lg {i : Int} {k : Nat} (h : i.natAbs < 2 ^ k) : i.natAbs.log2 ≤ k := by
  by_cases z : i.natAbs = 0
  · rw [z]; simp
  · exact Nat.le_of_lt ((Nat.log2_lt z).mpr h)
@[simp] theorem binV_add (x y : W) : binV .add x y h = addV x y h := rfl
@[simp] theorem binV_sub (x y : W) : binV .sub x y h = subV x y h := rfl
@[simp] theorem binV_mul (x y : W) : binV .mul x y h = mulV x y h := rfl
@[simp] theorem binV_fdiv (x y : W) : binV .fdiv x y h = fdivV x y h := rfl
@[simp] theorem binV_mod (x y : W) : binV .mod x y h = modV x y h := rfl
@[simp] theorem binV_pow (x y : W) : binV .pow x y h = powV x y h := rfl
@[simp] theorem addV_int (i j : Int) : addV (.int i) (.int j) h = ret (.int (i + j)) h := rfl
@[simp] theorem subV_int (i j : Int) : subV (.int i) (.int j) h = ret (.int (i - j)) h := rfl
theorem mul_ok {i j : Int} (b : i.natAbs.log2 + j.natAbs.log2 < 1000000) : mulV (.int i) (.int j) h = ret (.int (i * j)) h := if_pos b
theorem mod_ok {i j : Int} (b : 0 < j) : modV (.int i) (.int j) h = ret (.int (i % j)) h := if_pos b
theorem fdiv_ok {i j : Int} (b : 0 < j) (c : j.natAbs.log2 < 9000) : fdivV (.int i) (.int j) h = ret (.int (i / j)) h := if_pos ⟨b, c⟩
theorem pow_ok {i n : Int} (b : 0 ≤ n) (c : (Builtin.Int.intBits i : Int) * n ≤ 134217728) : powV (.int i) (.int n) h = ret (.int (i ^ n.toNat)) h := if_pos ⟨b, c⟩
@[simp] theorem fnV_int (i : Int) : fnV Γ .int [.int i] h = ret (.int i) h := rfl
@[simp] theorem fnV_abs (i : Int) : fnV Γ .abs [.int i] h = ret (.int (if i < 0 then -i else i)) h := rfl
@[simp] theorem fnV_min (i j : Int) : fnV Γ .min [.int i, .int j] h = ret (.int (if j < i then j else i)) h := rfl
@[simp] theorem fnV_max (i j : Int) : fnV Γ .max [.int i, .int j] h = ret (.int (if j > i then j else i)) h := rfl
@[simp] theorem pow61 : powV (.int 2) (.int 61) h = ret (.int 2305843009213693952) h := rfl
theorem call_s {n f : Nat} {us : List W} {d : FnD} (hf : Γ.fn f = some d) (hl : us.length = d.ar) : call Γ wf (n + 1) f us h = endF (exSs Γ wf (call Γ wf n) d.body (start d.n us) h) := by
  unfold call
  rw [hf]
  exact if_pos hl
@[simp] theorem endF_ret (v : W) : endF (some (.ret v, h)) = some (.ok v, h) := rfl
@[simp] theorem endF_nx : endF (some (.nx ρ, h)) = some (.ok .non, h) := rfl
@[simp] theorem endF_exc (c : Nat) (w : W) : endF (some (.exc c w ρ, h)) = some (.exc c w, h) := rfl
theorem rngL_nil {i j : Int} (b : j ≤ i) : rngL i j = [] := by
  unfold rngL
  rw [show (j - i).toNat = 0 by omega]
  rfl
theorem rngL_cons {i j : Int} (b : i < j) : rngL i j = .int i :: rngL (i + 1) j := by
  unfold rngL
  rw [show (j - i).toNat = (j - (i + 1)).toNat + 1 by omega, List.range_succ_eq_map, List.map_cons, List.map_map]
  refine congr (congrArg List.cons (by simp)) (List.map_congr_left fun x _ => ?_)
  show W.int _ = W.int _
  congr 1
  simp only [Nat.succ_eq_add_one]
  omega
theorem forL_nil {g : Option (Nat × Ob)} {t : Nat} {body : Env → Hq → RS} (s : stays g h = true) : forL g t body [] ρ h = some (.nx ρ, h) := by
  unfold forL
  rw [if_pos s]
@[simp] theorem stays_none : stays none h = true := rfl
end
end Mp
set_option Elab.async false
set_option linter.all false
set_option maxRecDepth 100000
set_option maxHeartbeats 400000
/-! Mp V: what a run's end satisfies; loops by an invariant. -/
namespace Mp
open PySem
/-- a block's end -/
def WF (r : RS) (Q : Fl → Hq → Prop) : Prop := match r with
  | some (f, h) => Q f h
  | none => False
/-- a value's end -/
def WM {α : Type} (r : M α) (Q : Er α → Hq → Prop) : Prop := match r with
  | some (e, h) => Q e h
  | none => False
section
variable {Γ : Gam} {k : Calls} {wf : Nat} {ρ : Env} {h : Hq} {α β : Type}
@[simp] theorem WF_some (f : Fl) (Q : Fl → Hq → Prop) : WF (some (f, h)) Q = Q f h := rfl
@[simp] theorem WM_ret (v : α) (Q : Er α → Hq → Prop) : WM (ret v h) Q = Q (.ok v) h := rfl
@[simp] theorem WM_some (v : Er α) (Q : Er α → Hq → Prop) : WM (some (v, h)) Q = Q v h := rfl
theorem WF.mono {r : RS} {Q Q' : Fl → Hq → Prop} (a : WF r Q) (k : ∀ f h, Q f h → Q' f h) : WF r Q' := by
  match r, a with
  | some (f, h), a => exact k f h a
theorem WM.mono {r : M α} {Q Q' : Er α → Hq → Prop} (a : WM r Q) (k : ∀ f h, Q f h → Q' f h) : WM r Q' := by
  match r, a with
  | some (f, h), a => exact k f h a
theorem WF.ex {r : RS} {Q : Fl → Hq → Prop} (a : WF r Q) : ∃ f h, r = some (f, h) ∧ Q f h := by
  match r, a with
  | some (f, h), a => exact ⟨f, h, rfl, a⟩
/-- one block behind another -/
theorem WF_sq {r : RS} {f : Env → Hq → RS} {Q : Fl → Hq → Prop} (a : WF r fun fl h => match fl with
    | .nx ρ => WF (f ρ h) Q
    | fl => Q fl h) : WF (sq r f) Q := by
  match r, a with
  | some (.nx ρ, h), a => exact a
  | some (.ret v, h), a => exact a
  | some (.brk ρ, h), a => exact a
  | some (.ct ρ, h), a => exact a
  | some (.exc c w ρ, h), a => exact a
theorem WF_lft {r : M α} {f : α → Hq → RS} {Q : Fl → Hq → Prop} (a : WM r fun e h => match e with
    | .ok v => WF (f v h) Q
    | .exc c w => Q (.exc c w ρ) h) : WF (lft r ρ f) Q := by
  match r, a with
  | some (.ok v, h), a => exact a
  | some (.exc c w, h), a => exact a
theorem WM_bnd {r : M α} {f : α → Hq → M β} {Q : Er β → Hq → Prop} (a : WM r fun e h => match e with
    | .ok v => WM (f v h) Q
    | .exc c w => Q (.exc c w) h) : WM (bnd r f) Q := by
  match r, a with
  | some (.ok v, h), a => exact a
  | some (.exc c w, h), a => exact a
theorem WM_endF {r : RS} {Q : Er W → Hq → Prop} (a : WF r fun fl h => match fl with
    | .nx _ => Q (.ok .non) h
    | .ret v => Q (.ok v) h
    | .exc c w _ => Q (.exc c w) h
    | _ => False) : WM (endF r) Q := by
  match r, a with
  | some (.nx ρ, h), a => exact a
  | some (.ret v, h), a => exact a
  | some (.exc c w ρ, h), a => exact a
/-- a for loop: I tells what holds ahead of the items that are left -/
theorem forL_ok {g : Option (Nat × Ob)} {t : Nat} {body : Env → Hq → RS} {I : List W → Env → Hq → Prop} {Q : Fl → Hq → Prop} (hs : ∀ xs ρ h, I xs ρ h → stays g h = true)
    (step : ∀ x xs ρ h, I (x :: xs) ρ h → WF (body (ρ.set t (some x)) h) fun f h' => match f with
      | .nx ρ' => I xs ρ' h'
      | .ct ρ' => I xs ρ' h'
      | .brk ρ' => Q (.nx ρ') h'
      | f => Q f h') (fin : ∀ ρ h, I [] ρ h → Q (.nx ρ) h) : ∀ xs ρ h, I xs ρ h → WF (forL g t body xs ρ h) Q
  | [], ρ, h, i => by
    unfold forL
    rw [if_pos (hs _ _ _ i)]
    exact fin ρ h i
  | x :: xs, ρ, h, i => by
    unfold forL
    rw [if_pos (hs _ _ _ i)]
    obtain ⟨f, h', e, q⟩ := (step x xs ρ h i).ex
    rw [e]
    match f, q with
    | .nx ρ', q => exact forL_ok hs step fin xs ρ' h' q
    | .ct ρ', q => exact forL_ok hs step fin xs ρ' h' q
    | .brk ρ', q => exact q
    | .ret v, q => exact q
    | .exc c w ρ', q => exact q
theorem forL_cons {g : Option (Nat × Ob)} {t : Nat} {body : Env → Hq → RS} {x : W} {xs : List W} {ρ' : Env} {h' : Hq} (hs : stays g h = true) (hb : body (ρ.set t (some x)) h = some (.nx ρ', h')) : forL g t body (x :: xs) ρ h = forL g t body xs ρ' h' := by
  rw [forL, if_pos hs, hb]
theorem forL_ret {g : Option (Nat × Ob)} {t : Nat} {body : Env → Hq → RS} {x : W} {xs : List W} {v : W} {h' : Hq} (hs : stays g h = true) (hb : body (ρ.set t (some x)) h = some (.ret v, h')) : forL g t body (x :: xs) ρ h = some (.ret v, h') := by
  rw [forL, if_pos hs, hb]
theorem walk_lst {a : Nat} {xs : List W} (ha : h[a]? = some (.lst xs)) : walkOf (.ref a) h = ret (some (a, .lst xs), xs) h := by
  unfold walkOf
  dsimp only
  rw [ha]
theorem walk_tup {a : Nat} {xs : List W} (ha : h[a]? = some (.tup xs)) : walkOf (.ref a) h = ret (some (a, .tup xs), xs) h := by
  unfold walkOf
  dsimp only
  rw [ha]
@[simp] theorem walk_str (z : PySem.Str) : walkOf (.str z) h = ret (none, z.cps.toList.map fun c => W.str ⟨#[c]⟩) h := rfl
theorem stays_at {a : Nat} {o : Ob} (ha : h[a]? = some o) : stays (some (a, o)) h = true := decide_eq_true ha
theorem get_new2 (a e : Hq) (o : Ob) : (a ++ (e ++ [o]))[a.length + e.length]? = some o := by
  rw [← List.append_assoc, List.getElem?_append_right (by rw [List.length_append]; exact Nat.le_refl _), List.length_append, Nat.sub_self]
  rfl
theorem get_new1 (a : Hq) (o : Ob) : (a ++ [o])[a.length]? = some o := by
  rw [List.getElem?_append_right (Nat.le_refl _), Nat.sub_self]
  rfl
@[simp] theorem cmp_eq_int (i j : Int) : cmpV .eq (.int i) (.int j) h = some (decide (i = j)) := by
  show eqV (.int i) (.int j) h = _
  unfold eqV
  rw [if_pos (show scalW (.int i) (.int j) = true from rfl)]
  congr 1
  by_cases e : i = j
  · subst e; simp
  · rw [decide_eq_false e]
    exact decide_eq_false fun z => e (by injection z)
@[simp] theorem cmp_lt_int (i j : Int) : cmpV .lt (.int i) (.int j) h = some (decide (i < j)) := rfl
@[simp] theorem cmp_le_int (i j : Int) : cmpV .le (.int i) (.int j) h = some (decide (i ≤ j)) := rfl
@[simp] theorem cmp_gt_int (i j : Int) : cmpV .gt (.int i) (.int j) h = some (decide (j < i)) := rfl
@[simp] theorem cmp_ge_int (i j : Int) : cmpV .ge (.int i) (.int j) h = some (decide (j ≤ i)) := rfl
@[simp] theorem optT_some (b : Bool) : optT (some b) h = ret b h := rfl
@[simp] theorem optB_some (b : Bool) : optB (some b) h = ret (.bl b) h := rfl
end
end Mp
set_option Elab.async false
set_option linter.all false
set_option maxRecDepth 100000
set_option maxHeartbeats 400000
/-! Mp W: texts, lists, comprehensions. -/
namespace Mp
open PySem
section
variable {Γ : Gam} {k : Calls} {wf : Nat} {ρ : Env} {h : Hq}
theorem slen (a b : Str) : (a ++ b).length = a.length + b.length := Str.length_append a b
theorem add_str {a b : Str} (z : a.length + b.length ≤ line) : addV (.str a) (.str b) h = ret (.str (a ++ b)) h := if_pos z
theorem atI_ok {α : Type} {xs : List α} {i : Int} (h0 : 0 ≤ i) (h1 : i < xs.length) : ∃ x, xs[i.toNat]? = some x ∧ L2.atI xs i = some x := by
  have hl : i.toNat < xs.length := by omega
  refine ⟨xs[i.toNat], List.getElem?_eq_getElem hl, ?_⟩
  unfold L2.atI L2.ixN
  rw [if_pos h0, if_pos h1]
  exact List.getElem?_eq_getElem hl
theorem ix_str {z : Str} {i : Int} (hz : z.length ≤ line) (h0 : 0 ≤ i) (h1 : i < z.length) : ∃ c, ixV (.str z) (.int i) h = ret (.str ⟨#[c]⟩) h := by
  obtain ⟨c, _, e⟩ := atI_ok (xs := z.cps.toList) h0 (by rw [Array.length_toList]; exact h1)
  refine ⟨c, ?_⟩
  unfold ixV
  dsimp only
  rw [if_pos hz, e]
theorem cut_str {z : Str} {lo hi : Option Int} (hz : z.length ≤ line) : cutW (.str z) lo hi h = ret (.str (L2.cutS z lo hi)) h := if_pos hz
theorem cutS_len (z : Str) (lo hi : Option Int) : (L2.cutS z lo hi).length ≤ z.length := by
  show ((z.cps.toList.drop _).take _).toArray.size ≤ z.cps.size
  rw [List.size_toArray, List.length_take, List.length_drop, Array.length_toList]
  omega
theorem len_str {z : Str} (hz : z.length ≤ line) : fnV Γ .len [.str z] h = ret (.int z.length) h := if_pos hz
theorem repS_len (x : Str) (n : Int) : (repS x n).length ≤ x.length * n.toNat := by
  unfold repS
  split
  · exact Nat.zero_le _
  · rename_i h1
    split
    · rename_i h2
      rcases Bool.or_eq_true_iff.mp h2 with q | q
      · rw [eq_of_beq q]; simp
      · have : x.length = 0 := eq_of_beq q
        omega
    · have key : ∀ (k : Nat) (a : Array Nat), ((List.replicate k x.cps).foldl (· ++ ·) a).size = a.size + k * x.cps.size := by
        intro k
        induction k with
        | zero => intro a; simp
        | succ k ih => intro a; rw [List.replicate_succ, List.foldl_cons, ih, Array.size_append, Nat.succ_mul]; omega
      show ((List.replicate n.toNat x.cps).foldl (· ++ ·) #[]).size ≤ _
      rw [key]
      show 0 + n.toNat * x.cps.size ≤ x.cps.size * n.toNat
      rw [Nat.mul_comm]; omega
theorem mul_str {x : Str} {n : Int} (h0 : -1000000 ≤ n) (h1 : n ≤ 1000000) (h2 : x.length * n.toNat ≤ line) : mulV (.str x) (.int n) h = ret (.str (repS x n)) h := if_pos ⟨h0, h1, h2⟩
theorem upper_ok {z : Str} (hz : z.length ≤ 5592405) : mthV .upper (.str z) [] h = ret (.str (Txt.upper z)) h := if_pos hz
@[simp] theorem pre_upper (z : Str) : mthPre .upper (.str z) h = true := rfl
theorem upper_len (z : Str) : (Txt.upper z).length ≤ 3 * z.length := PyProof.Rows.len_upper z
/-! ### an object in the midst -/
theorem get_mid (a b : Hq) (o : Ob) : (a ++ o :: b)[a.length]? = some o := by
  rw [List.getElem?_append_right (Nat.le_refl _), Nat.sub_self]
  rfl
theorem set_mid (a b : Hq) (o o' : Ob) : (a ++ o :: b).set a.length o' = a ++ o' :: b := by
  rw [List.set_append_right _ _ (Nat.le_refl _), Nat.sub_self]
  rfl
theorem append_ok {a : Nat} {xs : List W} {y : W} (ha : h[a]? = some (.lst xs)) (hz : xs.length < line) : mthV .append (.ref a) [y] h = ret .non (h.set a (.lst (xs ++ [y]))) := by
  unfold mthV
  dsimp only
  rw [ha]
  exact if_pos hz
theorem pre_append {a : Nat} {xs : List W} (ha : h[a]? = some (.lst xs)) : mthPre .append (.ref a) h = true := by
  show (lstOf h (.ref a)).isSome = true
  unfold lstOf
  dsimp only
  rw [ha]
  rfl
theorem pre_pop {a : Nat} {xs : List W} (ha : h[a]? = some (.lst xs)) : mthPre .pop (.ref a) h = true := pre_append ha
theorem pop_ok {a : Nat} {xs : List W} {y : W} (ha : h[a]? = some (.lst (xs ++ [y]))) : mthV .pop (.ref a) [] h = ret y (h.set a (.lst xs)) := by
  unfold mthV
  dsimp only
  rw [ha]
  dsimp only
  rw [show (xs ++ [y]).length - 1 = xs.length by simp, List.getElem?_append_right (Nat.le_refl _), Nat.sub_self]
  dsimp only [List.getElem?_cons_zero]
  rw [List.dropLast_concat]
theorem len_lst {a : Nat} {xs : List W} (ha : h[a]? = some (.lst xs)) : fnV Γ .len [.ref a] h = ret (.int xs.length) h := by
  unfold fnV
  dsimp only
  rw [ha]
theorem len_tup {a : Nat} {xs : List W} (ha : h[a]? = some (.tup xs)) : fnV Γ .len [.ref a] h = ret (.int xs.length) h := by
  unfold fnV
  dsimp only
  rw [ha]
theorem ix_lst {a : Nat} {xs : List W} {i : Int} {v : W} (ha : h[a]? = some (.lst xs)) (e : L2.atI xs i = some v) : ixV (.ref a) (.int i) h = ret v h := by
  unfold ixV
  dsimp only
  rw [ha]
  dsimp only
  rw [e]
theorem ix_tup {a : Nat} {xs : List W} {i : Int} {v : W} (ha : h[a]? = some (.tup xs)) (e : L2.atI xs i = some v) : ixV (.ref a) (.int i) h = ret v h := by
  unfold ixV
  dsimp only
  rw [ha]
  dsimp only
  rw [e]
theorem kLst_ok {vs : List W} (z : vs.length ≤ line) : kLst vs h = ret (.ref h.length) (h ++ [.lst vs]) := if_pos z
theorem kTup_ok {vs : List W} (z : vs.length ≤ line) : kTup vs h = ret (.ref h.length) (h ++ [.tup vs]) := if_pos z
/-! ### a comprehension whose parts make nothing -/
theorem compL_ok {g : Option (Nat × Ob)} {t : W → Hq → M Bool} {el : W → Hq → M W} {p : W → Bool} {f : W → W} (a : Hq) : ∀ (xs acc : List W), (∀ acc, stays g (a ++ [.lst acc]) = true) → (∀ x ∈ xs, ∀ acc, t x (a ++ [.lst acc]) = ret (p x) (a ++ [.lst acc])) →
    (∀ x ∈ xs, p x = true → ∀ acc, el x (a ++ [.lst acc]) = ret (f x) (a ++ [.lst acc])) → acc.length + xs.length ≤ line → compL g a.length t el xs (a ++ [.lst acc]) = some (a ++ [.lst (acc ++ (xs.filter p).map f)])
  | [], acc, hs, _, _, _ => by
    rw [compL, if_pos (hs acc)]
    simp
  | x :: xs, acc, hs, ht, he, hl => by
    rw [compL, if_pos (hs acc), ht x List.mem_cons_self acc]
    cases hp : p x with
    | false =>
      show compL g a.length t el xs (a ++ [.lst acc]) = _
      rw [compL_ok a xs acc hs (fun y hy => ht y (List.mem_cons_of_mem _ hy)) (fun y hy => he y (List.mem_cons_of_mem _ hy)) (by simp at hl; omega), List.filter_cons_of_neg (by rw [hp]; exact Bool.false_ne_true)]
    | true =>
      show (match el x (a ++ [.lst acc]) with
        | some (.ok y, h2) => (match h2[a.length]? with
          | some (.lst acc) => if acc.length < line then compL g a.length t el xs (h2.set a.length (.lst (acc ++ [y]))) else none
          | _ => none)
        | _ => none) = _
      rw [he x List.mem_cons_self hp acc]
      show (match (a ++ [Ob.lst acc])[a.length]? with
          | some (.lst acc') => if acc'.length < line then compL g a.length t el xs ((a ++ [Ob.lst acc]).set a.length (.lst (acc' ++ [f x]))) else none
          | _ => none) = _
      rw [get_mid]
      dsimp only
      simp only [List.length_cons] at hl
      rw [if_pos (by omega), set_mid, compL_ok a xs (acc ++ [f x]) hs (fun y hy => ht y (List.mem_cons_of_mem _ hy)) (fun y hy => he y (List.mem_cons_of_mem _ hy)) (by simp; omega), List.filter_cons_of_pos hp]
      simp
end
end Mp
set_option maxRecDepth 100000
namespace Cf
open Mp
/-! 0 is_name(text): 0 text 1 sign -/
def N_is_name : List PySem.Str := [PySem.Str.ofString "text", PySem.Str.ofString "sign"]
def b_is_name_1 : Ss :=
  (.cons (.ite (.cmp .nin (.var 1) (.glob 1))
    (.cons (.ret (.cst (.bl false)))
     .nil)
    .nil)
   .nil)
def b_is_name : Ss :=
  (.cons (.ite (.or (.cmp .lt (.fn .len (.cons (.var 0) .nil)) (.cst (.int (1)))) (.cmp .gt (.fn .len (.cons (.var 0) .nil)) (.glob 2)))
    (.cons (.ret (.cst (.bl false)))
     .nil)
    .nil)
   (.cons (.for 1 (.any (.var 0)) b_is_name_1)
   (.cons (.ret (.cmp .isin (.ix (.var 0) (.cst (.int (0)))) (.glob 0)))
   .nil)))
def d_is_name : FnD := ⟨1, 2, b_is_name⟩
/-! 1 check_name(text): 0 text -/
def N_check_name : List PySem.Str := [PySem.Str.ofString "text"]
def b_check_name : Ss :=
  (.cons (.ite (.not (.call 0 (.cons (.var 0) .nil)))
    (.cons (.rse 1 (.var 0))
     .nil)
    .nil)
   (.cons (.ret (.var 0))
   .nil))
def d_check_name : FnD := ⟨1, 1, b_check_name⟩
/-! 2 _law_mix(key, turn): 0 key 1 turn 2 prime 3 one 4 two -/
def N_law_mix : List PySem.Str := [PySem.Str.ofString "key", PySem.Str.ofString "turn", PySem.Str.ofString "prime", PySem.Str.ofString "one", PySem.Str.ofString "two"]
def b_law_mix : Ss :=
  (.cons (.asg 2 (.bin .sub (.bin .pow (.cst (.int (2))) (.cst (.int (61)))) (.cst (.int (1)))))
   (.cons (.asg 3 (.bin .mod (.fn .int (.cons (.bin .add (.bin .add (.bin .mul (.var 0) (.cst (.int (48271)))) (.bin .mul (.var 1) (.cst (.int (2862933555777941757))))) (.cst (.int (1442695040888963407)))) .nil)) (.var 2)))
   (.cons (.asg 4 (.bin .mod (.fn .int (.cons (.bin .add (.bin .add (.bin .mul (.var 3) (.var 3)) (.bin .fdiv (.var 3) (.cst (.int (1073741824))))) (.bin .mul (.var 1) (.cst (.int (69621))))) .nil)) (.var 2)))
   (.cons (.ret (.bin .mod (.fn .int (.cons (.bin .add (.bin .add (.bin .add (.bin .mul (.var 4) (.var 4)) (.bin .fdiv (.var 4) (.cst (.int (4194304))))) (.bin .mul (.var 0) (.cst (.int (16807))))) (.cst (.int (1)))) .nil)) (.var 2)))
   .nil))))
def d_law_mix : FnD := ⟨2, 5, b_law_mix⟩
/-! 3 _law_store(script): 0 script 1 cells 2 cell -/
def N_law_store : List PySem.Str := [PySem.Str.ofString "script", PySem.Str.ofString "cells", PySem.Str.ofString "cell"]
def b_law_store : Ss :=
  (.cons (.asc 1 (.comp 2 (.any (.cut (.var 0) .no (.yes (.cst (.int (63)))))) .no (.fn .int (.cons (.var 2) .nil))))
   (.cons (.ret (.lst (.cons (.var 1) (.cons (.cst (.int (0))) (.cons (.cst (.int (3))) (.cons (.cst (.int (0))) (.cons (.cst (.int (0))) (.cons (.cst (.int (0))) .nil))))))))
   .nil))
def d_law_store : FnD := ⟨1, 3, b_law_store⟩
/-! 4 _law_load(store): 0 store 1 prime 2 cells 3 at 4 cell 5 key -/
def N_law_load : List PySem.Str := [PySem.Str.ofString "store", PySem.Str.ofString "prime", PySem.Str.ofString "cells", PySem.Str.ofString "at", PySem.Str.ofString "cell", PySem.Str.ofString "key"]
def b_law_load : Ss :=
  (.cons (.asg 1 (.bin .sub (.bin .pow (.cst (.int (2))) (.cst (.int (61)))) (.cst (.int (1)))))
   (.cons (.asg 2 (.ix (.var 0) (.cst (.int (0)))))
   (.cons (.asg 3 (.ix (.var 0) (.cst (.int (1)))))
   (.cons (.ite (.cmp .lt (.var 3) (.fn .len (.cons (.var 2) .nil)))
    (.cons (.asg 4 (.fn .int (.cons (.ix (.var 2) (.var 3)) .nil)))
     (.cons (.sto (.var 0) (.cst (.int (1))) (.bin .add (.var 3) (.cst (.int (1)))))
     (.cons (.sto (.var 0) (.cst (.int (4))) (.cst (.int (6))))
     (.cons (.ite (.or (.cmp .ge (.var 4) (.bin .pow (.cst (.int (10))) (.cst (.int (18))))) (.cmp .le (.var 4) (.neg (.bin .pow (.cst (.int (10))) (.cst (.int (18)))))))
      (.cons (.sto (.var 0) (.cst (.int (2))) (.cst (.int (1))))
       (.cons (.sto (.var 0) (.cst (.int (3))) (.bin .mod (.fn .int (.cons (.fn .abs (.cons (.var 4) .nil)) .nil)) (.bin .pow (.bin .pow (.cst (.int (10))) (.cst (.int (60)))) (.cst (.int (10))))))
       .nil))
      (.cons (.sto (.var 0) (.cst (.int (2))) (.cst (.int (2))))
       (.cons (.sto (.var 0) (.cst (.int (3))) (.bin .mod (.fn .int (.cons (.bin .add (.bin .add (.bin .mul (.var 4) (.cst (.int (97)))) (.bin .mul (.var 3) (.cst (.int (1000003))))) (.cst (.int (11)))) .nil)) (.var 1)))
       .nil)))
     .nil))))
    (.cons (.asg 5 (.bin .add (.fn .len (.cons (.var 2) .nil)) (.cst (.int (1)))))
     (.cons (.for 4 (.any (.fn .list (.cons (.var 2) .nil))) 
      (.cons (.asg 5 (.bin .mod (.fn .int (.cons (.bin .add (.bin .mul (.var 5) (.cst (.int (1000003)))) (.bin .mod (.fn .int (.cons (.var 4) .nil)) (.var 1))) .nil)) (.var 1)))
       .nil))
     (.cons (.sto (.var 0) (.cst (.int (2))) (.cst (.int (0))))
     (.cons (.sto (.var 0) (.cst (.int (3))) (.var 5))
     .nil)))))
   .nil))))
def d_law_load : FnD := ⟨1, 6, b_law_load⟩
/-! 5 _law_take(store, count): 0 store 1 count 2 turn 3 got -/
def N_law_take : List PySem.Str := [PySem.Str.ofString "store", PySem.Str.ofString "count", PySem.Str.ofString "turn", PySem.Str.ofString "got"]
def b_law_take : Ss :=
  (.cons (.ite (.cmp .lt (.var 1) (.cst (.int (2))))
    (.cons (.ret (.cst (.int (0))))
     .nil)
    .nil)
   (.cons (.for 2 (.rng (.cst (.int (70)))) 
    (.cons (.ite (.cmp .eq (.ix (.var 0) (.cst (.int (2)))) (.cst (.int (0))))
      (.cons .brk
       .nil)
      .nil)
     (.cons (.ite (.and (.cmp .eq (.ix (.var 0) (.cst (.int (2)))) (.cst (.int (1)))) (.cmp .gt (.ix (.var 0) (.cst (.int (3)))) (.cst (.int (0)))))
      (.cons (.asg 3 (.bin .mod (.fn .int (.cons (.ix (.var 0) (.cst (.int (3)))) .nil)) (.var 1)))
       (.cons (.sto (.var 0) (.cst (.int (3))) (.bin .fdiv (.fn .int (.cons (.ix (.var 0) (.cst (.int (3)))) .nil)) (.var 1)))
       (.cons (.ret (.var 3))
       .nil)))
      .nil)
     (.cons (.ite (.and (.cmp .eq (.ix (.var 0) (.cst (.int (2)))) (.cst (.int (2)))) (.cmp .gt (.ix (.var 0) (.cst (.int (4)))) (.cst (.int (0)))))
      (.cons (.sto (.var 0) (.cst (.int (4))) (.bin .sub (.ix (.var 0) (.cst (.int (4)))) (.cst (.int (1)))))
       (.cons (.sto (.var 0) (.cst (.int (5))) (.bin .add (.ix (.var 0) (.cst (.int (5)))) (.cst (.int (1)))))
       (.cons (.ret (.bin .mod (.fn .int (.cons (.bin .fdiv (.call 2 (.cons (.ix (.var 0) (.cst (.int (3)))) (.cons (.ix (.var 0) (.cst (.int (5)))) .nil))) (.cst (.int (16)))) .nil)) (.var 1)))
       .nil)))
      .nil)
     (.cons (.exp (.call 4 (.cons (.var 0) .nil)))
     .nil)))))
   (.cons (.sto (.var 0) (.cst (.int (5))) (.bin .add (.ix (.var 0) (.cst (.int (5)))) (.cst (.int (1)))))
   (.cons (.ret (.bin .mod (.fn .int (.cons (.bin .fdiv (.call 2 (.cons (.ix (.var 0) (.cst (.int (3)))) (.cons (.ix (.var 0) (.cst (.int (5)))) .nil))) (.cst (.int (16)))) .nil)) (.var 1)))
   .nil))))
def d_law_take : FnD := ⟨2, 4, b_law_take⟩
/-! 6 _law_hit(store, whole): 0 store 1 whole -/
def N_law_hit : List PySem.Str := [PySem.Str.ofString "store", PySem.Str.ofString "whole"]
def b_law_hit : Ss :=
  (.cons (.ret (.cmp .eq (.call 5 (.cons (.var 0) (.cons (.var 1) .nil))) (.cst (.int (0)))))
   .nil)
def d_law_hit : FnD := ⟨2, 2, b_law_hit⟩
/-! 7 _law_edge(store, low, high): 0 store 1 low 2 high 3 kind -/
def N_law_edge : List PySem.Str := [PySem.Str.ofString "store", PySem.Str.ofString "low", PySem.Str.ofString "high", PySem.Str.ofString "kind"]
def b_law_edge : Ss :=
  (.cons (.asg 3 (.call 5 (.cons (.var 0) (.cons (.cst (.int (9))) .nil))))
   (.cons (.ite (.cmp .eq (.var 3) (.cst (.int (0))))
    (.cons (.ret (.var 1))
     .nil)
    .nil)
   (.cons (.ite (.cmp .eq (.var 3) (.cst (.int (1))))
    (.cons (.ret (.var 2))
     .nil)
    .nil)
   (.cons (.ite (.cmp .eq (.var 3) (.cst (.int (2))))
    (.cons (.ret (.fn .min (.cons (.bin .add (.var 1) (.cst (.int (1)))) (.cons (.var 2) .nil))))
     .nil)
    .nil)
   (.cons (.ite (.cmp .eq (.var 3) (.cst (.int (3))))
    (.cons (.ret (.fn .max (.cons (.bin .sub (.var 2) (.cst (.int (1)))) (.cons (.var 1) .nil))))
     .nil)
    .nil)
   (.cons (.ret (.bin .add (.var 1) (.call 5 (.cons (.var 0) (.cons (.bin .add (.bin .sub (.var 2) (.var 1)) (.cst (.int (1)))) .nil)))))
   .nil))))))
def d_law_edge : FnD := ⟨3, 4, b_law_edge⟩
/-! 8 _law_isnumber(value): 0 value -/
def N_law_isnumber : List PySem.Str := [PySem.Str.ofString "value"]
def b_law_isnumber : Ss :=
  (.cons (.ret (.and (.fn .isi (.cons (.var 0) (.cons (.ty "int") .nil))) (.not (.fn .isi (.cons (.var 0) (.cons (.ty "bool") .nil))))))
   .nil)
def d_law_isnumber : FnD := ⟨1, 1, b_law_isnumber⟩
/-! 9 _law_same_flat(told, due): 0 told 1 due -/
def N_law_same_flat : List PySem.Str := [PySem.Str.ofString "told", PySem.Str.ofString "due"]
def b_law_same_flat : Ss :=
  (.cons (.ite (.isN true (.var 1))
    (.cons (.ret (.isN true (.var 0)))
     .nil)
    .nil)
   (.cons (.ite (.fn .isi (.cons (.var 1) (.cons (.ty "bool") .nil)))
    (.cons (.ret (.and (.fn .isi (.cons (.var 0) (.cons (.ty "bool") .nil))) (.cmp .eq (.var 0) (.var 1))))
     .nil)
    .nil)
   (.cons (.ite (.fn .isi (.cons (.var 1) (.cons (.ty "int") .nil)))
    (.cons (.ret (.and (.call 8 (.cons (.var 0) .nil)) (.cmp .eq (.var 0) (.var 1))))
     .nil)
    .nil)
   (.cons (.ret (.and (.fn .isi (.cons (.var 0) (.cons (.ty "str") .nil))) (.cmp .eq (.var 0) (.var 1))))
   .nil))))
def d_law_same_flat : FnD := ⟨2, 2, b_law_same_flat⟩
/-! 10 _law_same(told, due): 0 told 1 due 2 pairs 3 turn 4 pair 5 left 6 right 7 k -/
def N_law_same : List PySem.Str := [PySem.Str.ofString "told", PySem.Str.ofString "due", PySem.Str.ofString "pairs", PySem.Str.ofString "turn", PySem.Str.ofString "pair", PySem.Str.ofString "left", PySem.Str.ofString "right", PySem.Str.ofString "k"]
def b_law_same_2 : Ss :=
  (.cons (.exp (.mth .append (.var 2) (.cons (.tup (.cons (.ix (.var 5) (.var 7)) (.cons (.ix (.var 6) (.var 7)) .nil))) .nil)))
   .nil)
def b_law_same_1 : Ss :=
  (.cons (.ite (.cmp .eq (.fn .len (.cons (.var 2) .nil)) (.cst (.int (0))))
    (.cons (.ret (.cst (.bl true)))
     .nil)
    .nil)
   (.cons (.asg 4 (.mth .pop (.var 2) .nil))
   (.cons (.asg 5 (.ix (.var 4) (.cst (.int (0)))))
   (.cons (.asg 6 (.ix (.var 4) (.cst (.int (1)))))
   (.cons (.ite (.or (.fn .isi (.cons (.var 6) (.cons (.ty "list") .nil))) (.fn .isi (.cons (.var 6) (.cons (.ty "tuple") .nil))))
    (.cons (.ite (.and (.fn .isi (.cons (.var 6) (.cons (.ty "list") .nil))) (.not (.fn .isi (.cons (.var 5) (.cons (.ty "list") .nil)))))
      (.cons (.ret (.cst (.bl false)))
       .nil)
      .nil)
     (.cons (.ite (.and (.fn .isi (.cons (.var 6) (.cons (.ty "tuple") .nil))) (.not (.fn .isi (.cons (.var 5) (.cons (.ty "tuple") .nil)))))
      (.cons (.ret (.cst (.bl false)))
       .nil)
      .nil)
     (.cons (.ite (.cmp .ne (.fn .len (.cons (.var 5) .nil)) (.fn .len (.cons (.var 6) .nil)))
      (.cons (.ret (.cst (.bl false)))
       .nil)
      .nil)
     (.cons (.for 7 (.rng (.fn .len (.cons (.var 6) .nil))) b_law_same_2)
     .nil))))
    (.cons (.ite (.not (.call 9 (.cons (.var 5) (.cons (.var 6) .nil))))
      (.cons (.ret (.cst (.bl false)))
       .nil)
      .nil)
     .nil))
   .nil)))))
def b_law_same : Ss :=
  (.cons (.asg 2 (.lst (.cons (.tup (.cons (.var 0) (.cons (.var 1) .nil))) .nil)))
   (.cons (.for 3 (.rng (.cst (.int (200000)))) b_law_same_1)
   (.cons (.ret (.cst (.bl false)))
   .nil)))
def d_law_same : FnD := ⟨2, 8, b_law_same⟩
/-! 11 _law_isname(text): 0 text 1 letters 2 sign -/
def N_law_isname : List PySem.Str := [PySem.Str.ofString "text", PySem.Str.ofString "letters", PySem.Str.ofString "sign"]
def b_law_isname : Ss :=
  (.cons (.asg 1 (.cst (.str (PySem.Str.ofString "abcdefghijklmnopqrstuvwxyz"))))
   (.cons (.ite (.or (.cmp .lt (.fn .len (.cons (.var 0) .nil)) (.cst (.int (1)))) (.or (.cmp .gt (.fn .len (.cons (.var 0) .nil)) (.cst (.int (8)))) (.cmp .nin (.ix (.var 0) (.cst (.int (0)))) (.var 1))))
    (.cons (.ret (.cst (.bl false)))
     .nil)
    .nil)
   (.cons (.ret (.cmp .eq (.fn .len (.cons (.comp 2 (.any (.var 0)) (.yes (.cmp .nin (.var 2) (.bin .add (.var 1) (.cst (.str (PySem.Str.ofString "0123456789")))))) (.var 2)) .nil)) (.cst (.int (0)))))
   .nil)))
def d_law_isname : FnD := ⟨1, 3, b_law_isname⟩
/-! 12 _law_name(store): 0 store 1 letters 2 words 3 kind 4 size 5 name 6 k -/
def N_law_name : List PySem.Str := [PySem.Str.ofString "store", PySem.Str.ofString "letters", PySem.Str.ofString "words", PySem.Str.ofString "kind", PySem.Str.ofString "size", PySem.Str.ofString "name", PySem.Str.ofString "k"]
def b_law_name_1 : Ss :=
  (.cons (.asg 5 (.bin .add (.var 5) (.ix (.var 1) (.call 5 (.cons (.var 0) (.cons (.cst (.int (36))) .nil))))))
   .nil)
def b_law_name : Ss :=
  (.cons (.asg 1 (.cst (.str (PySem.Str.ofString "abcdefghijklmnopqrstuvwxyz0123456789"))))
   (.cons (.asg 2 (.lst (.cons (.cst (.str (PySem.Str.ofString "room"))) (.cons (.cst (.str (PySem.Str.ofString "thing"))) (.cons (.cst (.str (PySem.Str.ofString "at"))) (.cons (.cst (.str (PySem.Str.ofString "way"))) (.cons (.cst (.str (PySem.Str.ofString "place"))) (.cons (.cst (.str (PySem.Str.ofString "arrow"))) (.cons (.cst (.str (PySem.Str.ofString "p10"))) (.cons (.cst (.str (PySem.Str.ofString "p2"))) (.cons (.cst (.str (PySem.Str.ofString "t0"))) (.cons (.cst (.str (PySem.Str.ofString "none"))) .nil))))))))))))
   (.cons (.asg 3 (.call 5 (.cons (.var 0) (.cons (.cst (.int (9))) .nil))))
   (.cons (.ite (.cmp .eq (.var 3) (.cst (.int (0))))
    (.cons (.ret (.ix (.var 2) (.call 5 (.cons (.var 0) (.cons (.cst (.int (10))) .nil)))))
     .nil)
    .nil)
   (.cons (.asg 4 (.bin .add (.cst (.int (1))) (.call 5 (.cons (.var 0) (.cons (.cst (.int (8))) .nil)))))
   (.cons (.ite (.cmp .eq (.var 3) (.cst (.int (1))))
    (.cons (.asg 4 (.cst (.int (8))))
     .nil)
    .nil)
   (.cons (.ite (.cmp .eq (.var 3) (.cst (.int (2))))
    (.cons (.asg 4 (.cst (.int (1))))
     .nil)
    .nil)
   (.cons (.asg 5 (.ix (.var 1) (.call 5 (.cons (.var 0) (.cons (.cst (.int (26))) .nil)))))
   (.cons (.for 6 (.rng (.bin .sub (.var 4) (.cst (.int (1))))) b_law_name_1)
   (.cons (.ret (.var 5))
   .nil))))))))))
def d_law_name : FnD := ⟨1, 7, b_law_name⟩
/-! 13 _law_badname(store): 0 store 1 signs 2 kind 3 name 4 at -/
def N_law_badname : List PySem.Str := [PySem.Str.ofString "store", PySem.Str.ofString "signs", PySem.Str.ofString "kind", PySem.Str.ofString "name", PySem.Str.ofString "at"]
def b_law_badname : Ss :=
  (.cons (.asg 1 (.cst (.str (PySem.Str.ofString " !\"#$&'()*+,-./:;<=>?@ABCDEFGHIJKLMNOPQRSTUVWXYZ[\\]^_`{|}~"))))
   (.cons (.asg 2 (.call 5 (.cons (.var 0) (.cons (.cst (.int (7))) .nil))))
   (.cons (.ite (.cmp .eq (.var 2) (.cst (.int (0))))
    (.cons (.ret (.cst (.str (PySem.Str.ofString ""))))
     .nil)
    .nil)
   (.cons (.asg 3 (.call 12 (.cons (.var 0) .nil)))
   (.cons (.ite (.cmp .eq (.var 2) (.cst (.int (1))))
    (.cons (.ret (.cut (.bin .mul (.var 3) (.cst (.int (9)))) .no (.yes (.cst (.int (9))))))
     .nil)
    .nil)
   (.cons (.ite (.cmp .eq (.var 2) (.cst (.int (2))))
    (.cons (.ret (.cut (.bin .mul (.var 3) (.cst (.int (40)))) .no (.yes (.bin .add (.cst (.int (9))) (.call 5 (.cons (.var 0) (.cons (.cst (.int (32))) .nil)))))))
     .nil)
    .nil)
   (.cons (.ite (.cmp .eq (.var 2) (.cst (.int (3))))
    (.cons (.ret (.bin .add (.ix (.cst (.str (PySem.Str.ofString "0123456789"))) (.call 5 (.cons (.var 0) (.cons (.cst (.int (10))) .nil)))) (.cut (.var 3) .no (.yes (.cst (.int (7)))))))
     .nil)
    .nil)
   (.cons (.ite (.cmp .eq (.var 2) (.cst (.int (4))))
    (.cons (.ret (.bin .add (.mth .upper (.cut (.var 3) .no (.yes (.cst (.int (7))))) .nil) (.cst (.str (PySem.Str.ofString "A")))))
     .nil)
    .nil)
   (.cons (.asg 4 (.call 5 (.cons (.var 0) (.cons (.bin .add (.fn .len (.cons (.var 3) .nil)) (.cst (.int (1)))) .nil))))
   (.cons (.ret (.bin .add (.bin .add (.cut (.var 3) .no (.yes (.var 4))) (.ix (.var 1) (.call 5 (.cons (.var 0) (.cons (.fn .len (.cons (.var 1) .nil)) .nil))))) (.cut (.var 3) (.yes (.var 4)) .no)))
   .nil))))))))))
def d_law_badname : FnD := ⟨1, 5, b_law_badname⟩
/-! 14 _law_text(store): 0 store 1 signs 2 text 3 k -/
def N_law_text : List PySem.Str := [PySem.Str.ofString "store", PySem.Str.ofString "signs", PySem.Str.ofString "text", PySem.Str.ofString "k"]
def b_law_text_1 : Ss :=
  (.cons (.asg 2 (.bin .add (.var 2) (.ix (.var 1) (.call 5 (.cons (.var 0) (.cons (.cst (.int (94))) .nil))))))
   .nil)
def b_law_text : Ss :=
  (.cons (.asg 1 (.cst (.str (PySem.Str.ofString " !\"#$&'()*+,-./0123456789:;<=>?@ABCDEFGHIJKLMNOPQRSTUVWXYZ[\\]^_`"))))
   (.cons (.asg 1 (.bin .add (.var 1) (.cst (.str (PySem.Str.ofString "abcdefghijklmnopqrstuvwxyz{|}~")))))
   (.cons (.asg 2 (.cst (.str (PySem.Str.ofString ""))))
   (.cons (.for 3 (.rng (.call 7 (.cons (.var 0) (.cons (.cst (.int (0))) (.cons (.cst (.int (40))) .nil))))) b_law_text_1)
   (.cons (.ret (.var 2))
   .nil)))))
def d_law_text : FnD := ⟨1, 4, b_law_text⟩
/-! 15 _law_kinds(error): 0 error 1 names 2 flags 3 k -/
def N_law_kinds : List PySem.Str := [PySem.Str.ofString "error", PySem.Str.ofString "names", PySem.Str.ofString "flags", PySem.Str.ofString "k"]
def b_law_kinds : Ss :=
  (.cons (.asg 1 (.lst (.cons (.cst (.str (PySem.Str.ofString "BadName"))) (.cons (.cst (.str (PySem.Str.ofString "BadRooms"))) (.cons (.cst (.str (PySem.Str.ofString "BadNumber"))) (.cons (.cst (.str (PySem.Str.ofString "Double"))) (.cons (.cst (.str (PySem.Str.ofString "TooMany"))) (.cons (.cst (.str (PySem.Str.ofString "NoPlace"))) (.cons (.cst (.str (PySem.Str.ofString "NoArrow"))) (.cons (.cst (.str (PySem.Str.ofString "NoThing"))) (.cons (.cst (.str (PySem.Str.ofString "NoPrice"))) (.cons (.cst (.str (PySem.Str.ofString "NoRing"))) (.cons (.cst (.str (PySem.Str.ofString "Loop"))) (.cons (.cst (.str (PySem.Str.ofString "BadWay"))) (.cons (.cst (.str (PySem.Str.ofString "NoRoom"))) (.cons (.cst (.str (PySem.Str.ofString "BadLine"))) (.cons (.cst (.str (PySem.Str.ofString "NotPossible"))) (.cons (.cst (.str (PySem.Str.ofString "NotBarred"))) (.cons (.cst (.str (PySem.Str.ofString "NotClean"))) (.cons (.cst (.str (PySem.Str.ofString "SearchFull"))) (.cons (.cst (.str (PySem.Str.ofString "BadPlan"))) (.cons (.cst (.str (PySem.Str.ofString "Busy"))) (.cons (.cst (.str (PySem.Str.ofString "BadEvent"))) (.cons (.cst (.str (PySem.Str.ofString "WrongNet"))) (.cons (.cst (.str (PySem.Str.ofString "no ValueError"))) .nil)))))))))))))))))))))))))
   (.cons (.asg 2 (.lst (.cons (.fn .isi (.cons (.var 0) (.cons (.cls 1) .nil))) (.cons (.fn .isi (.cons (.var 0) (.cons (.cls 2) .nil))) (.cons (.fn .isi (.cons (.var 0) (.cons (.cls 3) .nil))) (.cons (.fn .isi (.cons (.var 0) (.cons (.cls 4) .nil))) (.cons (.fn .isi (.cons (.var 0) (.cons (.cls 5) .nil))) (.cons (.fn .isi (.cons (.var 0) (.cons (.cls 6) .nil))) (.cons (.fn .isi (.cons (.var 0) (.cons (.cls 7) .nil))) (.cons (.fn .isi (.cons (.var 0) (.cons (.cls 8) .nil))) (.cons (.fn .isi (.cons (.var 0) (.cons (.cls 9) .nil))) (.cons (.fn .isi (.cons (.var 0) (.cons (.cls 10) .nil))) (.cons (.fn .isi (.cons (.var 0) (.cons (.cls 11) .nil))) (.cons (.fn .isi (.cons (.var 0) (.cons (.cls 12) .nil))) (.cons (.fn .isi (.cons (.var 0) (.cons (.cls 13) .nil))) (.cons (.fn .isi (.cons (.var 0) (.cons (.cls 14) .nil))) (.cons (.fn .isi (.cons (.var 0) (.cons (.cls 15) .nil))) (.cons (.fn .isi (.cons (.var 0) (.cons (.cls 16) .nil))) (.cons (.fn .isi (.cons (.var 0) (.cons (.cls 17) .nil))) (.cons (.fn .isi (.cons (.var 0) (.cons (.cls 18) .nil))) (.cons (.fn .isi (.cons (.var 0) (.cons (.cls 19) .nil))) (.cons (.fn .isi (.cons (.var 0) (.cons (.cls 20) .nil))) (.cons (.fn .isi (.cons (.var 0) (.cons (.cls 21) .nil))) (.cons (.fn .isi (.cons (.var 0) (.cons (.cls 22) .nil))) (.cons (.not (.fn .isi (.cons (.var 0) (.cons (.ty "ValueError") .nil)))) .nil)))))))))))))))))))))))))
   (.cons (.ret (.comp 3 (.rng (.cst (.int (23)))) (.yes (.ix (.var 2) (.var 3))) (.ix (.var 1) (.var 3))))
   .nil)))
def d_law_kinds : FnD := ⟨1, 4, b_law_kinds⟩
/-! 16 _law_error(error): 0 error -/
def N_law_error : List PySem.Str := [PySem.Str.ofString "error"]
def b_law_error : Ss :=
  (.cons (.ret (.tup (.cons (.cst (.int (1))) (.cons (.call 15 (.cons (.var 0) .nil)) (.cons (.attr (PySem.Str.ofString "what") (.var 0)) .nil)))))
   .nil)
def d_law_error : FnD := ⟨1, 1, b_law_error⟩
/-! 17 _law_meets(told, due): 0 told 1 due -/
def N_law_meets : List PySem.Str := [PySem.Str.ofString "told", PySem.Str.ofString "due"]
def b_law_meets : Ss :=
  (.cons (.ite (.cmp .ne (.ix (.var 0) (.cst (.int (0)))) (.ix (.var 1) (.cst (.int (0)))))
    (.cons (.ret (.cst (.bl false)))
     .nil)
    .nil)
   (.cons (.ite (.cmp .eq (.ix (.var 1) (.cst (.int (0)))) (.cst (.int (0))))
    (.cons (.ret (.call 10 (.cons (.ix (.var 0) (.cst (.int (1)))) (.cons (.ix (.var 1) (.cst (.int (1)))) .nil))))
     .nil)
    .nil)
   (.cons (.ret (.and (.cmp .eq (.ix (.var 0) (.cst (.int (1)))) (.lst (.cons (.ix (.var 1) (.cst (.int (1)))) .nil))) (.call 10 (.cons (.ix (.var 0) (.cst (.int (2)))) (.cons (.ix (.var 1) (.cst (.int (2)))) .nil)))))
   .nil)))
def d_law_meets : FnD := ⟨2, 2, b_law_meets⟩
/-! 18 _law_texts(store): 0 store 1 signs 2 name 3 at 4 texts 5 size 6 k 7 start 8 sign -/
def N_law_texts : List PySem.Str := [PySem.Str.ofString "store", PySem.Str.ofString "signs", PySem.Str.ofString "name", PySem.Str.ofString "at", PySem.Str.ofString "texts", PySem.Str.ofString "size", PySem.Str.ofString "k", PySem.Str.ofString "start", PySem.Str.ofString "sign"]
def b_law_texts_1 : Ss :=
  (.cons (.exp (.mth .append (.var 4) (.cons (.call 12 (.cons (.var 0) .nil)) .nil)))
   (.cons (.exp (.mth .append (.var 4) (.cons (.call 14 (.cons (.var 0) .nil)) .nil)))
   .nil))
def b_law_texts_2 : Ss :=
  (.cons (.exp (.mth .append (.var 4) (.cons (.call 13 (.cons (.var 0) .nil)) .nil)))
   .nil)
def b_law_texts_3 : Ss :=
  (.cons (.exp (.mth .append (.var 4) (.cons (.cut (.bin .mul (.var 2) (.cst (.int (40)))) .no (.yes (.var 5))) .nil)))
   .nil)
def b_law_texts : Ss :=
  (.cons (.asg 1 (.cst (.str (PySem.Str.ofString " !\"#$&'()*+,-./0123456789:;<=>?@ABCDEFGHIJKLMNOPQRSTUVWXYZ[\\]^_`"))))
   (.cons (.asg 1 (.bin .add (.var 1) (.cst (.str (PySem.Str.ofString "abcdefghijklmnopqrstuvwxyz{|}~")))))
   (.cons (.asg 2 (.call 12 (.cons (.var 0) .nil)))
   (.cons (.asg 3 (.call 5 (.cons (.var 0) (.cons (.fn .len (.cons (.var 2) .nil)) .nil))))
   (.cons (.ite (.call 6 (.cons (.var 0) (.cons (.cst (.int (2))) .nil)))
    (.cons (.asg 3 (.cst (.int (0))))
     .nil)
    .nil)
   (.cons (.asc 4 (.comp 8 (.any (.var 1)) .no (.bin .add (.bin .add (.cut (.var 2) .no (.yes (.var 3))) (.var 8)) (.cut (.var 2) (.yes (.bin .add (.var 3) (.cst (.int (1))))) .no))))
   (.cons (.for 5 (.any (.bin .add (.lrg (.cst (.int (11)))) (.lst (.cons (.cst (.int (39))) (.cons (.cst (.int (40))) .nil))))) b_law_texts_3)
   (.cons (.for 6 (.rng (.cst (.int (4)))) b_law_texts_2)
   (.cons (.for 6 (.rng (.cst (.int (3)))) b_law_texts_1)
   (.cons (.asg 7 (.call 5 (.cons (.var 0) (.cons (.fn .len (.cons (.var 4) .nil)) .nil))))
   (.cons (.asg 4 (.bin .add (.cut (.var 4) (.yes (.var 7)) .no) (.cut (.var 4) .no (.yes (.var 7)))))
   (.cons (.frz [4])
   (.cons (.ret (.bin .add (.var 4) (.cut (.var 4) .no (.yes (.cst (.int (4)))))))
   .nil)))))))))))))
def d_law_texts : FnD := ⟨1, 9, b_law_texts⟩
/-! 19 _law_ask(door, text): 0 door 1 text 2 e -/
def N_law_ask : List PySem.Str := [PySem.Str.ofString "door", PySem.Str.ofString "text", PySem.Str.ofString "e"]
def b_law_ask : Ss :=
  (.cons (.try
    (.cons (.ite (.cmp .eq (.var 0) (.cst (.int (0))))
      (.cons (.ret (.tup (.cons (.cst (.int (0))) (.cons (.call 0 (.cons (.var 1) .nil)) .nil))))
       .nil)
      .nil)
     (.cons (.ret (.tup (.cons (.cst (.int (0))) (.cons (.call 1 (.cons (.var 1) .nil)) .nil))))
     .nil)) 0 2
    (.cons (.ret (.call 16 (.cons (.var 2) .nil)))
     .nil))
   .nil)
def d_law_ask : FnD := ⟨2, 3, b_law_ask⟩
/-! 20 _law_base_right(what): 0 what 1 e -/
def N_law_base_right : List PySem.Str := [PySem.Str.ofString "what", PySem.Str.ofString "e"]
def b_law_base_right : Ss :=
  (.cons (.try
    (.cons (.rse 0 (.var 0))
     .nil) 0 1
    (.cons (.ret (.and (.cmp .eq (.call 15 (.cons (.var 1) .nil)) (.lst .nil)) (.call 10 (.cons (.attr (PySem.Str.ofString "what") (.var 1)) (.cons (.var 0) .nil)))))
     .nil))
   .nil)
def d_law_base_right : FnD := ⟨1, 2, b_law_base_right⟩
/-! 21 _law_due(door, text): 0 door 1 text 2 good -/
def N_law_due : List PySem.Str := [PySem.Str.ofString "door", PySem.Str.ofString "text", PySem.Str.ofString "good"]
def b_law_due : Ss :=
  (.cons (.asg 2 (.call 11 (.cons (.var 1) .nil)))
   (.cons (.ite (.cmp .eq (.var 0) (.cst (.int (0))))
    (.cons (.ret (.tup (.cons (.cst (.int (0))) (.cons (.var 2) .nil))))
     .nil)
    .nil)
   (.cons (.ite (.var 2)
    (.cons (.ret (.tup (.cons (.cst (.int (0))) (.cons (.var 1) .nil))))
     .nil)
    .nil)
   (.cons (.ret (.tup (.cons (.cst (.int (1))) (.cons (.cst (.str (PySem.Str.ofString "BadName"))) (.cons (.var 1) .nil)))))
   .nil))))
def d_law_due : FnD := ⟨2, 3, b_law_due⟩
/-! 22 law(script): 0 script 1 store 2 first 3 text 4 door -/
def N_law : List PySem.Str := [PySem.Str.ofString "script", PySem.Str.ofString "store", PySem.Str.ofString "first", PySem.Str.ofString "text", PySem.Str.ofString "door"]
def b_law_2 : Ss :=
  (.cons (.ite (.not (.call 17 (.cons (.call 19 (.cons (.var 4) (.cons (.var 3) .nil))) (.cons (.call 21 (.cons (.var 4) (.cons (.var 3) .nil))) .nil))))
    (.cons (.ret (.cst (.bl false)))
     .nil)
    .nil)
   .nil)
def b_law_1 : Ss :=
  (.cons (.for 4 (.any (.lst (.cons (.var 2) (.cons (.bin .sub (.cst (.int (1))) (.var 2)) .nil)))) b_law_2)
   .nil)
def b_law : Ss :=
  (.cons (.asg 1 (.call 3 (.cons (.var 0) .nil)))
   (.cons (.asg 2 (.call 5 (.cons (.var 1) (.cons (.cst (.int (2))) .nil))))
   (.cons (.ite (.or (.not (.call 20 (.cons (.call 14 (.cons (.var 1) .nil)) .nil))) (.not (.call 20 (.cons (.bin .sub (.call 5 (.cons (.var 1) (.cons (.cst (.int (1000000))) .nil))) (.cst (.int (7)))) .nil))))
    (.cons (.ret (.cst (.bl false)))
     .nil)
    .nil)
   (.cons (.for 3 (.any (.call 18 (.cons (.var 1) .nil))) b_law_1)
   (.cons (.ret (.cst (.bl true)))
   .nil)))))
def d_law : FnD := ⟨1, 5, b_law⟩
end Cf
set_option Elab.async false
set_option linter.all false
set_option maxRecDepth 100000
set_option maxHeartbeats 400000
/-! the drawn store -/
namespace Cf
open Mp
structure St6 where
  at_ : Int
  kind : Int
  key : Int
  left : Int
  turn : Int
def sto (s : St6) : Ob := .lst [.ref 2, .int s.at_, .int s.kind, .int s.key, .int s.left, .int s.turn]
/-- the heap: script, its slice, cells, the store -/
def B (ns : List Int) (s : St6) : Hq := [.frl (ns.map W.int), .lst (ns.map W.int), .lst (ns.map W.int), sto s]
def big : Int := (10 ^ 60) ^ 10
structure Inv (ns : List Int) (s : St6) (T : Nat) : Prop where
  len : ns.length ≤ 63
  a0 : 0 ≤ s.at_
  a1 : s.at_ ≤ ns.length
  k0 : 0 ≤ s.key
  k1 : s.key < big
  t0 : 0 ≤ s.turn
  t1 : s.turn ≤ T
theorem Inv.up {ns : List Int} {s : St6} {T T' : Nat} (i : Inv ns s T) (h : T ≤ T') : Inv ns s T' := ⟨i.len, i.a0, i.a1, i.k0, i.k1, i.t0, by have := i.t1; omega⟩
/-- the prelude's defs -/
structure Pre (Γ : Gam) : Prop where
  mix : Γ.fn 2 = some d_law_mix
  store : Γ.fn 3 = some d_law_store
  load : Γ.fn 4 = some d_law_load
  take : Γ.fn 5 = some d_law_take
section
variable {Γ : Gam} {wf : Nat} {ns : List Int} {s : St6} {e : Hq} {h : Hq}
@[simp] theorem st_ix0 : ixV (.ref 3) (.int 0) (B ns s ++ e) = ret (.ref 2) (B ns s ++ e) := rfl
@[simp] theorem st_ix1 : ixV (.ref 3) (.int 1) (B ns s ++ e) = ret (.int s.at_) (B ns s ++ e) := rfl
@[simp] theorem st_ix2 : ixV (.ref 3) (.int 2) (B ns s ++ e) = ret (.int s.kind) (B ns s ++ e) := rfl
@[simp] theorem st_ix3 : ixV (.ref 3) (.int 3) (B ns s ++ e) = ret (.int s.key) (B ns s ++ e) := rfl
@[simp] theorem st_ix4 : ixV (.ref 3) (.int 4) (B ns s ++ e) = ret (.int s.left) (B ns s ++ e) := rfl
@[simp] theorem st_ix5 : ixV (.ref 3) (.int 5) (B ns s ++ e) = ret (.int s.turn) (B ns s ++ e) := rfl
@[simp] theorem st_set1 (v : Int) : setV (.ref 3) (.int 1) (.int v) (B ns s ++ e) = some (B ns { s with at_ := v } ++ e) := rfl
@[simp] theorem st_set2 (v : Int) : setV (.ref 3) (.int 2) (.int v) (B ns s ++ e) = some (B ns { s with kind := v } ++ e) := rfl
@[simp] theorem st_set3 (v : Int) : setV (.ref 3) (.int 3) (.int v) (B ns s ++ e) = some (B ns { s with key := v } ++ e) := rfl
@[simp] theorem st_set4 (v : Int) : setV (.ref 3) (.int 4) (.int v) (B ns s ++ e) = some (B ns { s with left := v } ++ e) := rfl
@[simp] theorem st_set5 (v : Int) : setV (.ref 3) (.int 5) (.int v) (B ns s ++ e) = some (B ns { s with turn := v } ++ e) := rfl
@[simp] theorem st_len : fnV Γ .len [.ref 2] (B ns s ++ e) = ret (.int ns.length) (B ns s ++ e) := by
  show ret (W.int ((ns.map W.int).length : Nat)) _ = _
  rw [List.length_map]
@[simp] theorem st_list : fnV Γ .list [.ref 2] (B ns s ++ e) = alloc (.lst (ns.map W.int)) (B ns s ++ e) := rfl
theorem st_cell {i : Int} (h0 : 0 ≤ i) (h1 : i < ns.length) : ∃ c, ixV (.ref 2) (.int i) (B ns s ++ e) = ret (.int c) (B ns s ++ e) := by
  have hl : i.toNat < ns.length := by omega
  refine ⟨ns[i.toNat], ?_⟩
  have e1 : L2.atI (ns.map W.int) i = some (.int ns[i.toNat]) := by
    unfold L2.atI L2.ixN
    rw [List.length_map, if_pos h0, if_pos h1]
    show (ns.map W.int)[i.toNat]? = _
    rw [List.getElem?_map, List.getElem?_eq_getElem hl]
    rfl
  show (match L2.atI (ns.map W.int) i with | some v => ret v (B ns s ++ e) | none => none) = _
  rw [e1]
theorem big_lg : big.natAbs.log2 ≤ 2000 := by decide +kernel
theorem pow18 : powV (.int 10) (.int 18) h = ret (.int 1000000000000000000) h := rfl
theorem pow60 : powV (.int 10) (.int 60) h = ret (.int 1000000000000000000000000000000000000000000000000000000000000) h := pow_ok (by decide) (by decide +kernel)
theorem pow600 : powV (.int 1000000000000000000000000000000000000000000000000000000000000) (.int 10) h = ret (.int big) h := pow_ok (by decide) (by decide +kernel)
def mix1 (key turn : Int) : Int := (key * 48271 + turn * 2862933555777941757 + 1442695040888963407) % 2305843009213693951
def mix2 (one turn : Int) : Int := (one * one + one / 1073741824 + turn * 69621) % 2305843009213693951
def mix3 (two key : Int) : Int := (two * two + two / 4194304 + key * 16807 + 1) % 2305843009213693951
def mixF (key turn : Int) : Int := mix3 (mix2 (mix1 key turn) turn) key
theorem mix1_b (key turn : Int) : 0 ≤ mix1 key turn ∧ mix1 key turn < 2305843009213693951 := ⟨Int.emod_nonneg _ (by decide), Int.emod_lt_of_pos _ (by decide)⟩
theorem mix2_b (key turn : Int) : 0 ≤ mix2 key turn ∧ mix2 key turn < 2305843009213693951 := ⟨Int.emod_nonneg _ (by decide), Int.emod_lt_of_pos _ (by decide)⟩
theorem mixF_b (key turn : Int) : 0 ≤ mixF key turn ∧ mixF key turn < 2305843009213693951 := ⟨Int.emod_nonneg _ (by decide), Int.emod_lt_of_pos _ (by decide)⟩
theorem lg61 {i : Int} (h : 0 ≤ i ∧ i < 2305843009213693951) : i.natAbs.log2 ≤ 61 := lg (by omega)
theorem mix_ok {n : Nat} {h : Hq} (P : Pre Γ) {key turn : Int} (hk : key.natAbs.log2 ≤ 2000) (ht : turn.natAbs.log2 ≤ 2000) :
    call Γ wf (n + 1) 2 [.int key, .int turn] h = some (.ok (.int (mixF key turn)), h) := by
  have b1 := lg61 (mix1_b key turn)
  have b2 := lg61 (mix2_b (mix1 key turn) turn)
  rw [call_s P.mix rfl]
  have l1 : (Int.natAbs 48271).log2 = 15 := by decide +kernel
  have l2 : (Int.natAbs 2862933555777941757).log2 = 61 := by decide +kernel
  have l3 : (Int.natAbs 69621).log2 = 16 := by decide +kernel
  have l4 : (Int.natAbs 16807).log2 = 14 := by decide +kernel
  have e1 : ∀ h, mulV (.int key) (.int 48271) h = ret (.int (key * 48271)) h := fun h => mul_ok (by omega)
  have e2 : ∀ h, mulV (.int turn) (.int 2862933555777941757) h = ret (.int (turn * 2862933555777941757)) h := fun h => mul_ok (by omega)
  have e3 : ∀ i h, modV (.int i) (.int 2305843009213693951) h = ret (.int (i % 2305843009213693951)) h := fun i h => mod_ok (by decide)
  have e4 : ∀ h, mulV (.int (mix1 key turn)) (.int (mix1 key turn)) h = ret (.int (mix1 key turn * mix1 key turn)) h := fun h => mul_ok (by omega)
  have e5 : ∀ i h, fdivV (.int i) (.int 1073741824) h = ret (.int (i / 1073741824)) h := fun i h => fdiv_ok (by decide) (by decide +kernel)
  have e6 : ∀ h, mulV (.int turn) (.int 69621) h = ret (.int (turn * 69621)) h := fun h => mul_ok (by omega)
  have e7 : ∀ h, mulV (.int (mix2 (mix1 key turn) turn)) (.int (mix2 (mix1 key turn) turn)) h = ret (.int (mix2 (mix1 key turn) turn * mix2 (mix1 key turn) turn)) h := fun h => mul_ok (by omega)
  have e8 : ∀ i h, fdivV (.int i) (.int 4194304) h = ret (.int (i / 4194304)) h := fun i h => fdiv_ok (by decide) (by decide +kernel)
  have e9 : ∀ h, mulV (.int key) (.int 16807) h = ret (.int (key * 16807)) h := fun h => mul_ok (by omega)
  have f1 : (key * 48271 + turn * 2862933555777941757 + 1442695040888963407) % 2305843009213693951 = mix1 key turn := rfl
  have f2 : ∀ one, (one * one + one / 1073741824 + turn * 69621) % 2305843009213693951 = mix2 one turn := fun _ => rfl
  have f3 : ∀ two, (two * two + two / 4194304 + key * 16807 + 1) % 2305843009213693951 = mix3 two key := fun _ => rfl
  simp [d_law_mix, b_law_mix, Mp.start, e1, e2, e3, f1, e4, e5, e6, f2, e7, e8, e9, f3, mixF]
end
end Cf
set_option Elab.async false
set_option linter.all false
set_option maxRecDepth 100000
set_option maxHeartbeats 400000
namespace Cf
open Mp
section
variable {Γ : Gam} {wf : Nat} {ns : List Int} {s : St6} {e : Hq} {h : Hq} {T n : Nat}
def Nox (h : Hq) : Prop := h.map killX = h
theorem Nox.nil : Nox [] := rfl
theorem Nox.app {a b : Hq} (ha : Nox a) (hb : Nox b) : Nox (a ++ b) := by
  unfold Nox at *
  rw [List.map_append, ha, hb]
theorem Nox.one {o : Ob} (h : killX o = o) : Nox [o] := by
  unfold Nox
  rw [List.map_cons, h]
  rfl
theorem mod_big (i : Int) : modV (.int i) (.int big) h = ret (.int (i % big)) h := mod_ok (by decide +kernel)
theorem mod_prime (i : Int) : modV (.int i) (.int 2305843009213693951) h = ret (.int (i % 2305843009213693951)) h := mod_ok (by decide)
theorem prime_big : (2305843009213693951 : Int) < big := by decide +kernel
theorem hash_ok (xs : List Int) {D : Nat} {v0 v1 v2 v3 : Option W} : ∀ (key : Int) (o : Option W), 0 ≤ key → key < 2305843009213693951 → (∃ a, h[D]? = some a) →
    ∃ (key' : Int) (o' : Option W), 0 ≤ key' ∧ key' < 2305843009213693951 ∧ ∀ g, stays g h = true → forL g 4 (Bd Γ (call Γ wf n) wf (.cons (.asg 5 (.bin .mod (.fn .int (.cons (.bin .add (.bin .mul (.var 5) (.cst (.int (1000003)))) (.bin .mod (.fn .int (.cons (.var 4) .nil)) (.var 1))) .nil)) (.var 1))) .nil)) (xs.map W.int) [v0, some (.int 2305843009213693951), v2, v3, o, some (.int key)] h =
      some (.nx [v0, some (.int 2305843009213693951), v2, v3, o', some (.int key')], h) := by
  induction xs with
  | nil => exact fun key o a b _ => ⟨key, o, a, b, fun g hg => forL_nil hg⟩
  | cons x xs ih =>
    intro key o a b hD
    obtain ⟨k', o', a', b', q⟩ := ih ((key * 1000003 + x % 2305843009213693951) % 2305843009213693951) (some (.int x)) (Int.emod_nonneg _ (by decide)) (Int.emod_lt_of_pos _ (by decide)) hD
    refine ⟨k', o', a', b', fun g hg => ?_⟩
    have b1 := lg61 ⟨a, b⟩
    have l1 : (Int.natAbs 1000003).log2 = 19 := by decide +kernel
    have e1 : ∀ h, mulV (.int key) (.int 1000003) h = ret (.int (key * 1000003)) h := fun h => mul_ok (by omega)
    rw [← q g hg, List.map_cons]
    refine forL_cons hg ?_
    simp [Bd_ap, e1, mod_prime]
theorem load_ok (P : Pre Γ) (i : Inv ns s T) : ∃ s' j, call Γ wf (n + 1) 4 [.ref 3] (B ns s ++ e) = some (.ok .non, B ns s' ++ (e ++ j)) ∧ Inv ns s' T ∧ Nox j := by
  rw [call_s P.load rfl]
  by_cases hlt : s.at_ < ns.length
  · obtain ⟨c, hc⟩ := st_cell (e := e) (s := s) i.a0 hlt
    by_cases h1 : 1000000000000000000 ≤ c ∨ c ≤ -1000000000000000000
    · refine ⟨{ s with at_ := s.at_ + 1, kind := 1, key := (if c < 0 then -c else c) % big, left := 6 }, [], ?_, ⟨i.len, by have := i.a0; show 0 ≤ s.at_ + 1; omega, by show s.at_ + 1 ≤ _; omega, Int.emod_nonneg _ (by decide +kernel), Int.emod_lt_of_pos _ (by decide +kernel), i.t0, i.t1⟩, Nox.nil⟩
      rcases h1 with h1 | h1
      · simp [d_law_load, b_law_load, Mp.start, hlt, hc, pow18, pow60, pow600, h1, mod_big]
      · by_cases h2 : 1000000000000000000 ≤ c
        · simp [d_law_load, b_law_load, Mp.start, hlt, hc, pow18, pow60, pow600, h1, h2, mod_big]
        · simp [d_law_load, b_law_load, Mp.start, hlt, hc, pow18, pow60, pow600, h1, h2, mod_big]
    · have h2 : ¬ 1000000000000000000 ≤ c := fun z => h1 (.inl z)
      have h3 : ¬ c ≤ -1000000000000000000 := fun z => h1 (.inr z)
      have b1 : c.natAbs.log2 ≤ 60 := lg (by omega)
      have b2 : s.at_.natAbs.log2 ≤ 60 := lg (by have := i.a0; have := i.len; omega)
      have l1 : (Int.natAbs 97).log2 = 6 := by decide +kernel
      have l2 : (Int.natAbs 1000003).log2 = 19 := by decide +kernel
      have e1 : ∀ h, mulV (.int c) (.int 97) h = ret (.int (c * 97)) h := fun h => mul_ok (by omega)
      have e2 : ∀ h, mulV (.int s.at_) (.int 1000003) h = ret (.int (s.at_ * 1000003)) h := fun h => mul_ok (by omega)
      refine ⟨{ s with at_ := s.at_ + 1, kind := 2, key := (c * 97 + s.at_ * 1000003 + 11) % 2305843009213693951, left := 6 }, [], ?_, ⟨i.len, by have := i.a0; show 0 ≤ s.at_ + 1; omega, by show s.at_ + 1 ≤ _; omega, Int.emod_nonneg _ (by decide), Int.lt_trans (Int.emod_lt_of_pos _ (by decide)) prime_big, i.t0, i.t1⟩, Nox.nil⟩
      simp [d_law_load, b_law_load, Mp.start, hlt, hc, pow18, h2, h3, mod_prime, e1, e2]
  · have hl := i.len
    obtain ⟨k', o', a', b', q⟩ := hash_ok (Γ := Γ) (wf := wf) (n := n) (h := B ns s ++ (e ++ [.lst (ns.map W.int)])) (D := 0) (v0 := some (.ref 3)) (v1 := none) (v2 := some (.ref 2)) (v3 := some (.int s.at_)) ns (ns.length + 1) none (by omega) (by omega) ⟨_, rfl⟩
    refine ⟨{ s with kind := 0, key := k' }, [.lst (ns.map W.int)], ?_, ⟨i.len, i.a0, i.a1, a', Int.lt_trans b' prime_big, i.t0, i.t1⟩, Nox.one rfl⟩
    have g := get_new2 (B ns s) e (.lst (ns.map W.int))
    have q := q _ (stays_at g)
    simp [d_law_load, b_law_load, Mp.start, hlt, alloc, walk_lst g, q]
end
end Cf
set_option Elab.async false
set_option linter.all false
set_option maxRecDepth 100000
set_option maxHeartbeats 400000
namespace Cf
open Mp
section
variable {Γ : Gam} {wf : Nat} {ns : List Int} {s : St6} {e : Hq} {h : Hq} {T n : Nat}
theorem lgk {k : Int} (h0 : 0 ≤ k) (h1 : k < big) : k.natAbs.log2 ≤ 2000 := lg (by
  have : big < 2 ^ 2000 := by decide +kernel
  have e : ((2 : Int) ^ 2000) = ((2 ^ 2000 : Nat) : Int) := by norm_cast
  rw [e] at this
  generalize (2 : Nat) ^ 2000 = N at *
  omega)
theorem lgt {t : Int} (h0 : 0 ≤ t) (h1 : t ≤ 4000000000) : t.natAbs.log2 ≤ 2000 := lgk h0 (Int.lt_of_le_of_lt h1 (by decide +kernel))
/-- draws that are never reached -/
def Tm : Int := (10 ^ 50) ^ 10
theorem lgT {t : Int} (h0 : 0 ≤ t) (h1 : t ≤ Tm + 1) : t.natAbs.log2 ≤ 2000 := lgk h0 (Int.lt_of_le_of_lt h1 (by decide +kernel))
theorem Tm_le {T : Nat} (h : T ≤ 3000000000) : (T : Int) ≤ Tm := Int.le_trans (Int.ofNat_le.mpr h) (by decide +kernel)
theorem fdiv16 (i : Int) : fdivV (.int i) (.int 16) h = ret (.int (i / 16)) h := fdiv_ok (by decide) (by decide +kernel)
/-- a draw -/
theorem take_big (P : Pre Γ) (i : Inv ns s T) (hT : (T : Int) ≤ Tm) {count : Int} (h2 : 2 ≤ count) (hc : count ≤ 4000000000) :
    ∃ s' j v, call Γ wf (n + 2) 5 [.ref 3, .int count] (B ns s ++ e) = some (.ok (.int v), B ns s' ++ (e ++ j)) ∧ Inv ns s' (T + 1) ∧ Nox j ∧ 0 ≤ v ∧ v < count := by
  have hlc : count.natAbs.log2 < 9000 := Nat.lt_of_le_of_lt (lgt (by omega) hc) (by decide)
  have md : ∀ i h, modV (.int i) (.int count) h = ret (.int (i % count)) h := fun i h => mod_ok (by omega)
  have fd : ∀ i h, fdivV (.int i) (.int count) h = ret (.int (i / count)) h := fun i h => fdiv_ok (by omega) hlc
  rw [call_s P.take rfl]
  have n2 : ¬ count < 2 := by omega
  have main : WF (exSs Γ wf (call Γ wf (n + 1)) b_law_take (Mp.start 4 [.ref 3, .int count]) (B ns s ++ e)) fun f h => ∃ s' j v, f = .ret (.int v) ∧ h = B ns s' ++ (e ++ j) ∧ Inv ns s' (T + 1) ∧ Nox j ∧ 0 ≤ v ∧ v < count := by
    simp only [b_law_take, Mp.start, exSs_cons, exS_ite, evT_cmp, evE_var, List.map, List.replicate, List.length, List.append, List.cons_append, List.nil_append, List.getElem?_cons_zero, List.getElem?_cons_succ, varF_some, bnd_ret, kCmpT1_ap, evE_cst, kCmpT2_ap, cmp_lt_int, optT_some, lft_ret, n2, decide_false, kIf_f, exSs_nil, sq_nx, kSs_ap, exS_for, evS_rng, kRng_ap, show rngOk 70 = true from rfl, rngF_t, kFor_ap]
    refine WF_sq ((forL_ok (I := fun xs ρ h => ∃ s' j o2 o3, ρ = [some (.ref 3), some (.int count), o2, o3] ∧ h = B ns s' ++ (e ++ j) ∧ Inv ns s' T ∧ Nox j)
      (Q := fun f h => (∃ ρ s' j o2 o3, f = .nx ρ ∧ ρ = [some (.ref 3), some (.int count), o2, o3] ∧ h = B ns s' ++ (e ++ j) ∧ Inv ns s' T ∧ Nox j) ∨ ∃ s' j v, f = .ret (.int v) ∧ h = B ns s' ++ (e ++ j) ∧ Inv ns s' (T + 1) ∧ Nox j ∧ 0 ≤ v ∧ v < count)
      (fun _ _ _ _ => rfl) ?_ ?_ _ _ _ ?_).mono ?_)
    · rintro x xs ρ h ⟨s', j, o2, o3, rfl, rfl, i', nj⟩
      rw [Bd_ap]
      by_cases c0 : s'.kind = 0
      · simp [c0]
        exact ⟨s', j, rfl, i', nj⟩
      by_cases c1 : s'.kind = 1 ∧ 0 < s'.key
      · obtain ⟨c1, c2⟩ := c1
        simp [c1, c2, md, fd]
        exact ⟨_, j, rfl, ⟨i'.len, i'.a0, i'.a1, Int.ediv_nonneg i'.k0 (by omega), Int.lt_of_le_of_lt (Int.ediv_le_self _ i'.k0) i'.k1, i'.t0, Int.le_trans i'.t1 (by omega)⟩, nj, Int.emod_nonneg _ (by omega), Int.emod_lt_of_pos _ (by omega)⟩
      by_cases c2 : s'.kind = 2 ∧ 0 < s'.left
      · obtain ⟨c2, c3⟩ := c2
        have m : ∀ h, call Γ wf (n + 1) 2 [.int s'.key, .int (s'.turn + 1)] h = some (.ok (.int (mixF s'.key (s'.turn + 1))), h) := fun h => mix_ok P (lgk i'.k0 i'.k1) (lgT (by have := i'.t0; omega) (by have := i'.t1; omega))
        simp [c2, c3, md, fd, fdiv16, m]
        exact ⟨_, j, rfl, ⟨i'.len, i'.a0, i'.a1, i'.k0, i'.k1, by have := i'.t0; show 0 ≤ s'.turn + 1; omega, by have := i'.t1; show s'.turn + 1 ≤ _; omega⟩, nj, Int.emod_nonneg _ (by omega), Int.emod_lt_of_pos _ (by omega)⟩
      · obtain ⟨s2, j2, l1, l2, l3⟩ := load_ok (wf := wf) (n := n) (e := e ++ j) P i'
        have fin : ∃ x x_1, B ns s2 ++ (e ++ (j ++ j2)) = B ns x ++ (e ++ x_1) ∧ Inv ns x T ∧ Nox x_1 := ⟨s2, j ++ j2, rfl, l2, nj.app l3⟩
        have l1 : call Γ wf (n + 1) 4 [.ref 3] (B ns s' ++ (e ++ j)) = some (.ok .non, B ns s2 ++ (e ++ (j ++ j2))) := by rw [l1, List.append_assoc]
        by_cases a1 : s'.kind = 1
        · have a2 : ¬ 0 < s'.key := fun z => c1 ⟨a1, z⟩
          simp [a1, a2, l1]
          exact fin
        · by_cases a2 : s'.kind = 2
          · have a3 : ¬ 0 < s'.left := fun z => c2 ⟨a2, z⟩
            simp [a2, a3, l1]
            exact fin
          · simp [c0, a1, a2, l1]
            exact fin
    · rintro ρ h ⟨s', j, o2, o3, rfl, rfl, i', nj⟩
      exact .inl ⟨_, s', j, o2, o3, rfl, rfl, rfl, i', nj⟩
    · exact ⟨s, [], none, none, rfl, by simp, i, Nox.nil⟩
    · rintro f h (⟨ρ, s', j, o2, o3, rfl, rfl, rfl, i', nj⟩ | ⟨s', j, v, rfl, r⟩)
      · have m : ∀ h, call Γ wf (n + 1) 2 [.int s'.key, .int (s'.turn + 1)] h = some (.ok (.int (mixF s'.key (s'.turn + 1))), h) := fun h => mix_ok P (lgk i'.k0 i'.k1) (lgT (by have := i'.t0; omega) (by have := i'.t1; omega))
        simp [md, fdiv16, m]
        exact ⟨_, j, rfl, ⟨i'.len, i'.a0, i'.a1, i'.k0, i'.k1, by have := i'.t0; show 0 ≤ s'.turn + 1; omega, by have := i'.t1; show s'.turn + 1 ≤ _; omega⟩, nj, Int.emod_nonneg _ (by omega), Int.emod_lt_of_pos _ (by omega)⟩
      · exact ⟨s', j, v, rfl, r⟩
  obtain ⟨f, h', e1, s', j, v, rfl, rfl, r⟩ := main.ex
  refine ⟨s', j, v, ?_, r⟩
  show endF (exSs Γ wf (call Γ wf (n + 1)) b_law_take (Mp.start 4 [.ref 3, .int count]) (B ns s ++ e)) = _
  rw [e1]
  rfl
theorem take_ok (P : Pre Γ) (i : Inv ns s T) (hT : T ≤ 3000000000) {count : Int} (h2 : 2 ≤ count) (hc : count ≤ 4000000000) :
    ∃ s' j v, call Γ wf (n + 2) 5 [.ref 3, .int count] (B ns s ++ e) = some (.ok (.int v), B ns s' ++ (e ++ j)) ∧ Inv ns s' (T + 1) ∧ Nox j ∧ 0 ≤ v ∧ v < count := take_big P i (Tm_le hT) h2 hc
end
end Cf
set_option Elab.async false
set_option linter.all false
set_option maxRecDepth 100000
/-! Vp A: runs over plain data, in the style of weakest preconditions: what is owned is told by a flag, draws are for all values. -/
namespace Vp
open PySem Mp
/-- what kind of object -/
inductive Kd where
  | lst | tup | dct (ks : List L2.Key) | ins (c : Nat) (ns : List Str)
  deriving DecidableEq
/-- data -/
inductive D where
  | non | bl (b : Bool) | int (i : Int) | str (x : Str) | ty (n : String) | cls (c : Nat) | sto | hole
  | exc (c : Nat) (d : D)
  | nd (k : Kd) (xs : List D)
abbrev D.lst (xs : List D) : D := .nd .lst xs
abbrev D.tup (xs : List D) : D := .nd .tup xs
instance : Inhabited D := ⟨.non⟩
/-- frozen, its root alone owned, owned all through -/
inductive Fg where | fr | rt | dp
  deriving DecidableEq
/-- where an owned thing stands: at a path of a slot, or new (with what was taken out of slots) -/
inductive Src where | p (i : Nat) (q : List Nat) | t (ts : List Nat)
  deriving DecidableEq
structure Val where
  d : D
  g : Fg
  s : Src
abbrev Sl := Option (D × Fg)
abbrev Sv := List Sl
/-- a call's end -/
inductive Rz where | ok (d : D) (g : Fg) | exc (c : Nat) (d : D)
def isSc : D → Bool
  | .non => true | .bl _ => true | .int _ => true | .str _ => true | .ty _ => true | .cls _ => true | .sto => true
  | _ => false
def isHole : D → Bool
  | .hole => true
  | _ => false
def isExc : D → Bool
  | .exc _ _ => true
  | _ => false
/-- a plain value -/
abbrev sc (d : D) : Val := ⟨d, .fr, .t []⟩
abbrev nw (d : D) (g : Fg) : Val := ⟨d, g, .t []⟩
def ofW : W → Option D
  | .non => some .non | .bl b => some (.bl b) | .int i => some (.int i) | .str x => some (.str x) | .ty n => some (.ty n) | .cls c => some (.cls c)
  | .ref _ => none
def rdv (i : Nat) (d : D) (g : Fg) : Val := if isSc d = true then sc d else match g with
  | .fr => sc d
  | g => ⟨d, g, .p i []⟩
/-- a part of a value -/
def sub (v : Val) (k : Nat) (x : D) : Val := if isSc x = true then sc x else match v.g with
  | .dp => (match v.s with
    | .p i q => ⟨x, .dp, .p i (q ++ [k])⟩
    | .t ts => ⟨x, .dp, .t ts⟩)
  | _ => sc x
abbrev QV := Val → Prop
abbrev QX := Nat → D → Prop
abbrev W1 := QV → QX → Prop
abbrev WB := (Bool → Prop) → QX → Prop
abbrev WL := (List Val → Prop) → QX → Prop
abbrev WO := (Option Int → Prop) → QX → Prop
/-- calls: is an exception handled, the def, the arguments -/
abbrev Cl := Bool → Nat → List D → (Rz → Prop) → Prop
def oQ {α : Type} (o : Option α) (Q : α → Prop) : Prop := match o with
  | some v => Q v
  | none => False
@[simp] theorem oQ_some {α : Type} (v : α) (Q : α → Prop) : oQ (some v) Q = Q v := rfl
@[simp] theorem oQ_none {α : Type} (Q : α → Prop) : oQ none Q = False := rfl
/-! ### what is stored into a new object -/
/-- a value as a part: all owned or not, what was taken -/
def st1 (v : Val) : Option (Bool × List Nat) := if isSc v.d = true then some (true, []) else match v.d with
  | .hole => none
  | .exc _ _ => none
  | _ => (match v.g with
    | .fr => some (false, [])
    | g => (match v.s with
      | .p i [] => some (decide (g = .dp), [i])
      | .p _ _ => none
      | .t ts => some (decide (g = .dp), ts)))
def stL : List Val → Option (Bool × List Nat)
  | [] => some (true, [])
  | v :: vs => match st1 v, stL vs with
    | some (b, ts), some (c, us) => some (b && c, ts ++ us)
    | _, _ => none
/-- a new object of these parts -/
def mk (k : Kd) (vs : List Val) : Option Val := match stL vs with
  | some (true, ts) => if ts.Nodup then some ⟨.nd k (vs.map (·.d)), .dp, .t ts⟩ else none
  | some (false, []) => some ⟨.nd k (vs.map (·.d)), .rt, .t []⟩
  | _ => none
/-- the parts xs of v are stored once more: all owned? -/
def cpy (v : Val) (xs : List D) : Option Bool := if xs.all isSc = true then some true else match v.g with
  | .fr => some false
  | .rt => some false
  | .dp => if v.s = .t [] then some true else none
def bF (b : Bool) : Fg := if b = true then .dp else .rt
/-! ### operators -/
def litB : List D → Bool
  | [] => true
  | _ :: _ => false
def vAdd (a b : Val) : Option Val := match a.d, b.d with
  | .int i, .int j => some (sc (.int (i + j)))
  | .str x, .str y => if x.length + y.length ≤ line then some (sc (.str (x ++ y))) else none
  | .nd .lst xs, .nd .lst ys => if xs.length + ys.length ≤ line then (match cpy a xs, cpy b ys with
    | some p, some q => some (nw (.nd .lst (xs ++ ys)) (bF (p && q)))
    | _, _ => none) else none
  | .nd .tup xs, .nd .tup ys => if xs.length + ys.length ≤ line ∧ litB xs = false ∧ litB ys = false then (match cpy a xs, cpy b ys with
    | some p, some q => some (nw (.nd .tup (xs ++ ys)) (bF (p && q)))
    | _, _ => none) else none
  | _, _ => none
def vMul (a b : Val) : Option Val := match a.d, b.d with
  | .int i, .int j => if i.natAbs.log2 + j.natAbs.log2 < 1000000 then some (sc (.int (i * j))) else none
  | .str x, .int n => if -1000000 ≤ n ∧ n ≤ 1000000 ∧ x.length * n.toNat ≤ line then some (sc (.str (repS x n))) else none
  | .nd .lst xs, .int n => if -1000000 ≤ n ∧ n ≤ 1000000 ∧ xs.length * n.toNat ≤ line ∧ xs.all isSc = true then some (nw (.nd .lst (List.replicate n.toNat xs).flatten) .dp) else none
  | _, _ => none
def vBin (o : BOp) (a b : Val) : Option Val := match o with
  | .add => vAdd a b
  | .mul => vMul a b
  | .sub => (match a.d, b.d with
    | .int i, .int j => some (sc (.int (i - j)))
    | _, _ => none)
  | .fdiv => (match a.d, b.d with
    | .int i, .int j => if 0 < j ∧ j.natAbs.log2 < 9000 then some (sc (.int (i / j))) else none
    | _, _ => none)
  | .mod => (match a.d, b.d with
    | .int i, .int j => if 0 < j then some (sc (.int (i % j))) else none
    | _, _ => none)
  | .pow => (match a.d, b.d with
    | .int i, .int n => if 0 ≤ n ∧ (Builtin.Int.intBits i : Int) * n ≤ 134217728 then some (sc (.int (i ^ n.toNat))) else none
    | _, _ => none)
def vAug (o : BOp) (a b : Val) : Option Val := match o, a.d, b.d with
  | .add, .int i, .int j => some (sc (.int (i + j)))
  | .add, .str x, .str y => if x.length + y.length ≤ line then some (sc (.str (x ++ y))) else none
  | .sub, .int i, .int j => some (sc (.int (i - j)))
  | _, _, _ => none
/-- equal plain values -/
def eqSc : D → D → Option Bool
  | .non, .non => some true | .non, .int _ => some false | .int _, .non => some false | .non, .bl _ => some false | .bl _, .non => some false | .non, .str _ => some false | .str _, .non => some false
  | .int i, .int j => some (decide (i = j)) | .bl a, .bl b => some (a == b) | .str x, .str y => some (decide (x = y))
  | .int _, .str _ => some false | .str _, .int _ => some false | .bl _, .str _ => some false | .str _, .bl _ => some false
  | _, _ => none
def toPy : Nat → D → Option PyData
  | 0, _ => none
  | n + 1, d => match d with
    | .non => some .none
    | .bl b => some (.bool b)
    | .int i => some (.int i)
    | .str x => some (.str x)
    | .nd .lst xs => (xs.mapM (toPy n)).map .list
    | .nd .tup xs => (xs.mapM (toPy n)).map .tuple
    | _ => none
def eqD (a b : D) : Option Bool := match eqSc a b with
  | some r => some r
  | none => (match toPy 12 a, toPy 12 b with
    | some d, some e => if SeqAt.shaped d && SeqAt.shaped e then some (PyData.eqv d e) else none
    | _, _ => none)
def flatD : D → Bool
  | .non => true | .bl _ => true | .int _ => true | .str _ => true
  | _ => false
def eqFD : D → D → Bool
  | .non, .non => true
  | .bl a, .bl b => a == b
  | .bl a, .int b => (if a then 1 else 0) == b
  | .int a, .bl b => a == (if b then 1 else 0)
  | .int a, .int b => a == b
  | .str a, .str b => a == b
  | _, _ => false
def inD (x y : D) : Option Bool := match x, y with
  | .str a, .str b => some (hasS a b)
  | x, .nd .lst ys => if flatD x && ys.all flatD then some (ys.any fun y => eqFD y x) else none
  | x, .nd .tup ys => if flatD x && ys.all flatD then some (ys.any fun y => eqFD y x) else none
  | _, _ => none
def ordD (f : Int → Int → Bool) (g : Str → Str → Bool) (x y : D) : Option Bool := match x, y with
  | .int i, .int j => some (f i j)
  | .str a, .str b => some (g a b)
  | _, _ => none
def cmpD : COp → D → D → Option Bool
  | .eq, x, y => eqD x y
  | .ne, x, y => (eqD x y).map (!·)
  | .lt, x, y => ordD (fun i j => decide (i < j)) ltS x y
  | .le, x, y => ordD (fun i j => decide (i ≤ j)) (fun a b => !ltS b a) x y
  | .gt, x, y => ordD (fun i j => decide (j < i)) (fun a b => ltS b a) x y
  | .ge, x, y => ordD (fun i j => decide (j ≤ i)) (fun a b => !ltS a b) x y
  | .isin, x, y => inD x y
  | .nin, x, y => (inD x y).map (!·)
def truD : D → Option Bool
  | .non => some false
  | .bl b => some b
  | .int i => some (i != 0)
  | .str x => if x.length ≤ line then some ((x.length : Int) != 0) else none
  | .nd .lst xs => some (!xs.isEmpty)
  | .nd .tup xs => some (!xs.isEmpty)
  | _ => none
def isNon : D → Option Bool
  | .non => some true
  | .hole => none
  | _ => some false
/-- x[i] -/
def vIx (x i : Val) : Option Val := match i.d with
  | .int k => (match x.d with
    | .str z => if z.length ≤ line then (L2.atI z.cps.toList k).map fun c => sc (.str ⟨#[c]⟩) else none
    | .nd .lst xs => (L2.ixN xs.length k).bind fun j => xs[j]?.map (sub x j)
    | .nd .tup xs => (L2.ixN xs.length k).bind fun j => xs[j]?.map (sub x j)
    | _ => none)
  | _ => none
def vCut (x : Val) (lo hi : Option Int) : Option Val := match x.d with
  | .str z => if z.length ≤ line then some (sc (.str (L2.cutS z lo hi))) else none
  | .nd .lst xs => (cpy x (cutL xs lo hi)).map fun b => nw (.nd .lst (cutL xs lo hi)) (bF b)
  | _ => none
def tyD : D → Option String
  | .non => some "NoneType"
  | .bl _ => some "bool"
  | .int _ => some "int"
  | .str _ => some "str"
  | .nd .lst _ => some "list"
  | .nd .tup _ => some "tuple"
  | .nd (.dct _) _ => some "dict"
  | _ => none
def clsD : D → Option (Bool × Nat)
  | .nd (.ins c _) _ => some (false, c)
  | .exc c _ => some (true, c)
  | _ => none
def isiD (Γ : Gam) (x t : D) : Option Bool := match tyD x with
  | some a => (match t with
    | .ty b => L2.kitB a b
    | _ => none)
  | none => (match clsD x with
    | some (e, c) => if Γ.hc c = true ∧ Γ.exc c = e then (match t with
      | .cls d => if Γ.hc d = true then some (Γ.sub c d) else none
      | .ty b => if b ∈ Γ.tys then some (Γ.subT c b) else none
      | _ => none) else none
    | none => none)
def strsD : List D → Option (List Str)
  | [] => some []
  | .str z :: r => (strsD r).map (z :: ·)
  | _ :: _ => none
def intsD : List D → Option (List Int)
  | [] => some []
  | .int z :: r => (intsD r).map (z :: ·)
  | _ :: _ => none
def seqD : D → Option (List D)
  | .nd .lst xs => some xs
  | .nd .tup xs => some xs
  | _ => none
def lstD : D → Option (List D)
  | .nd .lst xs => some xs
  | _ => none
def vFn (Γ : Gam) (b : Fn) (vs : List Val) : Option Val := match b, vs with
  | .len, [x] => (match x.d with
    | .str z => if z.length ≤ line then some (sc (.int z.length)) else none
    | .nd .lst xs => some (sc (.int xs.length))
    | .nd .tup xs => some (sc (.int xs.length))
    | _ => none)
  | .int, [x] => (match x.d with
    | .int i => some (sc (.int i))
    | .str z => (match PySem.intText? z with
      | some n => if z.length ≤ 640 then some (sc (.int n)) else none
      | none => none)
    | _ => none)
  | .abs, [x] => (match x.d with
    | .int i => some (sc (.int (if i < 0 then -i else i)))
    | _ => none)
  | .min, [x, y] => (match x.d, y.d with
    | .int i, .int j => some (sc (.int (if j < i then j else i)))
    | _, _ => none)
  | .max, [x, y] => (match x.d, y.d with
    | .int i, .int j => some (sc (.int (if j > i then j else i)))
    | _, _ => none)
  | .str, [x] => (match x.d with
    | .int i => if i.natAbs.log2 < 1920 then some (sc (.str (toString i))) else none
    | .str z => some (sc (.str z))
    | _ => none)
  | .sorted, [x] => ((lstD x.d).bind intsD).map fun ns => nw (.nd .lst ((sortI ns).map .int)) .dp
  | .list, [x] => (match x.d with
    | .nd .lst xs => (cpy x xs).map fun b => nw (.nd .lst xs) (bF b)
    | .nd .tup xs => (cpy x xs).map fun b => nw (.nd .lst xs) (bF b)
    | _ => none)
  | .isi, [x, t] => (isiD Γ x.d t.d).map fun b => sc (.bl b)
  | _, _ => none
@[irreducible] def rngD (i j : Int) : List D := (List.range (j - i).toNat).map fun (k : Nat) => D.int (i + k)
def vLrg (x y : Val) : Option Val := match x.d, y.d with
  | .int i, .int j => if rngOk i && rngOk j && decide ((j - i).toNat ≤ line) then some (nw (.nd .lst (rngD i j)) .dp) else none
  | _, _ => none
def vMth (m : Mt) (o : Val) (vs : List Val) : Option Val := match m, o.d, vs with
  | .upper, .str z, [] => if z.length ≤ 5592405 then some (sc (.str (Txt.upper z))) else none
  | .split, .str z, [x] => (match x.d with
    | .str b => if (b.length == 0) = false ∧ z.length + 2 ≤ line then some (nw (.nd .lst ((Txt.split z b).map .str)) .dp) else none
    | _ => none)
  | .join, .str z, [y] => (match (seqD y.d).bind strsD with
    | some ys => if (ys.map (·.length)).sum + ys.length * z.length ≤ 16777216 then some (sc (.str (Txt.join z ys))) else none
    | none => none)
  | .strip, .str z, [] => if z.length ≤ line then some (sc (.str (Txt.strip z))) else none
  | .startswith, .str z, [x] => (match x.d with
    | .str b => some (sc (.bl (Txt.startswith z b)))
    | _ => none)
  | .find, .str z, [x] => (match x.d with
    | .str b => some (sc (.int (Txt.find z b)))
    | _ => none)
  | _, _, _ => none
def vAttr (Γ : Gam) (x : Val) : Option Val := match x.d with
  | .exc c d => if (Γ.hc c && Γ.exc c) = true ∧ isSc d = true then some (sc d) else none
  | _ => none
/-- the items of a walk -/
def itms (v : Val) : Option (List D) := match v.d with
  | .str z => if z.length ≤ line then some (z.cps.toList.map fun c => D.str ⟨#[c]⟩) else none
  | .nd .lst xs => if v.g = .dp ∧ v.s ≠ .t [] ∧ xs.all isSc = false then none else some xs
  | .nd .tup xs => if v.g = .dp ∧ v.s ≠ .t [] ∧ xs.all isSc = false then none else some xs
  | _ => none
/-- has a borrowed part -/
def brw (vs : List Val) : Bool := vs.any fun v => match v.s with
  | .p _ _ => true
  | .t ts => !ts.isEmpty
/-! ### the run -/
def varQ (i : Nat) (Q : QV) : Option Sl → Prop
  | some (some (d, g)) => Q (rdv i d g)
  | _ => False
def cstQ (Q : QV) : Option W → Prop
  | some w => oQ (ofW w) fun d => Q (sc d)
  | none => False
def kBin2 (o : BOp) (x : Val) (Q : QV) (y : Val) : Prop := oQ (vBin o x y) Q
def kBin1 (wb : W1) (o : BOp) (Q : QV) (X : QX) (x : Val) : Prop := wb (kBin2 o x Q) X
def kNeg (Q : QV) (x : Val) : Prop := match x.d with
  | .int i => Q (sc (.int (-i)))
  | _ => False
def kCmp2 (o : COp) (x : Val) (Q : QV) (y : Val) : Prop := oQ (cmpD o x.d y.d) fun b => Q (sc (.bl b))
def kCmp1 (wb : W1) (o : COp) (Q : QV) (X : QX) (x : Val) : Prop := wb (kCmp2 o x Q) X
def kIsN (s : Bool) (Q : QV) (x : Val) : Prop := oQ (isNon x.d) fun b => Q (sc (.bl (s == b)))
def kChn3 (wc : W1) (p : COp) (y : Val) (Q : QV) (X : QX) : Bool → Prop
  | true => wc (kCmp2 p y Q) X
  | false => Q (sc (.bl false))
def kChn2 (wc : W1) (o p : COp) (x : Val) (Q : QV) (X : QX) (y : Val) : Prop := oQ (cmpD o x.d y.d) (kChn3 wc p y Q X)
def kChn1 (wb wc : W1) (o p : COp) (Q : QV) (X : QX) (x : Val) : Prop := wb (kChn2 wc o p x Q X) X
def kNot (Q : QV) (x : Val) : Prop := match x.d with
  | .bl b => Q (sc (.bl (!b)))
  | _ => False
def kAnd (wb : W1) (Q : QV) (X : QX) (x : Val) : Prop := match x.d with
  | .bl true => wb Q X
  | .bl false => Q (sc (.bl false))
  | _ => False
def kOr (wb : W1) (Q : QV) (X : QX) (x : Val) : Prop := match x.d with
  | .bl true => Q (sc (.bl true))
  | .bl false => wb Q X
  | _ => False
def kIte (wa wb : W1) (Q : QV) (X : QX) : Bool → Prop
  | true => wa Q X
  | false => wb Q X
def resQ (b : Bool) (Q : QV) (X : QX) : Rz → Prop
  | .ok d g => if isSc d = true then Q (sc d) else (match g with
    | .dp => Q (nw d .dp)
    | g => b = false ∧ Q (nw d g))
  | .exc c d => X c d
def kCall (k : Cl) (hot : Bool) (f : Nat) (Q : QV) (X : QX) (vs : List Val) : Prop := k hot f (vs.map (·.d)) (resQ (brw vs) Q X)
def kFn (Γ : Gam) (b : Fn) (Q : QV) (vs : List Val) : Prop := oQ (vFn Γ b vs) Q
def kMth2 (m : Mt) (o : Val) (Q : QV) (vs : List Val) : Prop := oQ (vMth m o vs) Q
def mStr : Mt → Bool
  | .append => false
  | .pop => false
  | _ => true
def kMth (wes : WL) (m : Mt) (Q : QV) (X : QX) (o : Val) : Prop := match o.d with
  | .str _ => mStr m = true ∧ wes (kMth2 m o Q) X
  | _ => False
def kAttr (Γ : Gam) (Q : QV) (x : Val) : Prop := oQ (vAttr Γ x) Q
def kLrg (x : Val) (Q : QV) (y : Val) : Prop := oQ (vLrg x y) Q
def kLrg1 (wb : W1) (Q : QV) (X : QX) (x : Val) : Prop := wb (kLrg x Q) X
def kIx2 (x : Val) (Q : QV) (i : Val) : Prop := oQ (vIx x i) Q
def kIx (wi : W1) (Q : QV) (X : QX) (x : Val) : Prop := wi (kIx2 x Q) X
def kCut3 (x : Val) (lo : Option Int) (Q : QV) (hi : Option Int) : Prop := oQ (vCut x lo hi) Q
def kCut2 (whi : WO) (x : Val) (Q : QV) (X : QX) (lo : Option Int) : Prop := whi (kCut3 x lo Q) X
def kCut1 (wlo whi : WO) (Q : QV) (X : QX) (x : Val) : Prop := wlo (kCut2 whi x Q X) X
def kMk (k : Kd) (Q : QV) (vs : List Val) : Prop := vs.length ≤ line ∧ oQ (mk k vs) Q
/-- a comprehension's turns -/
def wCo (wt : D → WB) (we : D → W1) : List D → List D → Bool → QV → Prop
  | [], acc, b, Q => Q (nw (.nd .lst acc) (bF b))
  | x :: xs, acc, b, Q => wt x (fun t => match t with
    | true => we x (fun v => match st1 v with
      | some (c, []) => acc.length < line ∧ wCo wt we xs (acc ++ [v.d]) (b && c) Q
      | _ => False) fun _ _ => False
    | false => wCo wt we xs acc b Q) fun _ _ => False
def kComp (wt : D → WB) (we : D → W1) (Q : QV) (xs : List D) : Prop := wCo wt we xs [] true Q
def kItms (Q : List D → Prop) (v : Val) : Prop := oQ (itms v) Q
def kRng (Q : List D → Prop) (v : Val) : Prop := match v.d with
  | .int j => rngOk j = true ∧ Q (rngD 0 j)
  | _ => False
def kRng22 (v : Val) (Q : List D → Prop) (u : Val) : Prop := match v.d, u.d with
  | .int i, .int j => (rngOk i && rngOk j) = true ∧ Q (rngD i j)
  | _, _ => False
def kRng2 (wb : W1) (Q : List D → Prop) (X : QX) (v : Val) : Prop := wb (kRng22 v Q) X
def kNotT (Q : Bool → Prop) (b : Bool) : Prop := Q (!b)
def kAndT (wb : WB) (Q : Bool → Prop) (X : QX) : Bool → Prop
  | true => wb Q X
  | false => Q false
def kOrT (wb : WB) (Q : Bool → Prop) (X : QX) : Bool → Prop
  | true => Q true
  | false => wb Q X
def kCmpT2 (o : COp) (x : Val) (Q : Bool → Prop) (y : Val) : Prop := oQ (cmpD o x.d y.d) Q
def kCmpT1 (wb : W1) (o : COp) (Q : Bool → Prop) (X : QX) (x : Val) : Prop := wb (kCmpT2 o x Q) X
def kIsNT (s : Bool) (Q : Bool → Prop) (x : Val) : Prop := oQ (isNon x.d) fun b => Q (s == b)
def kChnT3 (wc : W1) (p : COp) (y : Val) (Q : Bool → Prop) (X : QX) : Bool → Prop
  | true => wc (kCmpT2 p y Q) X
  | false => Q false
def kChnT2 (wc : W1) (o p : COp) (x : Val) (Q : Bool → Prop) (X : QX) (y : Val) : Prop := oQ (cmpD o x.d y.d) (kChnT3 wc p y Q X)
def kChnT1 (wb wc : W1) (o p : COp) (Q : Bool → Prop) (X : QX) (x : Val) : Prop := wb (kChnT2 wc o p x Q X) X
def kTru (Q : Bool → Prop) (x : Val) : Prop := oQ (truD x.d) Q
def varT (i : Nat) (Q : Bool → Prop) : Option Sl → Prop
  | some (some (d, g)) => oQ (truD d) Q
  | _ => False
def kEs2 (v : Val) (Q : List Val → Prop) (vs : List Val) : Prop := Q (v :: vs)
def kEs1 (wes : WL) (Q : List Val → Prop) (X : QX) (v : Val) : Prop := wes (kEs2 v Q) X
def kO (Q : Option Int → Prop) (v : Val) : Prop := match v.d with
  | .int i => Q (some i)
  | _ => False
def kTrue (Q : Bool → Prop) : Prop := Q true
mutual
@[simp] def wE (Γ : Gam) (k : Cl) (hot : Bool) : E → Sv → W1
  | .var i, σ, Q, _ => varQ i Q σ[i]?
  | .cst w, _, Q, _ => cstQ Q (some w)
  | .glob g, _, Q, _ => cstQ Q (Γ.glob g)
  | .ty n, _, Q, _ => Q (sc (.ty n))
  | .cls c, _, Q, _ => Q (sc (.cls c))
  | .bin o a b, σ, Q, X => wE Γ k hot a σ (kBin1 (wE Γ k hot b σ) o Q X) X
  | .neg a, σ, Q, X => wE Γ k hot a σ (kNeg Q) X
  | .cmp o a b, σ, Q, X => wE Γ k hot a σ (kCmp1 (wE Γ k hot b σ) o Q X) X
  | .isN s a, σ, Q, X => wE Γ k hot a σ (kIsN s Q) X
  | .chn o p a b c, σ, Q, X => wE Γ k hot a σ (kChn1 (wE Γ k hot b σ) (wE Γ k hot c σ) o p Q X) X
  | .not a, σ, Q, X => wE Γ k hot a σ (kNot Q) X
  | .and a b, σ, Q, X => wE Γ k hot a σ (kAnd (wE Γ k hot b σ) Q X) X
  | .or a b, σ, Q, X => wE Γ k hot a σ (kOr (wE Γ k hot b σ) Q X) X
  | .ite c a b, σ, Q, X => wT Γ k hot c σ (kIte (wE Γ k hot a σ) (wE Γ k hot b σ) Q X) X
  | .call f es, σ, Q, X => wEs Γ k hot es σ (kCall k hot f Q X) X
  | .fn b es, σ, Q, X => wEs Γ k hot es σ (kFn Γ b Q) X
  | .mth m o es, σ, Q, X => wE Γ k hot o σ (kMth (wEs Γ k hot es σ) m Q X) X
  | .attr _ o, σ, Q, X => wE Γ k hot o σ (kAttr Γ Q) X
  | .lrg a, σ, Q, X => wE Γ k hot a σ (kLrg (sc (.int 0)) Q) X
  | .lrg2 a b, σ, Q, X => wE Γ k hot a σ (kLrg1 (wE Γ k hot b σ) Q X) X
  | .ix a i, σ, Q, X => wE Γ k hot a σ (kIx (wE Γ k hot i σ) Q X) X
  | .cut a lo hi, σ, Q, X => wE Γ k hot a σ (kCut1 (wO Γ k hot lo σ) (wO Γ k hot hi σ) Q X) X
  | .tup es, σ, Q, X => wEs Γ k hot es σ (kMk .tup Q) X
  | .lst es, σ, Q, X => wEs Γ k hot es σ (kMk .lst Q) X
  | .comp x s c el, σ, Q, X => wS0 Γ k hot s σ (kComp (fun d => wC Γ k hot c (σ.set x (some (d, .fr)))) (fun d => wE Γ k hot el (σ.set x (some (d, .fr)))) Q) X
@[simp] def wT (Γ : Gam) (k : Cl) (hot : Bool) : E → Sv → WB
  | .not a, σ, Q, X => wT Γ k hot a σ (kNotT Q) X
  | .and a b, σ, Q, X => wT Γ k hot a σ (kAndT (wT Γ k hot b σ) Q X) X
  | .or a b, σ, Q, X => wT Γ k hot a σ (kOrT (wT Γ k hot b σ) Q X) X
  | .cmp o a b, σ, Q, X => wE Γ k hot a σ (kCmpT1 (wE Γ k hot b σ) o Q X) X
  | .isN s a, σ, Q, X => wE Γ k hot a σ (kIsNT s Q) X
  | .chn o p a b c, σ, Q, X => wE Γ k hot a σ (kChnT1 (wE Γ k hot b σ) (wE Γ k hot c σ) o p Q X) X
  | .var i, σ, Q, _ => varT i Q σ[i]?
  | .call f es, σ, Q, X => wEs Γ k hot es σ (kCall k hot f (kTru Q) X) X
  | .fn b es, σ, Q, X => wEs Γ k hot es σ (kFn Γ b (kTru Q)) X
  | .ix a i, σ, Q, X => wE Γ k hot a σ (kIx (wE Γ k hot i σ) (kTru Q) X) X
  | .attr _ o, σ, Q, X => wE Γ k hot o σ (kAttr Γ (kTru Q)) X
  | .mth m o es, σ, Q, X => wE Γ k hot o σ (kMth (wEs Γ k hot es σ) m (kTru Q) X) X
  | _, _, _, _ => False
@[simp] def wEs (Γ : Gam) (k : Cl) (hot : Bool) : Es → Sv → WL
  | .nil, _, Q, _ => Q []
  | .cons e es, σ, Q, X => wE Γ k hot e σ (kEs1 (wEs Γ k hot es σ) Q X) X
@[simp] def wO (Γ : Gam) (k : Cl) (hot : Bool) : Op → Sv → WO
  | .no, _, Q, _ => Q none
  | .yes e, σ, Q, X => wE Γ k hot e σ (kO Q) X
@[simp] def wC (Γ : Gam) (k : Cl) (hot : Bool) : Op → Sv → WB
  | .no, _, Q, _ => kTrue Q
  | .yes e, σ, Q, X => wT Γ k hot e σ Q X
/-- the items of a comprehension -/
@[simp] def wS0 (Γ : Gam) (k : Cl) (hot : Bool) : Mp.Src → Sv → (List D → Prop) → QX → Prop
  | .any e, σ, Q, X => wE Γ k hot e σ (kItms Q) X
  | .rng e, σ, Q, X => wE Γ k hot e σ (kRng Q) X
  | .rng2 a b, σ, Q, X => wE Γ k hot a σ (kRng2 (wE Γ k hot b σ) Q X) X
end
/-! ### statements -/
inductive Fv where
  | nx (σ : Sv) | ret (d : D) (g : Fg) | brk (σ : Sv) | ct (σ : Sv) | exc (c : Nat) (d : D) (σ : Sv)
abbrev QF := Fv → Prop
abbrev WS := Sv → QF → Prop
/-- the part at a path -/
def atP : D → List Nat → Option D
  | d, [] => some d
  | .nd _ xs, k :: q => match xs[k]? with
    | some x => atP x q
    | none => none
  | _, _ :: _ => none
/-- the part at a path is another one -/
def putP : D → List Nat → D → D
  | _, [], x => x
  | .nd k xs, j :: q, x => .nd k (xs.set j (putP (xs.getD j .hole) q x))
  | d, _ :: _, _ => d
def frz1 (σ : Sv) (i : Nat) : Sv := match σ[i]? with
  | some (some (d, _)) => σ.set i (some (d, .fr))
  | _ => σ
def frz (σ : Sv) : List Nat → Sv
  | [] => σ
  | i :: is => frz (frz1 σ i) is
def clr (σ : Sv) : List Nat → Sv
  | [] => σ
  | i :: is => clr (σ.set i none) is
/-- what is taken out of a slot's path -/
def tak (σ : Sv) (j : Nat) (q : List Nat) : Option Sv := match q with
  | [] => some (σ.set j none)
  | q => (match σ[j]? with
    | some (some (d, .dp)) => some (σ.set j (some (putP d q .hole, .dp)))
    | _ => none)
/-- a value is put into a slot -/
def wPut (i : Nat) (σ : Sv) (Q : QF) (v : Val) : Prop := if isSc v.d = true then Q (.nx (σ.set i (some (v.d, .fr)))) else match v.d with
  | .exc _ _ => False
  | .hole => False
  | d => (match v.g with
    | .fr => Q (.nx (σ.set i (some (d, .fr))))
    | g => (match v.s with
      | .t ts => Q (.nx ((clr σ ts).set i (some (d, g))))
      | .p j q => oQ (tak σ j q) fun σ' => Q (.nx (σ'.set i (some (d, g))))))
/-- slots from a list -/
def putAll : List Nat → List D → Fg → Sv → Option Sv
  | [], [], _, σ => some σ
  | i :: is, d :: ds, g, σ => putAll is ds g (σ.set i (some (d, if isSc d = true then .fr else g)))
  | _, _, _, _ => none
def kUnp (is : List Nat) (σ : Sv) (Q : QF) (v : Val) : Prop := match v.d with
  | .nd .tup xs => if xs.all isSc = true ∨ v.g ≠ .dp then oQ (putAll is xs .fr σ) fun σ' => Q (.nx σ') else (match v.s with
    | .t ts => oQ (putAll is xs .dp (clr σ ts)) fun σ' => Q (.nx σ')
    | .p j [] => oQ (putAll is xs .dp (σ.set j none)) fun σ' => Q (.nx σ')
    | _ => False)
  | _ => False
/-- an object at a path has another content: the new part is owned (b), ts was taken for it -/
def upd (σ : Sv) (j : Nat) (q : List Nat) (x : D) (b : Bool) (ts : List Nat) : Option Sv := match σ[j]? with
  | some (some (d, .dp)) => if j ∈ ts then none else if b = true then some ((clr σ ts).set j (some (putP d q x, .dp))) else (match q, ts with
    | [], [] => some (σ.set j (some (x, .rt)))
    | _, _ => none)
  | some (some (_, .rt)) => (match q, ts with
    | [], [] => some (σ.set j (some (x, .rt)))
    | _, _ => none)
  | _ => none
/-- o.append(v) -/
def kApp2 (σ : Sv) (o : Val) (Q : QF) (v : Val) : Prop := match o.d, o.s, st1 v with
  | .nd .lst xs, .p j q, some (b, ts) => o.g ≠ .fr ∧ xs.length < line ∧ oQ (upd σ j q (.nd .lst (xs ++ [v.d])) b ts) fun σ' => Q (.nx σ')
  | _, _, _ => False
def kX (σ : Sv) (Q : QF) : QX := fun c d => Q (.exc c d σ)
def kApp1 (we : W1) (σ : Sv) (Q : QF) (o : Val) : Prop := match o.d with
  | .nd .lst _ => we (kApp2 σ o Q) (kX σ Q)
  | _ => False
/-- o[i] = v -/
def kSto3 (σ : Sv) (v o : Val) (Q : QF) (i : Val) : Prop := match o.d, o.s, st1 v, i.d with
  | .nd .lst xs, .p j q, some (b, ts), .int n => o.g ≠ .fr ∧ oQ (L2.ixN xs.length n) fun m => oQ (upd σ j q (.nd .lst (xs.set m v.d)) b ts) fun σ' => Q (.nx σ')
  | _, _, _, _ => False
def kSto2 (wi : W1) (σ : Sv) (v : Val) (Q : QF) (o : Val) : Prop := wi (kSto3 σ v o Q) (kX σ Q)
def kSto1 (wo wi : W1) (σ : Sv) (Q : QF) (v : Val) : Prop := wo (kSto2 wi σ v Q) (kX σ Q)
/-- i = o.pop() -/
def kPop (i : Option Nat) (σ : Sv) (Q : QF) (o : Val) : Prop := match o.d, o.s with
  | .nd .lst xs, .p j q => o.g ≠ .fr ∧ (match xs[xs.length - 1]? with
    | none => False
    | some y => oQ (upd σ j q (.nd .lst xs.dropLast) true []) fun σ' => match i with
      | none => Q (.nx σ')
      | some i => isHole y = false ∧ Q (.nx (σ'.set i (some (y, if isSc y = true ∨ o.g ≠ .dp then .fr else .dp)))))
  | _, _ => False
@[simp] def popOf : E → Option E
  | .mth .pop o .nil => some o
  | _ => none
@[simp] def appOf : E → Option (E × E)
  | .mth .append o (.cons e .nil) => some (o, e)
  | _ => none
def kAug2 (i : Nat) (o : BOp) (x : Val) (σ : Sv) (Q : QF) (y : Val) : Prop := oQ (vAug o x y) fun v => Q (.nx (σ.set i (some (v.d, .fr))))
def augQ (we : W1) (i : Nat) (o : BOp) (σ : Sv) (Q : QF) : Option Sl → Prop
  | some (some (d, g)) => isSc d = true ∧ we (kAug2 i o (sc d) σ Q) (kX σ Q)
  | _ => False
def kExp (σ : Sv) (Q : QF) (_ : Val) : Prop := Q (.nx σ)
def kIf (wa wb : WS) (σ : Sv) (Q : QF) : Bool → Prop
  | true => wa σ Q
  | false => wb σ Q
def wWhl (wt : Sv → WB) (wb : WS) : Nat → Sv → QF → Prop
  | 0, _, _ => False
  | n + 1, σ, Q => wt σ (fun t => match t with
    | true => wb σ (fun f => match f with
      | .nx σ' => wWhl wt wb n σ' Q
      | .ct σ' => wWhl wt wb n σ' Q
      | .brk σ' => Q (.nx σ')
      | f => Q f)
    | false => Q (.nx σ)) (kX σ Q)
def wFor (i : Nat) (wb : WS) : List D → Sv → QF → Prop
  | [], σ, Q => Q (.nx σ)
  | x :: xs, σ, Q => wb (σ.set i (some (x, .fr))) (fun f => match f with
    | .nx σ' => wFor i wb xs σ' Q
    | .ct σ' => wFor i wb xs σ' Q
    | .brk σ' => Q (.nx σ')
    | f => Q f)
/-- a for's walked thing is frozen where it stands in a slot -/
def seqC : D → Option (List D)
  | .str z => if z.length ≤ line then some (z.cps.toList.map fun c => D.str ⟨#[c]⟩) else none
  | .nd .lst xs => some xs
  | .nd .tup xs => some xs
  | _ => none
def kForA (i : Nat) (wb : WS) (σ : Sv) (Q : QF) (v : Val) : Prop := match v.s with
  | .p j _ => oQ (seqD v.d) fun xs => wFor i wb xs (frz1 σ j) Q
  | .t [] => oQ (seqC v.d) fun xs => wFor i wb xs σ Q
  | .t _ => False
def kForR (i : Nat) (wb : WS) (σ : Sv) (Q : QF) (v : Val) : Prop := match v.d with
  | .int j => rngOk j = true ∧ wFor i wb (rngD 0 j) σ Q
  | _ => False
def kForR22 (i : Nat) (wb : WS) (σ : Sv) (v : Val) (Q : QF) (u : Val) : Prop := match v.d, u.d with
  | .int a, .int b => (rngOk a && rngOk b) = true ∧ wFor i wb (rngD a b) σ Q
  | _, _ => False
def kForR2 (w2 : W1) (i : Nat) (wb : WS) (σ : Sv) (Q : QF) (v : Val) : Prop := w2 (kForR22 i wb σ v Q) (kX σ Q)
def kRet (Q : QF) (v : Val) : Prop := if isSc v.d = true then Q (.ret v.d .fr) else match v.d with
  | .exc _ _ => False
  | .hole => False
  | d => Q (.ret d v.g)
def kRse (c : Nat) (σ : Sv) (Q : QF) (v : Val) : Prop := isSc v.d = true ∧ Q (.exc c v.d σ)
def noX (σ : Sv) : Bool := σ.all fun s => match s with
  | some (.exc _ _, _) => false
  | _ => true
def tryE (i : Nat) (Q : QF) : Fv → Prop
  | .nx σ => noX (σ.set i none) = true ∧ Q (.nx (σ.set i none))
  | .ret d g => Q (.ret d g)
  | _ => False
def tryF (Γ : Gam) (hot : Bool) (wh : WS) (c i : Nat) (Q : QF) : Fv → Prop
  | .exc c' d σ => (Γ.hc c' && Γ.exc c') = true ∧ (if Γ.sub c' c = true then hot = false ∧ isSc d = true ∧ wh (σ.set i (some (.exc c' d, .fr))) (tryE i Q) else Q (.exc c' d σ))
  | f => Q f
def sqF (wr : WS) (Q : QF) : Fv → Prop
  | .nx σ => wr σ Q
  | f => Q f
mutual
def wS (Γ : Gam) (wf : Nat) (k : Cl) (hot : Bool) : S → WS
  | .asg i e, σ, Q => (match popOf e with
    | some o => wE Γ k hot o σ (kPop (some i) σ Q) (kX σ Q)
    | none => wE Γ k hot e σ (wPut i σ Q) (kX σ Q))
  | .asc i e, σ, Q => wE Γ k hot e σ (wPut i σ Q) (kX σ Q)
  | .unp is e, σ, Q => wE Γ k hot e σ (kUnp is σ Q) (kX σ Q)
  | .sto o i e, σ, Q => wE Γ k hot e σ (kSto1 (wE Γ k hot o σ) (wE Γ k hot i σ) σ Q) (kX σ Q)
  | .aug i o e, σ, Q => augQ (wE Γ k hot e σ) i o σ Q σ[i]?
  | .exp e, σ, Q => (match appOf e with
    | some (o, x) => wE Γ k hot o σ (kApp1 (wE Γ k hot x σ) σ Q) (kX σ Q)
    | none => (match popOf e with
      | some o => wE Γ k hot o σ (kPop none σ Q) (kX σ Q)
      | none => wE Γ k hot e σ (kExp σ Q) (kX σ Q)))
  | .ite c a b, σ, Q => wT Γ k hot c σ (kIf (wSs Γ wf k hot a) (wSs Γ wf k hot b) σ Q) (kX σ Q)
  | .whl c b, σ, Q => wWhl (wT Γ k hot c) (wSs Γ wf k hot b) wf σ Q
  | .for i s b, σ, Q => (match s with
    | .any e => wE Γ k hot e σ (kForA i (wSs Γ wf k hot b) σ Q) (kX σ Q)
    | .rng e => wE Γ k hot e σ (kForR i (wSs Γ wf k hot b) σ Q) (kX σ Q)
    | .rng2 a c => wE Γ k hot a σ (kForR2 (wE Γ k hot c σ) i (wSs Γ wf k hot b) σ Q) (kX σ Q))
  | .ret e, σ, Q => wE Γ k hot e σ (kRet Q) (kX σ Q)
  | .ret0, _, Q => Q (.ret .non .fr)
  | .rse c e, σ, Q => wE Γ k hot e σ (kRse c σ Q) (kX σ Q)
  | .try b c i hb, σ, Q => wSs Γ wf k hot b σ (tryF Γ hot (wSs Γ wf k true hb) c i Q)
  | .brk, σ, Q => Q (.brk σ)
  | .cnt, σ, Q => Q (.ct σ)
  | .pas, σ, Q => Q (.nx σ)
  | .frz is, σ, Q => Q (.nx (frz σ is))
def wSs (Γ : Gam) (wf : Nat) (k : Cl) (hot : Bool) : Ss → WS
  | .nil, σ, Q => Q (.nx σ)
  | .cons s r, σ, Q => wS Γ wf k hot s σ (sqF (wSs Γ wf k hot r) Q)
end
def startV (n : Nat) (ds : List D) : Sv := (ds.map fun d => some (d, Fg.fr)) ++ List.replicate (n - ds.length) none
def endV (K : Rz → Prop) : Fv → Prop
  | .nx _ => K (.ok .non .fr)
  | .ret d g => K (.ok d g)
  | .exc c d _ => K (.exc c d)
  | _ => False
/-- a draw -/
def drawQ (ds : List D) (K : Rz → Prop) : Prop := match ds with
  | [.sto, .int c] => 1 ≤ c ∧ c ≤ 4000000000 ∧ ∀ v : Int, 0 ≤ v → v < c → K (.ok (.int v) .fr)
  | _ => False
/-- a call, n deep -/
def wCall (Γ : Gam) (wf : Nat) : Nat → Cl
  | 0, _, _, _, _ => False
  | n + 1, hot, f, ds, K => if f = 5 then 1 ≤ n ∧ drawQ ds K else if f = 2 ∨ f = 3 ∨ f = 4 then False else
    match Γ.fn f with
    | some d => ds.length = d.ar ∧ wSs Γ wf (wCall Γ wf n) hot d.body (startV d.n ds) (endV K)
    | none => False
end Vp
set_option Elab.async false
set_option linter.all false
set_option maxRecDepth 100000
set_option maxHeartbeats 400000
/-! Vp R: how plain data lie in the heap. -/
namespace Vp
open PySem Mp Cf
def obOf : Kd → List W → Ob
  | .lst, ws => .lst ws
  | .tup, ws => .tup ws
  | .dct ks, ws => .dct (ks.zip ws)
  | .ins c ns, ws => .ins c (ns.zip ws)
def kok : Kd → Nat → Prop
  | .dct ks, n => ks.length = n ∧ n ≤ line
  | .ins _ ns, n => ns.length = n ∧ n ≤ line
  | _, n => n ≤ line
theorem kok.le {k : Kd} {n : Nat} (h : kok k n) : n ≤ line := by
  cases k <;> first | exact h | exact h.2
def scW : D → W
  | .non => .non | .bl b => .bl b | .int i => .int i | .str x => .str x | .ty n => .ty n | .cls c => .cls c | .sto => .ref 3
  | _ => .non
def isX : Ob → Bool
  | .exc _ _ => true
  | _ => false
theorem isX_ob (k : Kd) (ws : List W) : isX (obOf k ws) = false := by cases k <;> rfl
abbrev FP := Nat → Prop
abbrev TT : FP := fun _ => True
mutual
def Rd (F : FP) (h : Hq) : D → W → Prop
  | .nd k xs, w => ∃ a ws, w = .ref a ∧ F a ∧ h[a]? = some (obOf k ws) ∧ kok k ws.length ∧ RdA F h xs ws
  | .hole, _ => True
  | .exc _ _, _ => False
  | .non, w => w = .non
  | .bl b, w => w = .bl b
  | .int i, w => w = .int i
  | .str x, w => w = .str x
  | .ty n, w => w = .ty n
  | .cls c, w => w = .cls c
  | .sto, w => w = .ref 3
def RdA (F : FP) (h : Hq) : List D → List W → Prop
  | [], ws => ws = []
  | x :: xs, ws => ∃ u us, ws = u :: us ∧ Rd F h x u ∧ RdA F h xs us
end
mutual
def Ro (h : Hq) : D → W → List Nat → Prop
  | .nd k xs, w, L => ∃ a ws L', w = .ref a ∧ L = a :: L' ∧ h[a]? = some (obOf k ws) ∧ kok k ws.length ∧ RoA h xs ws L'
  | .hole, _, L => L = []
  | .exc _ _, _, _ => False
  | .non, w, L => w = .non ∧ L = []
  | .bl b, w, L => w = .bl b ∧ L = []
  | .int i, w, L => w = .int i ∧ L = []
  | .str x, w, L => w = .str x ∧ L = []
  | .ty n, w, L => w = .ty n ∧ L = []
  | .cls c, w, L => w = .cls c ∧ L = []
  | .sto, w, L => w = .ref 3 ∧ L = []
def RoA (h : Hq) : List D → List W → List Nat → Prop
  | [], ws, L => ws = [] ∧ L = []
  | x :: xs, ws, L => ∃ u us L1 L2, ws = u :: us ∧ L = L1 ++ L2 ∧ Ro h x u L1 ∧ RoA h xs us L2
end
theorem Rd_sc {F : FP} {h : Hq} {d : D} {w : W} (s : isSc d = true) : Rd F h d w ↔ w = scW d := by
  cases d <;> first | cases s; done | (simp only [Rd, scW])
theorem Ro_sc {h : Hq} {d : D} {w : W} {L : List Nat} (s : isSc d = true) : Ro h d w L ↔ w = scW d ∧ L = [] := by
  cases d <;> first | cases s; done | (simp only [Ro, scW])
mutual
theorem Rd.mono {F F' : FP} {h h' : Hq} (hF : ∀ a, F a → F' a) (hk : ∀ a o, F a → h[a]? = some o → isX o = false → h'[a]? = some o) : ∀ (d : D) (w : W), Rd F h d w → Rd F' h' d w
  | .nd k xs, w, r => by
    unfold Rd at r ⊢
    obtain ⟨a, ws, e, f, g, q, r⟩ := r
    exact ⟨a, ws, e, hF a f, hk a _ f g (isX_ob k ws), q, RdA.mono hF hk xs ws r⟩
  | .hole, w, r => by unfold Rd; trivial
  | .exc _ _, w, r => by unfold Rd at r; exact r.elim
  | .non, w, r => by unfold Rd at r ⊢; exact r
  | .bl b, w, r => by unfold Rd at r ⊢; exact r
  | .int i, w, r => by unfold Rd at r ⊢; exact r
  | .str x, w, r => by unfold Rd at r ⊢; exact r
  | .ty n, w, r => by unfold Rd at r ⊢; exact r
  | .cls c, w, r => by unfold Rd at r ⊢; exact r
  | .sto, w, r => by unfold Rd at r ⊢; exact r
theorem RdA.mono {F F' : FP} {h h' : Hq} (hF : ∀ a, F a → F' a) (hk : ∀ a o, F a → h[a]? = some o → isX o = false → h'[a]? = some o) : ∀ (xs : List D) (ws : List W), RdA F h xs ws → RdA F' h' xs ws
  | [], ws, r => by unfold RdA at r ⊢; exact r
  | x :: xs, ws, r => by
    unfold RdA at r ⊢
    obtain ⟨u, us, e, r1, r2⟩ := r
    exact ⟨u, us, e, Rd.mono hF hk x u r1, RdA.mono hF hk xs us r2⟩
end
mutual
theorem Ro.mono {h h' : Hq} : ∀ (d : D) (w : W) (L : List Nat), (∀ a o, a ∈ L → h[a]? = some o → isX o = false → h'[a]? = some o) → Ro h d w L → Ro h' d w L
  | .nd k xs, w, L, hk, r => by
    unfold Ro at r ⊢
    obtain ⟨a, ws, L', e, f, g, q, r⟩ := r
    subst f
    exact ⟨a, ws, L', e, rfl, hk a _ List.mem_cons_self g (isX_ob k ws), q, RoA.mono xs ws L' (fun b o hb => hk b o (List.mem_cons_of_mem _ hb)) r⟩
  | .hole, w, L, hk, r => by unfold Ro at r ⊢; exact r
  | .exc _ _, w, L, hk, r => by unfold Ro at r; exact r.elim
  | .non, w, L, hk, r => by unfold Ro at r ⊢; exact r
  | .bl b, w, L, hk, r => by unfold Ro at r ⊢; exact r
  | .int i, w, L, hk, r => by unfold Ro at r ⊢; exact r
  | .str x, w, L, hk, r => by unfold Ro at r ⊢; exact r
  | .ty n, w, L, hk, r => by unfold Ro at r ⊢; exact r
  | .cls c, w, L, hk, r => by unfold Ro at r ⊢; exact r
  | .sto, w, L, hk, r => by unfold Ro at r ⊢; exact r
theorem RoA.mono {h h' : Hq} : ∀ (xs : List D) (ws : List W) (L : List Nat), (∀ a o, a ∈ L → h[a]? = some o → isX o = false → h'[a]? = some o) → RoA h xs ws L → RoA h' xs ws L
  | [], ws, L, hk, r => by unfold RoA at r ⊢; exact r
  | x :: xs, ws, L, hk, r => by
    unfold RoA at r ⊢
    obtain ⟨u, us, L1, L2, e, f, r1, r2⟩ := r
    subst f
    exact ⟨u, us, L1, L2, e, rfl, Ro.mono x u L1 (fun b o hb => hk b o (List.mem_append_left _ hb)) r1, RoA.mono xs us L2 (fun b o hb => hk b o (List.mem_append_right _ hb)) r2⟩
end
mutual
theorem Ro.rd {F : FP} {h : Hq} : ∀ (d : D) (w : W) (L : List Nat), (∀ a, a ∈ L → F a) → Ro h d w L → Rd F h d w
  | .nd k xs, w, L, hF, r => by
    unfold Ro at r; unfold Rd
    obtain ⟨a, ws, L', e, f, g, q, r⟩ := r
    subst f
    exact ⟨a, ws, e, hF a List.mem_cons_self, g, q, RoA.rd xs ws L' (fun b hb => hF b (List.mem_cons_of_mem _ hb)) r⟩
  | .hole, w, L, hF, r => by unfold Rd; trivial
  | .exc _ _, w, L, hF, r => by unfold Ro at r; exact r.elim
  | .non, w, L, hF, r => by unfold Ro at r; unfold Rd; exact r.1
  | .bl b, w, L, hF, r => by unfold Ro at r; unfold Rd; exact r.1
  | .int i, w, L, hF, r => by unfold Ro at r; unfold Rd; exact r.1
  | .str x, w, L, hF, r => by unfold Ro at r; unfold Rd; exact r.1
  | .ty n, w, L, hF, r => by unfold Ro at r; unfold Rd; exact r.1
  | .cls c, w, L, hF, r => by unfold Ro at r; unfold Rd; exact r.1
  | .sto, w, L, hF, r => by unfold Ro at r; unfold Rd; exact r.1
theorem RoA.rd {F : FP} {h : Hq} : ∀ (xs : List D) (ws : List W) (L : List Nat), (∀ a, a ∈ L → F a) → RoA h xs ws L → RdA F h xs ws
  | [], ws, L, hF, r => by unfold RoA at r; unfold RdA; exact r.1
  | x :: xs, ws, L, hF, r => by
    unfold RoA at r; unfold RdA
    obtain ⟨u, us, L1, L2, e, f, r1, r2⟩ := r
    subst f
    exact ⟨u, us, e, Ro.rd x u L1 (fun b hb => hF b (List.mem_append_left _ hb)) r1, RoA.rd xs us L2 (fun b hb => hF b (List.mem_append_right _ hb)) r2⟩
end
theorem RdA.len {F : FP} {h : Hq} : ∀ {xs : List D} {ws : List W}, RdA F h xs ws → ws.length = xs.length
  | [], ws, r => by unfold RdA at r; rw [r]; rfl
  | x :: xs, ws, r => by
    unfold RdA at r
    obtain ⟨u, us, e, _, r⟩ := r
    rw [e, List.length_cons, List.length_cons, RdA.len r]
theorem RdA.get {F : FP} {h : Hq} : ∀ {xs : List D} {ws : List W} {k : Nat} {x : D}, RdA F h xs ws → xs[k]? = some x → ∃ u, ws[k]? = some u ∧ Rd F h x u
  | [], ws, k, x, r, e => by simp at e
  | y :: xs, ws, k, x, r, e => by
    unfold RdA at r
    obtain ⟨u, us, e', r1, r⟩ := r
    subst e'
    cases k with
    | zero => simp at e; subst e; exact ⟨u, rfl, r1⟩
    | succ k => exact RdA.get (k := k) r (by simpa using e)
theorem RdA.cons {F : FP} {h : Hq} {x : D} {xs : List D} {w : W} {ws : List W} : RdA F h (x :: xs) (w :: ws) ↔ Rd F h x w ∧ RdA F h xs ws := by
  constructor
  · intro r
    unfold RdA at r
    obtain ⟨u, us, e, r1, r2⟩ := r
    injection e with e1 e2
    subst e1; subst e2
    exact ⟨r1, r2⟩
  · intro r
    unfold RdA
    exact ⟨w, ws, rfl, r.1, r.2⟩
theorem RoA.cons {h : Hq} {x : D} {xs : List D} {w : W} {ws : List W} {L : List Nat} : RoA h (x :: xs) (w :: ws) L ↔ ∃ L1 L2, L = L1 ++ L2 ∧ Ro h x w L1 ∧ RoA h xs ws L2 := by
  constructor
  · intro r
    unfold RoA at r
    obtain ⟨u, us, L1, L2, e, f, r1, r2⟩ := r
    injection e with e1 e2
    subst e1; subst e2
    exact ⟨L1, L2, f, r1, r2⟩
  · rintro ⟨L1, L2, f, r1, r2⟩
    unfold RoA
    exact ⟨w, ws, L1, L2, rfl, f, r1, r2⟩
theorem RdA.app {F : FP} {h : Hq} : ∀ {xs ys : List D} {ws us : List W}, RdA F h xs ws → RdA F h ys us → RdA F h (xs ++ ys) (ws ++ us)
  | [], ys, ws, us, r, s => by unfold RdA at r; rw [r]; exact s
  | x :: xs, ys, ws, us, r, s => by
    unfold RdA at r
    obtain ⟨u, vs, e, r1, r⟩ := r
    subst e
    exact RdA.cons.mpr ⟨r1, RdA.app r s⟩
theorem RoA.app {h : Hq} : ∀ {xs ys : List D} {ws us : List W} {L M : List Nat}, RoA h xs ws L → RoA h ys us M → RoA h (xs ++ ys) (ws ++ us) (L ++ M)
  | [], ys, ws, us, L, M, r, s => by unfold RoA at r; rw [r.1, r.2]; exact s
  | x :: xs, ys, ws, us, L, M, r, s => by
    unfold RoA at r
    obtain ⟨u, vs, L1, L2, e, f, r1, r⟩ := r
    subst e; subst f
    exact RoA.cons.mpr ⟨L1, L2 ++ M, List.append_assoc .., r1, RoA.app r s⟩
/-- scalars alone -/
theorem RdA.scal {F : FP} {h : Hq} : ∀ {xs : List D}, xs.all isSc = true → ∀ {ws : List W}, RdA F h xs ws → ws = xs.map scW
  | [], _, ws, r => by unfold RdA at r; exact r
  | x :: xs, e, ws, r => by
    unfold RdA at r
    obtain ⟨u, us, e', r1, r2⟩ := r
    rw [List.all_cons, Bool.and_eq_true] at e
    subst e'
    rw [(Rd_sc e.1).mp r1, RdA.scal e.2 r2]
    rfl
theorem RdA.of_scal {F : FP} {h : Hq} : ∀ {xs : List D}, xs.all isSc = true → RdA F h xs (xs.map scW)
  | [], _ => by unfold RdA; rfl
  | x :: xs, e => by
    rw [List.all_cons, Bool.and_eq_true] at e
    exact RdA.cons.mpr ⟨(Rd_sc e.1).mpr rfl, RdA.of_scal e.2⟩
theorem RoA.of_scal {h : Hq} : ∀ {xs : List D}, xs.all isSc = true → RoA h xs (xs.map scW) []
  | [], _ => by unfold RoA; exact ⟨rfl, rfl⟩
  | x :: xs, e => by
    rw [List.all_cons, Bool.and_eq_true] at e
    exact RoA.cons.mpr ⟨[], [], rfl, (Ro_sc e.1).mpr ⟨rfl, rfl⟩, RoA.of_scal e.2⟩
theorem RdA.drop {F : FP} {h : Hq} : ∀ {xs : List D} {ws : List W} (k : Nat), RdA F h xs ws → RdA F h (xs.drop k) (ws.drop k)
  | xs, ws, 0, r => r
  | [], ws, k + 1, r => by unfold RdA at r; rw [r]; simp; unfold RdA; rfl
  | x :: xs, ws, k + 1, r => by
    unfold RdA at r
    obtain ⟨u, us, e', r1, r2⟩ := r
    subst e'
    exact RdA.drop k r2
theorem RdA.take {F : FP} {h : Hq} : ∀ {xs : List D} {ws : List W} (k : Nat), RdA F h xs ws → RdA F h (xs.take k) (ws.take k)
  | xs, ws, 0, r => by simp; unfold RdA; rfl
  | [], ws, k + 1, r => by unfold RdA at r; rw [r]; simp; unfold RdA; rfl
  | x :: xs, ws, k + 1, r => by
    unfold RdA at r
    obtain ⟨u, us, e', r1, r2⟩ := r
    subst e'
    exact RdA.cons.mpr ⟨r1, RdA.take k r2⟩
theorem RoA.drop {h : Hq} : ∀ {xs : List D} {ws : List W} {L : List Nat} (k : Nat), RoA h xs ws L → ∃ L', RoA h (xs.drop k) (ws.drop k) L' ∧ List.Sublist L' L
  | xs, ws, L, 0, r => ⟨L, r, List.Sublist.refl L⟩
  | [], ws, L, k + 1, r => by unfold RoA at r; rw [r.1, r.2]; exact ⟨[], by simp; unfold RoA; exact ⟨rfl, rfl⟩, List.Sublist.refl _⟩
  | x :: xs, ws, L, k + 1, r => by
    unfold RoA at r
    obtain ⟨u, us, L1, L2, e', f, r1, r2⟩ := r
    subst e'; subst f
    obtain ⟨L', a, b⟩ := RoA.drop k r2
    exact ⟨L', a, b.trans (List.sublist_append_right _ _)⟩
theorem RoA.take {h : Hq} : ∀ {xs : List D} {ws : List W} {L : List Nat} (k : Nat), RoA h xs ws L → ∃ L', RoA h (xs.take k) (ws.take k) L' ∧ List.Sublist L' L
  | xs, ws, L, 0, r => ⟨[], by simp; unfold RoA; exact ⟨rfl, rfl⟩, List.nil_sublist _⟩
  | [], ws, L, k + 1, r => by unfold RoA at r; rw [r.1, r.2]; exact ⟨[], by simp; unfold RoA; exact ⟨rfl, rfl⟩, List.Sublist.refl _⟩
  | x :: xs, ws, L, k + 1, r => by
    unfold RoA at r
    obtain ⟨u, us, L1, L2, e', f, r1, r2⟩ := r
    subst e'; subst f
    obtain ⟨L', a, b⟩ := RoA.take k r2
    exact ⟨L1 ++ L', RoA.cons.mpr ⟨L1, L', rfl, r1, a⟩, List.Sublist.append (List.Sublist.refl _) b⟩
theorem RoA.get {h : Hq} : ∀ {xs : List D} {ws : List W} {L : List Nat} {k : Nat} {x : D}, RoA h xs ws L → xs[k]? = some x → ∃ u L', ws[k]? = some u ∧ Ro h x u L' ∧ List.Sublist L' L
  | [], ws, L, k, x, r, e => by simp at e
  | y :: xs, ws, L, k, x, r, e => by
    unfold RoA at r
    obtain ⟨u, us, L1, L2, e', f, r1, r⟩ := r
    subst e'; subst f
    cases k with
    | zero => simp at e; subst e; exact ⟨u, L1, rfl, r1, List.sublist_append_left _ _⟩
    | succ k =>
      obtain ⟨v, L', a, b, c⟩ := RoA.get (k := k) r (by simpa using e)
      exact ⟨v, L', a, b, c.trans (List.sublist_append_right _ _)⟩
/-- what a slot or a temporary owns -/
def Own (F : FP) (h : Hq) (g : Fg) (d : D) (w : W) (L : List Nat) : Prop := match d with
  | .exc c x => g = .fr ∧ L = [] ∧ isSc x = true ∧ ∃ a, a ≠ 3 ∧ w = .ref a ∧ h[a]? = some (.exc c (scW x))
  | d => match g with
    | .fr => L = [] ∧ Rd F h d w
    | .rt => ∃ a k xs ws, d = .nd k xs ∧ w = .ref a ∧ L = [a] ∧ h[a]? = some (obOf k ws) ∧ kok k ws.length ∧ RdA F h xs ws
    | .dp => Ro h d w L
theorem Own.fr {F : FP} {h : Hq} {d : D} {w : W} (r : Rd F h d w) : Own F h .fr d w [] := by
  cases d <;> first | (unfold Rd at r; exact r.elim; done) | exact ⟨rfl, r⟩
theorem Own.dp {F : FP} {h : Hq} {d : D} {w : W} {L : List Nat} (r : Ro h d w L) : Own F h .dp d w L := by
  cases d <;> first | (unfold Ro at r; exact r.elim; done) | exact r
theorem Own.rt {F : FP} {h : Hq} {k : Kd} {xs : List D} {ws : List W} {a : Nat} (r : h[a]? = some (obOf k ws)) (q : kok k ws.length) (s : RdA F h xs ws) : Own F h .rt (.nd k xs) (.ref a) [a] := ⟨a, k, xs, ws, rfl, rfl, rfl, r, q, s⟩
theorem Own.fr' {F : FP} {h : Hq} {d : D} {w : W} {L : List Nat} (e : isExc d = false) (r : Own F h .fr d w L) : L = [] ∧ Rd F h d w := by
  cases d <;> first | (cases e; done) | exact r
theorem Own.dp' {F : FP} {h : Hq} {d : D} {w : W} {L : List Nat} (r : Own F h .dp d w L) : Ro h d w L := by
  cases d <;> first | exact r | (obtain ⟨z, _⟩ := r; cases z)
theorem Own.rt' {F : FP} {h : Hq} {d : D} {w : W} {L : List Nat} (r : Own F h .rt d w L) : ∃ a k xs ws, d = .nd k xs ∧ w = .ref a ∧ L = [a] ∧ h[a]? = some (obOf k ws) ∧ kok k ws.length ∧ RdA F h xs ws := by
  cases d <;> first | exact r | (obtain ⟨z, _⟩ := r; cases z)
theorem Own.re {F : FP} {h : Hq} {g : Fg} {d : D} {w : W} {L : List Nat} (e : isExc d = false) (r : Own F h g d w L) : Rd (fun a => F a ∨ a ∈ L) h d w := by
  cases g with
  | fr => exact Rd.mono (fun _ => .inl) (fun _ _ _ h _ => h) _ _ (r.fr' e).2
  | dp => exact Ro.rd _ _ _ (fun a => .inr) r.dp'
  | rt =>
    obtain ⟨a, k, xs, ws, e1, e2, e3, r1, r2, r3⟩ := r.rt'
    subst e1; subst e2; subst e3
    unfold Rd
    exact ⟨a, ws, rfl, .inr List.mem_cons_self, r1, r2, RdA.mono (fun _ => .inl) (fun _ _ _ h _ => h) _ _ r3⟩
theorem Own.tt {F : FP} {h : Hq} {g : Fg} {d : D} {w : W} {L : List Nat} (e : isExc d = false) (r : Own F h g d w L) : Rd TT h d w := Rd.mono (fun _ _ => trivial) (fun _ _ _ h _ => h) _ _ (r.re e)
/-- .. at a later heap -/
theorem Own.keep {F F' : FP} {h h' : Hq} {g : Fg} {d : D} {w : W} {L : List Nat} (hF : ∀ a, F a → F' a) (hk : ∀ a o, F a ∨ a ∈ L → h[a]? = some o → isX o = false → h'[a]? = some o) (hx : isExc d = true → ∀ a o, a ≠ 3 → w = .ref a → h[a]? = some o → h'[a]? = some o) (r : Own F h g d w L) : Own F' h' g d w L := by
  by_cases ed : isExc d = true
  · cases d <;> first | (cases ed; done) | skip
    obtain ⟨a, b, c, x, x3, e, f⟩ := r
    exact ⟨a, b, c, x, x3, e, hx rfl x _ x3 e f⟩
  have ed := Bool.eq_false_iff.mpr ed
  cases g with
  | fr =>
    obtain ⟨e, r'⟩ := r.fr' ed
    subst e
    exact .fr (Rd.mono hF (fun a o h => hk a o (.inl h)) _ _ r')
  | dp => exact .dp (Ro.mono _ _ _ (fun a o h => hk a o (.inr h)) r.dp')
  | rt =>
    obtain ⟨a, k, xs, ws, e1, e2, e3, r1, r2, r3⟩ := r.rt'
    subst e1; subst e2; subst e3
    exact .rt (hk a _ (.inr List.mem_cons_self) r1 (isX_ob _ _)) r2 (RdA.mono hF (fun a o h => hk a o (.inl h)) _ _ r3)
/-- a path -/
def Pth (h : Hq) : D → W → List Nat → D → W → Prop
  | d, w, [], d', w' => d' = d ∧ w' = w
  | .nd k xs, w, j :: q, d', w' => ∃ a ws x u, a ≠ 3 ∧ w = .ref a ∧ h[a]? = some (obOf k ws) ∧ kok k ws.length ∧ xs[j]? = some x ∧ ws[j]? = some u ∧ Pth h x u q d' w'
  | _, _, _ :: _, _, _ => False
theorem obOf_inj {k : Kd} {ws us : List W} (h : obOf k ws = obOf k us) (h1 : kok k ws.length) (h2 : kok k us.length) : ws = us := by
  have z : ∀ {α : Type} (l : List α) (ws us : List W), l.length = ws.length → l.length = us.length → l.zip ws = l.zip us → ws = us := by
    intro α l
    induction l with
    | nil => intro ws us h1 h2 _; simp at h1 h2; rw [List.length_eq_zero_iff.mp h1.symm, List.length_eq_zero_iff.mp h2.symm]
    | cons x l ih =>
      intro ws us h1 h2 e
      cases ws with
      | nil => simp at h1
      | cons w ws => cases us with
        | nil => simp at h2
        | cons u us =>
          simp only [List.zip_cons_cons, List.cons.injEq, Prod.mk.injEq] at e
          rw [e.1.2, ih ws us (by simpa using h1) (by simpa using h2) e.2]
  cases k with
  | lst => injection h
  | tup => injection h
  | dct ks => injection h with h; exact z ks ws us h1.1 h2.1 h
  | ins c ns => injection h with _ h; exact z ns ws us h1.1 h2.1 h
theorem Pth.rd {F : FP} {h : Hq} : ∀ {q : List Nat} {d : D} {w : W} {d' : D} {w' : W}, Rd F h d w → Pth h d w q d' w' → Rd F h d' w'
  | [], d, w, d', w', r, p => by unfold Pth at p; rw [p.1, p.2]; exact r
  | j :: q, d, w, d', w', r, p => by
    cases d with
    | nd k xs =>
      unfold Pth at p
      obtain ⟨a, ws, x, u, _, e, ha, hk', hx, hu, p⟩ := p
      subst e
      unfold Rd at r
      obtain ⟨b, us, e, hF, hb, hk, r⟩ := r
      injection e with e
      subst e
      have ewu : us = ws := obOf_inj (Option.some.inj (hb.symm.trans ha)) hk hk'
      subst ewu
      obtain ⟨v, hv, rv⟩ := r.get hx
      rw [hv] at hu
      cases hu
      exact Pth.rd rv p
    | _ => unfold Pth at p; exact p.elim
theorem Pth.mono {h h' : Hq} (hk : ∀ a o, a ≠ 3 → h[a]? = some o → isX o = false → h'[a]? = some o) : ∀ {q : List Nat} {d : D} {w : W} {d' : D} {w' : W}, Pth h d w q d' w' → Pth h' d w q d' w'
  | [], d, w, d', w', p => by unfold Pth at p ⊢; exact p
  | j :: q, d, w, d', w', p => by
    cases d with
    | nd k xs =>
      unfold Pth at p ⊢
      obtain ⟨a, ws, x, u, a3, e, ha, hk', hx, hu, p⟩ := p
      exact ⟨a, ws, x, u, a3, e, hk a _ a3 ha (isX_ob _ _), hk', hx, hu, Pth.mono hk p⟩
    | _ => unfold Pth at p; exact p.elim
/-- one step further -/
theorem Pth.snoc {h : Hq} : ∀ {q : List Nat} {d : D} {w : W} {k : Kd} {xs : List D} {a : Nat} {ws : List W} {j : Nat} {x : D} {u : W}, Pth h d w q (.nd k xs) (.ref a) → a ≠ 3 → h[a]? = some (obOf k ws) → kok k ws.length → xs[j]? = some x → ws[j]? = some u → Pth h d w (q ++ [j]) x u
  | [], d, w, k, xs, a, ws, j, x, u, p, a3, ha, hk, hx, hu => by
    unfold Pth at p
    obtain ⟨e1, e2⟩ := p
    subst e1; subst e2
    show Pth h (.nd k xs) (.ref a) [j] x u
    unfold Pth
    exact ⟨a, ws, x, u, a3, rfl, ha, hk, hx, hu, by unfold Pth; exact ⟨rfl, rfl⟩⟩
  | i :: q, d, w, k, xs, a, ws, j, x, u, p, a3, ha, hk, hx, hu => by
    cases d with
    | nd k' xs' =>
      unfold Pth at p
      obtain ⟨b, vs, y, v, b3, e, hb, hk', hy, hv, p⟩ := p
      show Pth h (.nd k' xs') w (i :: (q ++ [j])) x u
      unfold Pth
      exact ⟨b, vs, y, v, b3, e, hb, hk', hy, hv, Pth.snoc p a3 ha hk hx hu⟩
    | _ => unfold Pth at p; exact p.elim
/-- a part of an owned thing is owned -/
theorem Pth.ro {h : Hq} : ∀ {q : List Nat} {d : D} {w : W} {d' : D} {w' : W} {L : List Nat}, Ro h d w L → Pth h d w q d' w' → ∃ L', Ro h d' w' L' ∧ List.Sublist L' L
  | [], d, w, d', w', L, r, p => by unfold Pth at p; rw [p.1, p.2]; exact ⟨L, r, List.Sublist.refl _⟩
  | j :: q, d, w, d', w', L, r, p => by
    cases d with
    | nd k xs =>
      unfold Pth at p
      obtain ⟨a, ws, x, u, _, e, ha, hk', hx, hu, p⟩ := p
      subst e
      unfold Ro at r
      obtain ⟨b, us, L', e, f, hb, hk, r⟩ := r
      injection e with e
      subst e; subst f
      have ewu : us = ws := obOf_inj (Option.some.inj (hb.symm.trans ha)) hk hk'
      subst ewu
      obtain ⟨v, L2, hv, rv, sv⟩ := r.get hx
      rw [hv] at hu
      cases hu
      obtain ⟨L3, r3, s3⟩ := Pth.ro rv p
      exact ⟨L3, r3, s3.trans (sv.trans (List.sublist_cons_self _ _))⟩
    | _ => unfold Pth at p; exact p.elim
end Vp
set_option Elab.async false
set_option linter.all false
set_option maxRecDepth 100000
set_option maxHeartbeats 400000
/-! Vp S: frames, values of a run, steps. -/
namespace Vp
open PySem Mp Cf
def FB (F : FP) (h : Hq) : Prop := ∀ a, F a → a < h.length ∧ a ≠ 3
/-- the store stands, p draws were made at most -/
def Sto (ns : List Int) (h : Hq) (p : Nat) : Prop := ∃ s e, h = B ns s ++ e ∧ Inv ns s p
theorem Sto.len {ns : List Int} {h : Hq} {p : Nat} : Sto ns h p → 4 ≤ h.length := fun ⟨s, e, q, _⟩ => by
  rw [q, List.length_append]
  exact Nat.le_add_right _ _
theorem Sto.app {ns : List Int} {h : Hq} {p : Nat} (o : Ob) : Sto ns h p → Sto ns (h ++ [o]) p := fun ⟨s, e, q, i⟩ => ⟨s, e ++ [o], by rw [q, List.append_assoc], i⟩
theorem Sto.up {ns : List Int} {h : Hq} {p p' : Nat} (l : p ≤ p') : Sto ns h p → Sto ns h p' := fun ⟨s, e, q, i⟩ => ⟨s, e, q, i.up l⟩
theorem Sto.set {ns : List Int} {h : Hq} {p a : Nat} {o : Ob} (ha : 4 ≤ a) : Sto ns h p → Sto ns (h.set a o) p := fun ⟨s, e, q, i⟩ => ⟨s, e.set (a - 4) o, by rw [q, List.set_append_right _ _ (by exact ha)]; rfl, i⟩
structure Step (hot : Bool) (n0 : Nat) (F F' : FP) (h h' : Hq) : Prop where
  le : h.length ≤ h'.length
  keep : ∀ a o, a ≠ 3 → h[a]? = some o → (hot = true ∨ isX o = false) → h'[a]? = some o
  sub : ∀ a, F a → F' a
  new : ∀ a, F' a → F a ∨ (n0 ≤ a ∧ a < h'.length)
section
variable {hot : Bool} {n0 n1 nS : Nat} {F F' F1 F2 : FP} {h h' h1 h2 : Hq}
theorem Step.refl : Step hot n0 F F h h := ⟨Nat.le_refl _, fun _ _ _ e _ => e, fun _ z => z, fun _ z => .inl z⟩
theorem Step.trans (a : Step hot n0 F F1 h h1) (b : Step hot n0 F1 F2 h1 h2) : Step hot n0 F F2 h h2 :=
  ⟨Nat.le_trans a.le b.le, fun x o z e q => b.keep x o z (a.keep x o z e q) q, fun x z => b.sub x (a.sub x z), fun x z => (b.new x z).elim (fun z => (a.new x z).imp id fun ⟨q, r⟩ => ⟨q, Nat.lt_of_lt_of_le r b.le⟩) .inr⟩
theorem Step.low (a : Step hot n1 F F1 h h1) (l : n0 ≤ n1) : Step hot n0 F F1 h h1 := ⟨a.le, a.keep, a.sub, fun x z => (a.new x z).imp id fun ⟨q, r⟩ => ⟨Nat.le_trans l q, r⟩⟩
theorem Step.push (o : Ob) : Step hot n0 F F h (h ++ [o]) := ⟨by rw [List.length_append]; exact Nat.le_add_right _ _, fun a u _ e _ => by
  rw [List.getElem?_append_left (List.getElem?_eq_some_iff.mp e).1]; exact e, fun _ z => z, fun _ z => .inl z⟩
/-- more is frozen -/
theorem Step.freeze {L : List Nat} (b : ∀ a ∈ L, n0 ≤ a ∧ a < h.length) : Step hot n0 F (fun a => F a ∨ a ∈ L) h h := ⟨Nat.le_refl _, fun _ _ _ e _ => e, fun _ => .inl, fun a z => z.imp id (b a)⟩
theorem FB.freeze {L : List Nat} (f : FB F h) (b : ∀ a ∈ L, a < h.length ∧ a ≠ 3) : FB (fun a => F a ∨ a ∈ L) h := fun a z => z.elim (f a) (b a)
theorem FB.push (f : FB F h) (o : Ob) : FB F (h ++ [o]) := fun a z => ⟨by rw [List.length_append]; exact Nat.lt_of_lt_of_le (f a z).1 (Nat.le_add_right _ _), (f a z).2⟩
/-- a frame: slots by data, each owning its list of places -/
structure Fm (hot : Bool) (nc nS : Nat) (X : FP) (F : FP) (h : Hq) (ρ : Mp.Env) (σ : Sv) (Ls : Nat → List Nat) : Prop where
  len : σ.length = ρ.length
  sl : ∀ i d g, σ[i]? = some (some (d, g)) → ∃ w, ρ[i]? = some (some w) ∧ Own F h g d w (Ls i)
  nd : ∀ i, (Ls i).Nodup
  dj : ∀ i j a, a ∈ Ls i → a ∈ Ls j → i = j
  ok : ∀ i a, a ∈ Ls i → ¬ F a ∧ a < nS ∧ 4 ≤ a ∧ (nc ≤ a ∨ X a)
  le : nS ≤ h.length
  fb : FB F h
  xs : hot = false → noX σ = true
/-- a value of a run; its new places lie in lo .. hi -/
def VR (hot : Bool) (lo hi : Nat) (F : FP) (h : Hq) (ρ : Mp.Env) (σ : Sv) (Ls : Nat → List Nat) (v : Val) (w : W) : Prop :=
  (isExc v.d = true → hot = true) ∧ match v.s with
  | .t ts => ∃ L, Own F h v.g v.d w L ∧ L.Nodup ∧ ∀ a ∈ L, ¬ F a ∧ ((lo ≤ a ∧ a < hi) ∨ ∃ i ∈ ts, a ∈ Ls i)
  | .p i q => ∃ d0 g0 w0, σ[i]? = some (some (d0, g0)) ∧ ρ[i]? = some (some w0) ∧ Own F h g0 d0 w0 (Ls i) ∧ Pth h d0 w0 q v.d w ∧ v.g = g0 ∧ g0 ≠ .fr ∧ (q = [] ∨ g0 = .dp) ∧ isSc v.d = false ∧ isExc d0 = false
variable {nc : Nat} {X : FP} {ρ : Mp.Env} {σ : Sv} {Ls : Nat → List Nat} {lo hi : Nat} {v : Val} {w : W} {d : D}
theorem Fm.step (f : Fm hot nc nS X F h ρ σ Ls) (s : Step hot n0 F F' h h') (l : nS ≤ n0) (fb : FB F' h') : Fm hot nc nS X F' h' ρ σ Ls where
  len := f.len
  sl := fun i d g e => by
    obtain ⟨w, a, b⟩ := f.sl i d g e
    refine ⟨w, a, b.keep s.sub (fun x o hx ho hn => s.keep x o ?_ ho (.inr hn)) fun ed x o x3 _ ho => ?_⟩
    · rcases hx with z | z
      · exact (f.fb x z).2
      · have := (f.ok i x z).2.2.1; omega
    · cases hh : hot with
      | true => exact s.keep x o x3 ho (.inl hh)
      | false =>
        have := f.xs hh
        unfold noX at this
        have := List.all_eq_true.mp this _ (List.mem_of_getElem? e)
        cases d <;> first | (cases ed; done) | (cases this; done)
  nd := f.nd
  dj := f.dj
  ok := fun i a ha => ⟨fun z => (s.new a z).elim (f.ok i a ha).1 fun ⟨q, _⟩ => by have := (f.ok i a ha).2.1; omega, (f.ok i a ha).2⟩
  le := Nat.le_trans f.le s.le
  fb := fb
  xs := f.xs

theorem Fm.lt (f : Fm hot nc nS X F h ρ σ Ls) {i a : Nat} (z : a ∈ Ls i) : a < nS := (f.ok i a z).2.1
theorem VR.ex (r : VR hot lo hi F h ρ σ Ls v w) : isExc v.d = true → hot = true := r.1
theorem Own.ne3 {g : Fg} {L : List Nat} (f : FB F h) (l : ∀ a ∈ L, a ≠ 3) : ∀ a, F a ∨ a ∈ L → a ≠ 3 := fun a z => z.elim (fun z => (f a z).2) (l a)
theorem VR.step (r : VR hot lo hi F h ρ σ Ls v w) (f : Fm hot nc nS X F h ρ σ Ls) (s : Step hot n0 F F' h h') (l : nS ≤ n0) (b : hi ≤ n0) (c : 4 ≤ lo) : VR hot lo hi F' h' ρ σ Ls v w := by
  refine ⟨r.1, ?_⟩
  obtain ⟨r1, r⟩ := r
  have kx : isExc v.d = true → ∀ a o, a ≠ 3 → w = .ref a → h[a]? = some o → h'[a]? = some o := fun ed a o a3 _ ho => s.keep a o a3 ho (.inl (r1 ed))
  cases hs : v.s with
  | t ts =>
    rw [hs] at r
    obtain ⟨L, o, nd, k⟩ := r
    refine ⟨L, o.keep s.sub (fun a u z e x => s.keep a u ?_ e (.inr x)) kx, nd, fun a ha => ⟨fun z => (s.new a z).elim (k a ha).1 fun ⟨q, _⟩ => ?_, (k a ha).2⟩⟩
    · refine Own.ne3 (g := .fr) f.fb (fun a ha => ?_) a z
      rcases (k a ha).2 with q | ⟨i, _, q⟩
      · omega
      · have := (f.ok i a q).2.2.1; omega
    · rcases (k a ha).2 with q | ⟨i, _, q⟩
      · omega
      · have := f.lt q; omega
  | p i q =>
    rw [hs] at r
    obtain ⟨d0, g0, w0, a1, a2, a3, a4, a5, a6, a7, a8, a9⟩ := r
    exact ⟨d0, g0, w0, a1, a2, a3.keep s.sub (fun a u z e x => s.keep a u (Own.ne3 (g := .fr) f.fb (fun a ha => by have := (f.ok i a ha).2.2.1; omega) a z) e (.inr x)) (fun z => by rw [a9] at z; cases z), a4.mono (fun a o z e x => s.keep a o z e (.inr x)), a5, a6, a7, a8, a9⟩
theorem VR.up {lo' hi' : Nat} (r : VR hot lo hi F h ρ σ Ls v w) (l : lo' ≤ lo) (k : hi ≤ hi') : VR hot lo' hi' F h ρ σ Ls v w := by
  refine ⟨r.1, ?_⟩
  obtain ⟨_, r⟩ := r
  cases hs : v.s with
  | t ts =>
    rw [hs] at r
    obtain ⟨L, o, nd, q⟩ := r
    exact ⟨L, o, nd, fun a ha => ⟨(q a ha).1, (q a ha).2.imp (fun ⟨x, y⟩ => ⟨Nat.le_trans l x, Nat.lt_of_lt_of_le y k⟩) id⟩⟩
  | p i q => rw [hs] at r; exact r
theorem VR.rd (r : VR hot lo hi F h ρ σ Ls v w) (e : isExc v.d = false) : Rd TT h v.d w := by
  obtain ⟨_, r⟩ := r
  cases hs : v.s with
  | t ts =>
    rw [hs] at r
    obtain ⟨L, o, _⟩ := r
    exact o.tt e
  | p i q =>
    rw [hs] at r
    obtain ⟨d0, g0, w0, a1, a2, a3, a4, a5, a6, a7, a8, a9⟩ := r
    exact Pth.rd (a3.tt a9) a4
theorem VR.scal (r : VR hot lo hi F h ρ σ Ls v w) (e : isSc v.d = true) : w = scW v.d := (Rd_sc e).mp (r.rd (by cases hd : v.d <;> first | rfl | (rw [hd] at e; cases e)))
theorem isExc_sc (e : isSc d = true) : isExc d = false := by cases d <;> first | rfl | cases e
theorem VR_fr (r : Rd F h d w) : VR hot lo hi F h ρ σ Ls (sc d) w := by
  refine ⟨fun e => ?_, [], .fr r, List.nodup_nil, fun a ha => by cases ha⟩
  cases d <;> first | (cases e; done) | (unfold Rd at r; exact r.elim)
theorem VR_sc (e : isSc d = true) : VR hot lo hi F h ρ σ Ls (sc d) (scW d) := VR_fr ((Rd_sc e).mpr rfl)
theorem VR_nw {g : Fg} {L : List Nat} (o : Own F h g d w L) (x : isExc d = false) (n : L.Nodup) (k : ∀ a ∈ L, ¬ F a ∧ lo ≤ a ∧ a < hi) : VR hot lo hi F h ρ σ Ls (nw d g) w :=
  ⟨fun e => (by rw [show (nw d g).d = d from rfl, x] at e; cases e), L, o, n, fun a ha => ⟨(k a ha).1, .inl (k a ha).2⟩⟩
theorem VR_var (f : Fm hot nc nS X F h ρ σ Ls) {i : Nat} {g : Fg} (e : σ[i]? = some (some (d, g))) : ∃ w, ρ[i]? = some (some w) ∧ VR hot lo hi F h ρ σ Ls (rdv i d g) w := by
  obtain ⟨w, e1, o⟩ := f.sl i d g e
  refine ⟨w, e1, ?_⟩
  have hx : isExc d = true → hot = true := fun ed => by
    cases hh : hot with
    | true => rfl
    | false =>
      have := f.xs hh
      unfold noX at this
      have := List.all_eq_true.mp this _ (List.mem_of_getElem? e)
      cases d <;> first | (cases ed; done) | (cases this; done)
  unfold rdv
  split
  · rename_i hs
    rw [(Rd_sc hs).mp (o.tt (isExc_sc hs))]
    exact VR_sc hs
  · rename_i hs
    split
    · refine ⟨hx, [], ?_, List.nodup_nil, fun a ha => by cases ha⟩
      by_cases ed : isExc d = true
      · cases d <;> first | (cases ed; done) | skip
        obtain ⟨a, b, c⟩ := o
        exact ⟨rfl, rfl, c⟩
      · exact .fr (o.fr' (Bool.eq_false_iff.mpr ed)).2
    · rename_i hg
      have ed : isExc d = false := by
        cases d <;> first | rfl | (obtain ⟨z, _⟩ := o; exact (hg z).elim)
      exact ⟨hx, d, g, w, e, e1, o, by unfold Pth; exact ⟨rfl, rfl⟩, rfl, hg, .inl rfl, Bool.eq_false_iff.mpr hs, ed⟩
/-- an object as a value: its content; its parts -/
theorem VR.obj (r : VR hot lo hi F h ρ σ Ls v w) {k : Kd} {xs : List D} (e : v.d = .nd k xs) : ∃ a ws, w = .ref a ∧ h[a]? = some (obOf k ws) ∧ kok k ws.length ∧ RdA TT h xs ws := by
  have z := r.rd (by rw [e]; rfl)
  rw [e] at z
  unfold Rd at z
  obtain ⟨a, ws, e, _, b, c, d⟩ := z
  exact ⟨a, ws, e, b, c, d⟩
theorem VR.kid (r : VR hot lo hi F h ρ σ Ls v w) (f : Fm hot nc nS X F h ρ σ Ls) (c4 : 4 ≤ lo) {k : Kd} {xs : List D} (e : v.d = .nd k xs) {a : Nat} {ws : List W} (ew : w = .ref a) (ha : h[a]? = some (obOf k ws)) (hk : kok k ws.length) {j : Nat} {x : D} (hj : xs[j]? = some x) :
    ∃ u, ws[j]? = some u ∧ VR hot lo hi F h ρ σ Ls (sub v j x) u := by
  obtain ⟨a', ws', ew', ha', hk', rk⟩ := r.obj e
  rw [ew] at ew'
  injection ew' with ew'
  subst ew'
  have : ws = ws' := obOf_inj (Option.some.inj (ha.symm.trans ha')) hk hk'
  subst this
  obtain ⟨u, hu, ru⟩ := rk.get hj
  refine ⟨u, hu, ?_⟩
  unfold sub
  split
  · rename_i hs
    rw [(Rd_sc hs).mp ru]
    exact VR_sc hs
  · rename_i hs
    obtain ⟨r1, r⟩ := r
    have kids : ∀ (d0 : D) (w0 : W) (L : List Nat) , Own F h v.g d0 w0 L → d0 = .nd k xs → w0 = .ref a → v.g ≠ .dp → Rd F h x u := by
      intro d0 w0 L o e0 e1 hg
      subst e0; subst e1
      cases hgg : v.g with
      | dp => exact (hg hgg).elim
      | fr =>
        rw [hgg] at o
        have z := (o.fr' rfl).2
        unfold Rd at z
        obtain ⟨b, us, eb, _, hb, hkb, z⟩ := z
        injection eb with eb
        subst eb
        have : ws = us := obOf_inj (Option.some.inj (ha.symm.trans hb)) hk hkb
        subst this
        obtain ⟨u', hu', z⟩ := z.get hj
        rw [hu] at hu'
        cases hu'
        exact z
      | rt =>
        rw [hgg] at o
        obtain ⟨b, k', xs', us, e1, e2, e3, hb, hkb, z⟩ := o.rt'
        injection e1 with e1 e1'
        injection e2 with e2
        subst e1; subst e1'; subst e2
        have : ws = us := obOf_inj (Option.some.inj (ha.symm.trans hb)) hk hkb
        subst this
        obtain ⟨u', hu', z⟩ := z.get hj
        rw [hu] at hu'
        cases hu'
        exact z
    cases hg : v.g with
    | dp =>
      dsimp only
      cases hs' : v.s with
      | t ts =>
        rw [hs', hg] at r
        obtain ⟨L, o, nd, kk⟩ := r
        rw [e, ew] at o
        have o := o.dp'
        unfold Ro at o
        obtain ⟨b, us, L', eb, eL, hb, hkb, z⟩ := o
        injection eb with eb
        subst eb
        have : ws = us := obOf_inj (Option.some.inj (ha.symm.trans hb)) hk hkb
        subst this
        obtain ⟨u', L2, hu', z, sl⟩ := z.get hj
        rw [hu] at hu'
        cases hu'
        have sl : List.Sublist L2 L := by rw [eL]; exact sl.trans (List.sublist_cons_self _ _)
        exact ⟨fun ed => by cases x <;> first | (cases ed; done) | (unfold Ro at z; exact z.elim), L2, .dp z, nd.sublist sl, fun b hb => kk b (sl.subset hb)⟩
      | p i q =>
        rw [hs', hg] at r
        obtain ⟨d0, g0, w0, a1, a2, a3, a4, a5, a6, a7, a8, a9⟩ := r
        rw [e, ew] at a4
        have a3ne : a ≠ 3 := by
          rw [← a5] at a3
          obtain ⟨L', z, sl⟩ := Pth.ro a3.dp' a4
          unfold Ro at z
          obtain ⟨b, us, L2, eb, eL, _⟩ := z
          injection eb with eb
          subst eb; subst eL
          have := (f.ok i a (sl.subset List.mem_cons_self)).2.2.1
          omega
        refine ⟨fun ed => ?_, d0, g0, w0, a1, a2, a3, a4.snoc a3ne ha hk hj hu, a5, a6, .inr a5.symm, Bool.eq_false_iff.mpr hs, a9⟩
        have z := Pth.rd (a3.tt a9) (a4.snoc a3ne ha hk hj hu)
        cases x <;> first | (cases ed; done) | (unfold Rd at z; exact z.elim)
    | fr =>
      dsimp only
      cases hs' : v.s with
      | t ts =>
        rw [hs'] at r
        obtain ⟨L, o, nd, kk⟩ := r
        exact VR_fr (kids _ _ _ o e ew (by rw [hg]; intro z; cases z))
      | p i q =>
        rw [hs', hg] at r
        obtain ⟨d0, g0, w0, a1, a2, a3, a4, a5, a6, a7, a8, a9⟩ := r
        exact (a6 a5.symm).elim
    | rt =>
      dsimp only
      cases hs' : v.s with
      | t ts =>
        rw [hs'] at r
        obtain ⟨L, o, nd, kk⟩ := r
        exact VR_fr (kids _ _ _ o e ew (by rw [hg]; intro z; cases z))
      | p i q =>
        rw [hs'] at r
        obtain ⟨d0, g0, w0, a1, a2, a3, a4, a5, a6, a7, a8, a9⟩ := r
        rcases a7 with z | z
        · subst z
          unfold Pth at a4
          rw [← a5] at a3
          exact VR_fr (kids _ _ _ a3 (a4.1.symm.trans e) (a4.2.symm.trans ew) (by rw [hg]; intro z; cases z))
        · rw [z, hg] at a5
          cases a5
end
end Vp
set_option Elab.async false
set_option linter.all false
set_option maxRecDepth 100000
set_option maxHeartbeats 400000
/-! Vp S2: values as parts of new objects. -/
namespace Vp
open PySem Mp Cf
section
variable {hot : Bool} {n0 n1 nS : Nat} {F F' F1 F2 : FP} {h h' h1 h2 : Hq} {nc : Nat} {X : FP} {ρ : Mp.Env} {σ : Sv} {Ls : Nat → List Nat} {lo hi : Nat} {v : Val} {w : W} {d : D}
/-- values in a row, their new places one behind the other -/
def VRL (hot : Bool) (F : FP) (h : Hq) (ρ : Mp.Env) (σ : Sv) (Ls : Nat → List Nat) : Nat → Nat → List Val → List W → Prop
  | _, _, [], ws => ws = []
  | lo, hi, v :: vs, ws => ∃ u us m, ws = u :: us ∧ lo ≤ m ∧ m ≤ hi ∧ VR hot lo m F h ρ σ Ls v u ∧ VRL hot F h ρ σ Ls m hi vs us
theorem VRL.len : ∀ {vs : List Val} {lo : Nat} {ws : List W}, VRL hot F h ρ σ Ls lo hi vs ws → ws.length = vs.length
  | [], lo, ws, r => by unfold VRL at r; rw [r]; rfl
  | v :: vs, lo, ws, r => by
    unfold VRL at r
    obtain ⟨u, us, m, e, _, _, _, r⟩ := r
    rw [e, List.length_cons, List.length_cons, VRL.len r]
theorem VRL.step (f : Fm hot nc nS X F h ρ σ Ls) (s : Step hot n0 F F' h h') (l : nS ≤ n0) (b : hi ≤ n0) : ∀ {vs : List Val} {lo : Nat} {ws : List W}, 4 ≤ lo → VRL hot F h ρ σ Ls lo hi vs ws → VRL hot F' h' ρ σ Ls lo hi vs ws
  | [], lo, ws, _, r => by unfold VRL at r ⊢; exact r
  | v :: vs, lo, ws, c, r => by
    unfold VRL at r ⊢
    obtain ⟨u, us, m, e, l1, l2, r1, r⟩ := r
    exact ⟨u, us, m, e, l1, l2, r1.step f s l (Nat.le_trans l2 b) c, VRL.step f s l b (Nat.le_trans c l1) r⟩
/-- the places of an owned part -/
def In (F : FP) (lo hi : Nat) (ts : List Nat) (Ls : Nat → List Nat) (L : List Nat) : Prop := L.Nodup ∧ ∀ a ∈ L, ¬ F a ∧ ((lo ≤ a ∧ a < hi) ∨ ∃ i ∈ ts, a ∈ Ls i)
theorem st1_dp (f : Fm hot nc nS X F h ρ σ Ls) (r : VR hot lo hi F h ρ σ Ls v w) {ts : List Nat} (e : st1 v = some (true, ts)) : ∃ L, Ro h v.d w L ∧ In F lo hi ts Ls L := by
  unfold st1 at e
  split at e
  · rename_i hs
    exact ⟨[], (Ro_sc hs).mpr ⟨r.scal hs, rfl⟩, List.nodup_nil, fun a ha => by cases ha⟩
  · have fin : (match v.g with
      | .fr => some (false, [])
      | g => (match v.s with
        | .p i [] => some (decide (g = .dp), [i])
        | .p _ _ => none
        | .t ts => some (decide (g = .dp), ts))) = some (true, ts) → ∃ L, Ro h v.d w L ∧ In F lo hi ts Ls L := by
      intro e
      obtain ⟨_, r⟩ := r
      cases hg : v.g with
      | fr => rw [hg] at e; cases e
      | rt =>
        rw [hg] at e
        dsimp only at e
        split at e <;> first | (cases e; done) | (injection e with e; injection e with e _; simp at e)
      | dp =>
        rw [hg] at e
        cases hs' : v.s with
        | t us =>
          rw [hs'] at e r
          dsimp only at e
          injection e with e
          injection e with _ e
          subst e
          obtain ⟨L, o, nd, k⟩ := r
          rw [hg] at o
          exact ⟨L, o.dp', nd, k⟩
        | p i q =>
          rw [hs'] at e r
          obtain ⟨d0, g0, w0, a1, a2, a3, a4, a5, a6, a7, a8, a9⟩ := r
          cases q with
          | cons j q => cases e
          | nil =>
            dsimp only at e
            injection e with e
            injection e with _ e
            subst e
            unfold Pth at a4
            rw [a4.1, a4.2]
            rw [← a5, hg] at a3
            exact ⟨Ls i, a3.dp', f.nd i, fun a ha => ⟨(f.ok i a ha).1, .inr ⟨i, List.mem_singleton.mpr rfl, ha⟩⟩⟩
    split at e <;> first | (cases e; done) | exact fin e
theorem st1_fr (f : Fm hot nc nS X F h ρ σ Ls) (r : VR hot lo hi F h ρ σ Ls v w) {b : Bool} (e : st1 v = some (b, [])) : ∃ L, Rd (fun a => F a ∨ a ∈ L) h v.d w ∧ In F lo hi [] Ls L := by
  unfold st1 at e
  split at e
  · rename_i hs
    exact ⟨[], (Rd_sc hs).mpr (r.scal hs), List.nodup_nil, fun a ha => by cases ha⟩
  · have fin : isExc v.d = false → (match v.g with
      | .fr => some (false, [])
      | g => (match v.s with
        | .p i [] => some (decide (g = .dp), [i])
        | .p _ _ => none
        | .t ts => some (decide (g = .dp), ts))) = some (b, []) → ∃ L, Rd (fun a => F a ∨ a ∈ L) h v.d w ∧ In F lo hi [] Ls L := by
      intro ed e
      obtain ⟨_, r⟩ := r
      cases hs' : v.s with
      | t us =>
        rw [hs'] at e r
        obtain ⟨L, o, nd, k⟩ := r
        have hu : L = [] ∨ us = [] := by
          cases hg : v.g with
          | fr => rw [hg] at o; exact .inl (o.fr' ed).1
          | rt => rw [hg] at e; dsimp only at e; injection e with e; injection e with _ e; exact .inr e
          | dp => rw [hg] at e; dsimp only at e; injection e with e; injection e with _ e; exact .inr e
        refine ⟨L, o.re ed, nd, fun a ha => ⟨(k a ha).1, .inl ?_⟩⟩
        rcases (k a ha).2 with z | ⟨i, z, _⟩
        · exact z
        · rcases hu with hu | hu
          · rw [hu] at ha; cases ha
          · rw [hu] at z; cases z
      | p i q =>
        rw [hs'] at e r
        obtain ⟨d0, g0, w0, a1, a2, a3, a4, a5, a6, a7, a8, a9⟩ := r
        cases hg : v.g with
        | fr => rw [hg] at a5; exact (a6 a5.symm).elim
        | rt => rw [hg] at e; cases q <;> cases e
        | dp => rw [hg] at e; cases q <;> cases e
    have z : isExc v.d = false := by
      cases hd : v.d <;> first | rfl | (rw [hd] at e; cases e)
    exact fin z (by cases hd : v.d <;> first | (rw [hd] at e; cases e; done) | (rw [hd] at e; exact e) | (rw [hd] at z; cases z))
theorem stL_cons {v : Val} {vs : List Val} {b : Bool} {ts : List Nat} (e : stL (v :: vs) = some (b, ts)) : ∃ b1 t1 b2 t2, st1 v = some (b1, t1) ∧ stL vs = some (b2, t2) ∧ b = (b1 && b2) ∧ ts = t1 ++ t2 := by
  unfold stL at e
  split at e
  · rename_i b1 t1 b2 t2 e1 e2
    injection e with e
    injection e with e3 e4
    exact ⟨b1, t1, b2, t2, e1, e2, e3.symm, e4.symm⟩
  · cases e
/-- owned parts -/
theorem stL_dp (f : Fm hot nc nS X F h ρ σ Ls) : ∀ {vs : List Val} {lo : Nat} {ws : List W} {ts : List Nat}, nS ≤ lo → VRL hot F h ρ σ Ls lo hi vs ws → stL vs = some (true, ts) → ts.Nodup → ∃ L, RoA h (vs.map (·.d)) ws L ∧ In F lo hi ts Ls L
  | [], lo, ws, ts, _, r, e, _ => by
    unfold VRL at r
    subst r
    exact ⟨[], by unfold RoA; exact ⟨rfl, rfl⟩, List.nodup_nil, fun a ha => by cases ha⟩
  | v :: vs, lo, ws, ts, l, r, e, nd => by
    unfold VRL at r
    obtain ⟨u, us, m, ew, l1, l2, r1, r⟩ := r
    obtain ⟨b1, t1, b2, t2, e1, e2, e3, e4⟩ := stL_cons e
    subst ew; subst e4
    obtain ⟨rfl, rfl⟩ : b1 = true ∧ b2 = true := by cases b1 <;> cases b2 <;> first | exact ⟨rfl, rfl⟩ | cases e3
    obtain ⟨n1, n2, n3⟩ := List.nodup_append.mp nd
    obtain ⟨L1, o1, i1⟩ := st1_dp f r1 e1
    obtain ⟨L2, o2, i2⟩ := stL_dp f (Nat.le_trans l l1) r e2 n2
    refine ⟨L1 ++ L2, RoA.cons.mpr ⟨L1, L2, rfl, o1, o2⟩, List.nodup_append.mpr ⟨i1.1, i2.1, fun a ha b hb z => ?_⟩, fun a ha => ?_⟩
    · subst z
      rcases (i1.2 a ha).2 with z1 | ⟨i, hi1, z1⟩ <;> rcases (i2.2 a hb).2 with z2 | ⟨j, hj, z2⟩
      · omega
      · have := f.lt z2; omega
      · have := f.lt z1; omega
      · have := f.dj i j a z1 z2
        subst this
        exact n3 i hi1 i hj rfl
    · rcases List.mem_append.mp ha with ha | ha
      · refine ⟨(i1.2 a ha).1, ?_⟩
        rcases (i1.2 a ha).2 with z1 | ⟨i, hi1, z1⟩
        · exact .inl ⟨z1.1, Nat.lt_of_lt_of_le z1.2 l2⟩
        · exact .inr ⟨i, List.mem_append_left _ hi1, z1⟩
      · refine ⟨(i2.2 a ha).1, ?_⟩
        rcases (i2.2 a ha).2 with z1 | ⟨i, hi1, z1⟩
        · exact .inl ⟨Nat.le_trans l1 z1.1, z1.2⟩
        · exact .inr ⟨i, List.mem_append_right _ hi1, z1⟩
theorem Rd.more {F F' : FP} {h : Hq} {d : D} {w : W} (k : ∀ a, F a → F' a) (r : Rd F h d w) : Rd F' h d w := Rd.mono k (fun _ _ _ h _ => h) _ _ r
theorem RdA.more {F F' : FP} {h : Hq} {d : List D} {w : List W} (k : ∀ a, F a → F' a) (r : RdA F h d w) : RdA F' h d w := RdA.mono k (fun _ _ _ h _ => h) _ _ r
/-- parts that are frozen -/
theorem stL_fr (f : Fm hot nc nS X F h ρ σ Ls) : ∀ {vs : List Val} {lo : Nat} {ws : List W} {b : Bool}, VRL hot F h ρ σ Ls lo hi vs ws → stL vs = some (b, []) → ∃ L : List Nat, RdA (fun a => F a ∨ a ∈ L) h (vs.map (·.d)) ws ∧ ∀ a ∈ L, ¬ F a ∧ lo ≤ a ∧ a < hi
  | [], lo, ws, b, r, e => by
    unfold VRL at r
    subst r
    exact ⟨[], by unfold RdA; rfl, fun a ha => by cases ha⟩
  | v :: vs, lo, ws, b, r, e => by
    unfold VRL at r
    obtain ⟨u, us, m, ew, l1, l2, r1, r⟩ := r
    obtain ⟨b1, t1, b2, t2, e1, e2, e3, e4⟩ := stL_cons e
    subst ew
    obtain ⟨rfl, rfl⟩ := List.append_eq_nil_iff.mp e4.symm
    obtain ⟨L1, o1, i1⟩ := st1_fr f r1 e1
    obtain ⟨L2, o2, i2⟩ := stL_fr f r e2
    have q1 : Rd (fun a => F a ∨ a ∈ L1 ++ L2) h v.d u := Rd.more (fun (a : Nat) z => Or.imp id (fun (z : a ∈ L1) => List.mem_append_left L2 z) z) o1
    have q2 : RdA (fun a => F a ∨ a ∈ L1 ++ L2) h (vs.map (·.d)) us := RdA.more (fun (a : Nat) z => Or.imp id (fun (z : a ∈ L2) => List.mem_append_right L1 z) z) o2
    refine ⟨L1 ++ L2, RdA.cons.mpr ⟨q1, q2⟩, fun a ha => ?_⟩
    rcases List.mem_append.mp ha with ha | ha
    · have i1 := i1.2 a ha
      rcases i1.2 with z | ⟨i, z, _⟩
      · exact ⟨i1.1, z.1, Nat.lt_of_lt_of_le z.2 l2⟩
      · cases z
    · have i2 := i2 a ha
      exact ⟨i2.1, Nat.le_trans l1 i2.2.1, i2.2.2⟩
theorem RdA.obj {k : Kd} {xs : List D} {a : Nat} {ws : List W} (o : Rd F h (.nd k xs) (.ref a)) (ha : h[a]? = some (obOf k ws)) (hk : kok k ws.length) : RdA F h xs ws := by
  unfold Rd at o
  obtain ⟨b, us, eb, _, hb, hkb, z⟩ := o
  injection eb with eb
  subst eb
  have : ws = us := obOf_inj (Option.some.inj (ha.symm.trans hb)) hk hkb
  subst this
  exact z
theorem RoA.obj {k : Kd} {xs : List D} {a : Nat} {ws : List W} {L : List Nat} (o : Ro h (.nd k xs) (.ref a) L) (ha : h[a]? = some (obOf k ws)) (hk : kok k ws.length) : ∃ L', L = a :: L' ∧ RoA h xs ws L' := by
  unfold Ro at o
  obtain ⟨b, us, L', eb, eL, hb, hkb, z⟩ := o
  injection eb with eb
  subst eb
  have : ws = us := obOf_inj (Option.some.inj (ha.symm.trans hb)) hk hkb
  subst this
  exact ⟨L', eL, z⟩
/-- how parts lie -/
def Kids (F : FP) (h : Hq) (b : Bool) (xs : List D) (ws : List W) (L : List Nat) : Prop := if b = true then RoA h xs ws L else RdA F h xs ws ∧ L = []
/-- the parts of a value are stored once more -/
theorem cpy_ok (r : VR hot lo hi F h ρ σ Ls v w) {k : Kd} {xs : List D} (e : v.d = .nd k xs) {a : Nat} {ws : List W} (ew : w = .ref a) (ha : h[a]? = some (obOf k ws)) (hk : kok k ws.length) (m n : Nat) {b : Bool} (hc : cpy v ((xs.drop m).take n) = some b) :
    ∃ L, Kids F h b ((xs.drop m).take n) ((ws.drop m).take n) L ∧ In F lo hi [] Ls L := by
  have rd : RdA TT h xs ws := by
    have z := r.rd (by rw [e]; rfl)
    rw [e, ew] at z
    exact RdA.obj z ha hk
  unfold cpy at hc
  split at hc
  · rename_i hs
    injection hc with hc
    subst hc
    refine ⟨[], ?_, List.nodup_nil, fun a ha => by cases ha⟩
    rw [RdA.scal hs (RdA.take n (RdA.drop m rd))]
    exact RoA.of_scal hs
  · obtain ⟨_, r⟩ := r
    cases hs' : v.s with
    | t us =>
      rw [hs'] at r
      obtain ⟨L, o, nd, kk⟩ := r
      cases hg : v.g with
      | fr =>
        rw [hg] at o hc
        injection hc with hc
        subst hc
        have o := (o.fr' (by rw [e]; rfl)).2
        rw [e, ew] at o
        exact ⟨[], ⟨RdA.take n (RdA.drop m (RdA.obj o ha hk)), rfl⟩, List.nodup_nil, fun a ha => by cases ha⟩
      | rt =>
        rw [hg] at o hc
        injection hc with hc
        subst hc
        obtain ⟨a', k', xs', ws', e1, e2, e3, r1, r2, r3⟩ := o.rt'
        rw [e] at e1
        injection e1 with e1 e1'
        rw [ew] at e2
        injection e2 with e2
        subst e1; subst e1'; subst e2
        have : ws = ws' := obOf_inj (Option.some.inj (ha.symm.trans r1)) hk r2
        subst this
        exact ⟨[], ⟨RdA.take n (RdA.drop m r3), rfl⟩, List.nodup_nil, fun a ha => by cases ha⟩
      | dp =>
        rw [hg] at o hc
        dsimp only at hc
        rw [hs'] at hc
        split at hc
        · rename_i eu
          injection eu with eu
          subst eu
          injection hc with hc
          subst hc
          have o := o.dp'
          rw [e, ew] at o
          obtain ⟨L', eL, o⟩ := RoA.obj o ha hk
          obtain ⟨L1, o1, s1⟩ := RoA.drop m o
          obtain ⟨L2, o2, s2⟩ := RoA.take n o1
          have sl : List.Sublist L2 L := by rw [eL]; exact s2.trans (s1.trans (List.sublist_cons_self _ _))
          exact ⟨L2, o2, nd.sublist sl, fun a ha => kk a (sl.subset ha)⟩
        · cases hc
    | p i q =>
      rw [hs'] at r
      obtain ⟨d0, g0, w0, a1, a2, a3, a4, a5, a6, a7, a8, a9⟩ := r
      cases hg : v.g with
      | fr => rw [hg] at a5; exact (a6 a5.symm).elim
      | dp => rw [hg] at hc; dsimp only at hc; rw [hs'] at hc; split at hc <;> first | (rename_i z; cases z; done) | cases hc
      | rt =>
        rw [hg] at a5 hc
        injection hc with hc
        subst hc
        rw [← a5] at a3 a7
        obtain ⟨a', k', xs', ws', e1, e2, e3, r1, r2, r3⟩ := a3.rt'
        rcases a7 with z | z
        · subst z
          unfold Pth at a4
          rw [← a4.1, e] at e1
          rw [← a4.2, ew] at e2
          injection e1 with e1 e1'
          injection e2 with e2
          subst e1; subst e1'; subst e2
          have : ws = ws' := obOf_inj (Option.some.inj (ha.symm.trans r1)) hk r2
          subst this
          exact ⟨[], ⟨RdA.take n (RdA.drop m r3), rfl⟩, List.nodup_nil, fun a ha => by cases ha⟩
        · cases z
/-- parts are frozen -/
theorem Kids.frz {b : Bool} {xs : List D} {ws : List W} {L : List Nat} (k : Kids F h b xs ws L) : RdA (fun a => F a ∨ a ∈ L) h xs ws := by
  unfold Kids at k
  split at k
  · exact RoA.rd _ _ _ (fun a => .inr) k
  · exact k.1.more fun _ => .inl
/-- a new object -/
theorem VR_new {b : Bool} {k : Kd} {xs : List D} {ws : List W} {L : List Nat} {ts : List Nat} (fb : FB F h) (kd : Kids F h b xs ws L) (hk : kok k ws.length) (i : In F lo hi ts Ls L) (hb : b = true ∨ ts = []) (l1 : ∀ a ∈ L, a < h.length) (l2 : lo ≤ h.length) (l3 : hi ≤ h.length) :
    VR hot lo (h.length + 1) F (h ++ [obOf k ws]) ρ σ Ls ⟨.nd k xs, bF b, .t ts⟩ (.ref h.length) := by
  have at' : (h ++ [obOf k ws])[h.length]? = some (obOf k ws) := get_new1 h _
  have kp : ∀ a o, h[a]? = some o → (h ++ [obOf k ws])[a]? = some o := fun a o e => by
    rw [List.getElem?_append_left (List.getElem?_eq_some_iff.mp e).1]; exact e
  have nF : ¬ F h.length := fun z => by have := (fb _ z).1; omega
  refine ⟨fun e => (by cases e), ?_⟩
  cases b with
  | true =>
    refine ⟨h.length :: L, .dp ?_, List.nodup_cons.mpr ⟨fun z => by have := l1 _ z; omega, i.1⟩, fun a ha => ?_⟩
    · unfold Ro
      exact ⟨_, ws, L, rfl, rfl, at', hk, RoA.mono _ _ _ (fun a o _ e _ => kp a o e) kd⟩
    · rcases List.mem_cons.mp ha with z | z
      · subst z; exact ⟨nF, .inl ⟨l2, Nat.lt_succ_self _⟩⟩
      · exact ⟨(i.2 a z).1, (i.2 a z).2.imp (fun q => ⟨q.1, by omega⟩) id⟩
  | false =>
    refine ⟨[h.length], .rt at' hk (RdA.mono (fun _ z => z) (fun a o _ e _ => kp a o e) _ _ kd.1), List.nodup_cons.mpr ⟨(by simp), List.nodup_nil⟩, fun a ha => ?_⟩
    rw [List.mem_singleton.mp ha]
    exact ⟨nF, .inl ⟨l2, Nat.lt_succ_self _⟩⟩
end
end Vp
set_option Elab.async false
set_option linter.all false
set_option maxRecDepth 100000
set_option maxHeartbeats 400000
/-! Vp S3: what is asked of a computation; the operators. -/
namespace Vp
open PySem Mp Cf
def Go {α : Type} (hot : Bool) (n0 : Nat) (ns : List Int) (F : FP) (h : Hq) (p b : Nat) (r : M α) (P : FP → Hq → α → Prop) (Xq : QX) : Prop :=
  ∃ e h' p' F', r = some (e, h') ∧ Step hot n0 F F' h h' ∧ Sto ns h' p' ∧ p' ≤ p + b ∧ FB F' h' ∧ match e with
    | .ok a => P F' h' a
    | .exc c w => ∃ d, Xq c d ∧ isSc d = true ∧ w = scW d
section
variable {hot : Bool} {n0 n1 nS : Nat} {ns : List Int} {p b b1 b2 : Nat} {F F' F1 F2 : FP} {h h' h1 h2 : Hq} {nc : Nat} {X : FP} {ρ : Mp.Env} {σ : Sv} {Ls : Nat → List Nat} {lo hi m : Nat} {v : Val} {w : W} {d : D} {α β : Type} {Q : QV} {Xq : QX}
theorem Go.bnd {r : M α} {f : α → Hq → M β} {P1 : FP → Hq → α → Prop} {P2 : FP → Hq → β → Prop} (a : Go hot n0 ns F h p b1 r P1 Xq)
    (k : ∀ F1 h1 p1 x, Step hot n0 F F1 h h1 → Sto ns h1 p1 → p1 ≤ p + b1 → FB F1 h1 → P1 F1 h1 x → Go hot n0 ns F1 h1 p1 b2 (f x h1) P2 Xq) : Go hot n0 ns F h p (b1 + b2) (bnd r f) P2 Xq := by
  obtain ⟨e, h1, p1, F1, e1, s, t, pb, fb, z⟩ := a
  subst e1
  cases e with
  | ok x =>
    obtain ⟨e2, h2, p2, F2, q1, q2, q3, q4, q5, q6⟩ := k F1 h1 p1 x s t pb fb z
    exact ⟨e2, h2, p2, F2, q1, s.trans q2, q3, by omega, q5, q6⟩
  | exc c w => exact ⟨_, h1, p1, F1, rfl, s, t, by omega, fb, z⟩
theorem Go.low {r : M α} {P : FP → Hq → α → Prop} (a : Go hot n1 ns F h p b r P Xq) (l : n0 ≤ n1) : Go hot n0 ns F h p b r P Xq := by
  obtain ⟨e, h1, p1, F1, e1, s, t⟩ := a
  exact ⟨e, h1, p1, F1, e1, s.low l, t⟩
theorem Go.cap {r : M α} {P : FP → Hq → α → Prop} (a : Go hot n0 ns F h p b1 r P Xq) (l : b1 ≤ b) : Go hot n0 ns F h p b r P Xq := by
  obtain ⟨e, h1, p1, F1, e1, s, t, u, z⟩ := a
  exact ⟨e, h1, p1, F1, e1, s, t, by omega, z⟩
theorem Go.mono {r : M α} {P P' : FP → Hq → α → Prop} (a : Go hot n0 ns F h p b r P Xq) (k : ∀ F' h' x, Step hot n0 F F' h h' → FB F' h' → P F' h' x → P' F' h' x) : Go hot n0 ns F h p b r P' Xq := by
  obtain ⟨e, h1, p1, F1, e1, s, t, u, fb, z⟩ := a
  refine ⟨e, h1, p1, F1, e1, s, t, u, fb, ?_⟩
  cases e with
  | ok x => exact k _ _ _ s fb z
  | exc c w => exact z
theorem Go.ret {x : α} {P : FP → Hq → α → Prop} (t : Sto ns h p) (fb : FB F h) (z : P F h x) : Go hot n0 ns F h p b (ret x h) P Xq := ⟨_, h, p, F, rfl, .refl, t, by omega, fb, z⟩
/-- a value's end -/
abbrev PV (hot : Bool) (lo : Nat) (ρ : Mp.Env) (σ : Sv) (Ls : Nat → List Nat) (Q : QV) : FP → Hq → W → Prop := fun F h w => ∃ v, Q v ∧ VR hot lo h.length F h ρ σ Ls v w
theorem go_sc {P : W} (t : Sto ns h p) (fb : FB F h) (e : isSc d = true) (q : Q (sc d)) (ew : P = scW d) : Go hot n0 ns F h p b (ret P h) (PV hot lo ρ σ Ls Q) Xq := .ret t fb ⟨_, q, ew ▸ VR_sc e⟩
theorem go_new {k : Kd} {xs : List D} {ws : List W} {c : Bool} {L N : List Nat} {ts : List Nat} (t : Sto ns h p) (fb : FB F h) (l0 : n0 ≤ lo) (l4 : 4 ≤ lo) (lh : lo ≤ h.length) (ls : ∀ i a, a ∈ Ls i → a < lo) (hk : kok k ws.length) (hN : ∀ a ∈ N, lo ≤ a ∧ a < h.length)
    (kd : Kids (fun a => F a ∨ a ∈ N) h c xs ws L) (i : In (fun a => F a ∨ a ∈ N) lo h.length ts Ls L) (hb : c = true ∨ ts = []) (q : Q ⟨.nd k xs, bF c, .t ts⟩) :
    Go hot n0 ns F h p b (alloc (obOf k ws) h) (PV hot lo ρ σ Ls Q) Xq := by
  have fb' : FB (fun a => F a ∨ a ∈ N) h := fb.freeze fun a ha => ⟨(hN a ha).2, by have := (hN a ha).1; omega⟩
  refine ⟨.ok (.ref h.length), h ++ [obOf k ws], p, fun a => F a ∨ a ∈ N, rfl, (Step.freeze fun a ha => ⟨Nat.le_trans l0 (hN a ha).1, (hN a ha).2⟩).trans (.push _), t.app _, by omega, fb'.push _, _, q, ?_⟩
  rw [List.length_append]
  refine VR_new fb' kd hk i hb (fun a ha => ?_) lh (Nat.le_refl _)
  rcases (i.2 a ha).2 with z | ⟨j, _, z⟩
  · exact z.2
  · exact Nat.lt_of_lt_of_le (ls j a z) lh
/-- what the premises on a frame are, mid-way in an expression that began at lo -/
structure Mid (hot : Bool) (nc nS : Nat) (X : FP) (ns : List Int) (F : FP) (h : Hq) (ρ : Mp.Env) (σ : Sv) (Ls : Nat → List Nat) (lo p : Nat) : Prop where
  f : Fm hot nc nS X F h ρ σ Ls
  t : Sto ns h p
  l : nS ≤ lo
  c : 4 ≤ lo
  h : lo ≤ h.length
theorem Mid.ls (M : Mid hot nc nS X ns F h ρ σ Ls lo p) : ∀ i a, a ∈ Ls i → a < lo := fun i a z => Nat.lt_of_lt_of_le (M.f.lt z) M.l
theorem In.none {ts : List Nat} : In F lo hi ts Ls [] := ⟨List.nodup_nil, fun a ha => by cases ha⟩
theorem In.up {ts : List Nat} {L : List Nat} {lo' hi' : Nat} (i : In F lo hi ts Ls L) (l : lo' ≤ lo) (k : hi ≤ hi') : In F lo' hi' ts Ls L := ⟨i.1, fun a ha => ⟨(i.2 a ha).1, (i.2 a ha).2.imp (fun z => ⟨Nat.le_trans l z.1, Nat.lt_of_lt_of_le z.2 k⟩) id⟩⟩
theorem In.nil {L : List Nat} (i : In F lo hi [] Ls L) : ∀ a ∈ L, ¬ F a ∧ lo ≤ a ∧ a < hi := fun a ha => ⟨(i.2 a ha).1, (i.2 a ha).2.elim id fun ⟨_, z, _⟩ => by cases z⟩
theorem drop_take_all {α : Type} (xs : List α) : (xs.drop 0).take xs.length = xs := by simp
theorem cpy_all (r : VR hot lo hi F h ρ σ Ls v w) {k : Kd} {xs : List D} (e : v.d = .nd k xs) {a : Nat} {ws : List W} (ew : w = .ref a) (ha : h[a]? = some (obOf k ws)) (hk : kok k ws.length) {c : Bool} (hc : cpy v xs = some c) :
    ∃ L, Kids F h c xs ws L ∧ In F lo hi [] Ls L := by
  have z := cpy_ok (b := c) r e ew ha hk 0 xs.length (by rw [drop_take_all]; exact hc)
  have el : ws.length = xs.length := (RdA.obj (F := TT) (by have z := r.rd (by rw [e]; rfl); rw [e, ew] at z; exact z) ha hk).len
  rw [drop_take_all, ← el, drop_take_all] at z
  exact z
/-- two rows of parts in one object -/
theorem kids_app {xs ys : List D} {ws us : List W} {c1 c2 : Bool} {L1 L2 : List Nat} (k1 : Kids F h c1 xs ws L1) (i1 : In F lo m [] Ls L1) (k2 : Kids F h c2 ys us L2) (i2 : In F m hi [] Ls L2) (l1 : lo ≤ m) (l2 : m ≤ hi) :
    ∃ L N : List Nat, Kids (fun a => F a ∨ a ∈ N) h (c1 && c2) (xs ++ ys) (ws ++ us) L ∧ In (fun a => F a ∨ a ∈ N) lo hi [] Ls L ∧ ∀ a ∈ N, lo ≤ a ∧ a < hi := by
  have j1 := In.nil i1
  have j2 := In.nil i2
  by_cases hc : c1 = true ∧ c2 = true
  · obtain ⟨rfl, rfl⟩ := hc
    refine ⟨L1 ++ L2, [], RoA.app k1 k2, ⟨List.nodup_append.mpr ⟨i1.1, i2.1, fun a ha b hb z => ?_⟩, fun a ha => ?_⟩, fun a ha => by cases ha⟩
    · subst z; have := (j1 a ha).2; have := (j2 a hb).2; omega
    · rcases List.mem_append.mp ha with z | z
      · exact ⟨fun q => q.elim (j1 a z).1 fun q => (by cases q), .inl ⟨(j1 a z).2.1, by have := (j1 a z).2.2; omega⟩⟩
      · exact ⟨fun q => q.elim (j2 a z).1 fun q => (by cases q), .inl ⟨by have := (j2 a z).2.1; omega, (j2 a z).2.2⟩⟩
  · have e : (c1 && c2) = false := by cases c1 <;> cases c2 <;> first | rfl | exact (hc ⟨rfl, rfl⟩).elim
    rw [e]
    have q1 : RdA (fun a => F a ∨ a ∈ L1 ++ L2) h xs ws := RdA.more (fun (a : Nat) z => Or.imp id (fun (z : a ∈ L1) => List.mem_append_left L2 z) z) k1.frz
    have q2 : RdA (fun a => F a ∨ a ∈ L1 ++ L2) h ys us := RdA.more (fun (a : Nat) z => Or.imp id (fun (z : a ∈ L2) => List.mem_append_right L1 z) z) k2.frz
    refine ⟨[], L1 ++ L2, ⟨RdA.app q1 q2, rfl⟩, In.none, fun a ha => ?_⟩
    rcases List.mem_append.mp ha with z | z
    · have := (j1 a z).2; omega
    · have := (j2 a z).2; omega
theorem litB_f {xs : List D} : litB xs = false ↔ xs ≠ [] := by cases xs <;> simp [litB]
theorem int_of (r : VR hot lo hi F h ρ σ Ls v w) {i : Int} (e : v.d = .int i) : w = .int i := by
  have := r.scal (by rw [e]; rfl)
  rw [e] at this
  exact this
theorem str_of (r : VR hot lo hi F h ρ σ Ls v w) {i : Str} (e : v.d = .str i) : w = .str i := by
  have := r.scal (by rw [e]; rfl)
  rw [e] at this
  exact this
variable {x y : Val} {wx wy : W}
theorem vAdd_ok (M : Mid hot nc nS X ns F h ρ σ Ls lo p) (rx : VR hot lo m F h ρ σ Ls x wx) (ry : VR hot m h.length F h ρ σ Ls y wy) (l1 : lo ≤ m) (l2 : m ≤ h.length) (q : oQ (vAdd x y) Q) :
    Go hot lo ns F h p 0 (addV wx wy h) (PV hot lo ρ σ Ls Q) Xq := by
  cases e : vAdd x y with
  | none => rw [e] at q; exact q.elim
  | some v =>
  rw [e] at q
  unfold vAdd at e
  split at e
  · rename_i i j ex ey
    cases e
    rw [int_of rx ex, int_of ry ey]
    exact go_sc M.t M.f.fb rfl q rfl
  · rename_i i j ex ey
    split at e
    · rename_i hl
      cases e
      rw [str_of rx ex, str_of ry ey, add_str hl]
      exact go_sc M.t M.f.fb rfl q rfl
    · cases e
  · rename_i xs ys ex ey
    split at e
    · rename_i hl
      split at e
      · rename_i c1 c2 e1 e2
        cases e
        obtain ⟨a, ws, ea, ha, hka, ra⟩ := rx.obj ex
        obtain ⟨a', us, eb, hb, hkb, rb⟩ := ry.obj ey
        obtain ⟨L1, k1, i1⟩ := cpy_all rx ex ea ha hka e1
        obtain ⟨L2, k2, i2⟩ := cpy_all ry ey eb hb hkb e2
        obtain ⟨L, N, kk, ii, nn⟩ := kids_app k1 i1 k2 i2 l1 l2
        subst ea; subst eb
        have hl' : ws.length + us.length ≤ line := by rw [ra.len, rb.len]; exact hl
        have : addV (.ref a) (.ref a') h = alloc (obOf .lst (ws ++ us)) h := by
          unfold addV
          dsimp only
          rw [ha, hb]
          exact if_pos hl'
        rw [this]
        exact go_new M.t M.f.fb (Nat.le_refl _) M.c M.h M.ls (by show (ws ++ us).length ≤ line; rw [List.length_append]; exact hl') nn kk ii (.inr rfl) q
      · cases e
    · cases e
  · rename_i xs ys ex ey
    split at e
    · rename_i hl
      split at e
      · rename_i c1 c2 e1 e2
        cases e
        obtain ⟨a, ws, ea, ha, hka, ra⟩ := rx.obj ex
        obtain ⟨a', us, eb, hb, hkb, rb⟩ := ry.obj ey
        obtain ⟨L1, k1, i1⟩ := cpy_all rx ex ea ha hka e1
        obtain ⟨L2, k2, i2⟩ := cpy_all ry ey eb hb hkb e2
        obtain ⟨L, N, kk, ii, nn⟩ := kids_app k1 i1 k2 i2 l1 l2
        subst ea; subst eb
        have n1 : ws ≠ [] := fun z => litB_f.mp hl.2.1 (List.length_eq_zero_iff.mp (by rw [← ra.len, z]; rfl))
        have n2 : us ≠ [] := fun z => litB_f.mp hl.2.2 (List.length_eq_zero_iff.mp (by rw [← rb.len, z]; rfl))
        have hl' : ws.length + us.length ≤ line := by rw [ra.len, rb.len]; exact hl.1
        have : addV (.ref a) (.ref a') h = alloc (obOf .tup (ws ++ us)) h := by
          unfold addV
          dsimp only
          rw [ha, hb]
          show (if ws.length + us.length ≤ line ∧ ws ≠ [] then (if us = [] then Mp.ret (.ref a) h else alloc (.tup (ws ++ us)) h) else none) = _
          rw [if_pos ⟨hl', n1⟩, if_neg n2]
          rfl
        rw [this]
        exact go_new M.t M.f.fb (Nat.le_refl _) M.c M.h M.ls (by show (ws ++ us).length ≤ line; rw [List.length_append]; exact hl') nn kk ii (.inr rfl) q
      · cases e
    · cases e
  · cases e
theorem all_rep {xs : List D} (h : xs.all isSc = true) : ∀ n : Nat, (List.replicate n xs).flatten.all isSc = true := fun n => by
  rw [List.all_eq_true] at h ⊢
  intro d hd
  obtain ⟨l, hl, hd⟩ := List.mem_flatten.mp hd
  rw [(List.mem_replicate.mp hl).2] at hd
  exact h d hd
theorem vBin_ok (o : BOp) (M : Mid hot nc nS X ns F h ρ σ Ls lo p) (rx : VR hot lo m F h ρ σ Ls x wx) (ry : VR hot m h.length F h ρ σ Ls y wy) (l1 : lo ≤ m) (l2 : m ≤ h.length) (q : oQ (vBin o x y) Q) :
    Go hot lo ns F h p 0 (binV o wx wy h) (PV hot lo ρ σ Ls Q) Xq := by
  cases o with
  | add => exact vAdd_ok M rx ry l1 l2 q
  | sub =>
    cases e : vBin .sub x y with
    | none => rw [e] at q; exact q.elim
    | some v =>
    rw [e] at q
    unfold vBin at e
    dsimp only at e
    split at e
    · rename_i i j ex ey
      cases e
      rw [int_of rx ex, int_of ry ey]
      exact go_sc M.t M.f.fb rfl q rfl
    · cases e
  | mul =>
    cases e : vBin .mul x y with
    | none => rw [e] at q; exact q.elim
    | some v =>
    rw [e] at q
    change vMul x y = _ at e
    unfold vMul at e
    split at e
    · rename_i i j ex ey
      split at e
      · rename_i hl
        cases e
        rw [int_of rx ex, int_of ry ey]
        rw [binV_mul, mul_ok hl]
        exact go_sc M.t M.f.fb rfl q rfl
      · cases e
    · rename_i z n ex ey
      split at e
      · rename_i hl
        cases e
        rw [str_of rx ex, int_of ry ey]
        rw [binV_mul, mul_str hl.1 hl.2.1 hl.2.2]
        exact go_sc M.t M.f.fb rfl q rfl
      · cases e
    · rename_i xs n ex ey
      split at e
      · rename_i hl
        cases e
        obtain ⟨a, ws, ea, ha, hka, ra⟩ := rx.obj ex
        subst ea
        rw [int_of ry ey]
        have ew := RdA.scal hl.2.2.2 ra
        have hl' : ws.length * n.toNat ≤ line := by rw [ra.len]; exact hl.2.2.1
        have : binV .mul (.ref a) (.int n) h = alloc (obOf .lst (List.replicate n.toNat ws).flatten) h := by
          rw [binV_mul]
          unfold mulV
          dsimp only
          rw [ha]
          exact if_pos ⟨hl.1, hl.2.1, hl'⟩
        rw [this]
        have em : (List.replicate n.toNat ws).flatten = (List.replicate n.toNat xs).flatten.map scW := by
          rw [List.map_flatten, List.map_replicate, ← ew]
        rw [em]
        refine go_new (ts := []) (N := []) (L := []) (c := true) M.t M.f.fb (Nat.le_refl _) M.c M.h M.ls ?_ (fun a ha => by cases ha) (RoA.of_scal (all_rep hl.2.2.2 _)) In.none (.inr rfl) q
        rw [← em]
        show (List.replicate n.toNat ws).flatten.length ≤ line
        rw [List.length_flatten, List.map_replicate, List.sum_replicate_nat, Nat.mul_comm]
        exact hl'
      · cases e
    · cases e
  | fdiv =>
    cases e : vBin .fdiv x y with
    | none => rw [e] at q; exact q.elim
    | some v =>
    rw [e] at q
    unfold vBin at e
    dsimp only at e
    split at e
    · rename_i i j ex ey
      split at e
      · rename_i hl
        cases e
        rw [int_of rx ex, int_of ry ey]
        rw [binV_fdiv, fdiv_ok hl.1 hl.2]
        exact go_sc M.t M.f.fb rfl q rfl
      · cases e
    · cases e
  | mod =>
    cases e : vBin .mod x y with
    | none => rw [e] at q; exact q.elim
    | some v =>
    rw [e] at q
    unfold vBin at e
    dsimp only at e
    split at e
    · rename_i i j ex ey
      split at e
      · rename_i hl
        cases e
        rw [int_of rx ex, int_of ry ey]
        rw [binV_mod, mod_ok hl]
        exact go_sc M.t M.f.fb rfl q rfl
      · cases e
    · cases e
  | pow =>
    cases e : vBin .pow x y with
    | none => rw [e] at q; exact q.elim
    | some v =>
    rw [e] at q
    unfold vBin at e
    dsimp only at e
    split at e
    · rename_i i j ex ey
      split at e
      · rename_i hl
        cases e
        rw [int_of rx ex, int_of ry ey]
        rw [binV_pow, pow_ok hl.1 hl.2]
        exact go_sc M.t M.f.fb rfl q rfl
      · cases e
    · cases e
end
end Vp
set_option Elab.async false
set_option linter.all false
set_option maxRecDepth 100000
set_option maxHeartbeats 400000
/-! Vp S4: comparisons, built-in functions, methods, items. -/
namespace Vp
open PySem Mp Cf
section
variable {hot : Bool} {n0 n1 nS : Nat} {ns : List Int} {p b b1 b2 : Nat} {F F' F1 F2 : FP} {h h' h1 h2 : Hq} {nc : Nat} {X : FP} {ρ : Mp.Env} {σ : Sv} {Ls : Nat → List Nat} {lo hi m : Nat} {v : Val} {w : W} {d : D} {Q : QV} {Xq : QX}
variable {x y : Val} {wx wy : W}
theorem toPy_ok : ∀ (n : Nat) (d : D) (w : W) (q : PyData), Rd TT h d w → toPy n d = some q → rdD h n w = some q := by
  intro n
  induction n with
  | zero => intro d w q _ e; cases e
  | succ n ih =>
    have all : ∀ (xs : List D) (ws : List W) (qs : List PyData), RdA TT h xs ws → xs.mapM (toPy n) = some qs → ws.mapM (rdD h n) = some qs := by
      intro xs
      induction xs with
      | nil => intro ws qs r e; unfold RdA at r; subst r; exact e
      | cons x xs ihx =>
        intro ws qs r e
        unfold RdA at r
        obtain ⟨u, us, ew, r1, r2⟩ := r
        subst ew
        rw [List.mapM_cons] at e ⊢
        cases e1 : toPy n x with
        | none => rw [e1] at e; cases e
        | some q1 =>
          cases e2 : xs.mapM (toPy n) with
          | none => rw [e1, e2] at e; cases e
          | some q2 =>
            rw [e1, e2] at e
            rw [ih _ _ _ r1 e1, ihx _ _ r2 e2]
            exact e
    intro d w q r e
    cases d with
    | non => unfold Rd at r; subst r; exact e
    | bl b => unfold Rd at r; subst r; exact e
    | int i => unfold Rd at r; subst r; exact e
    | str z => unfold Rd at r; subst r; exact e
    | nd k xs =>
      unfold Rd at r
      obtain ⟨a, ws, ew, _, ha, hk, r⟩ := r
      subst ew
      cases k with
      | lst =>
        change (xs.mapM (toPy n)).map .list = some q at e
        show (match h[a]? with
          | some (.lst xs) => (xs.mapM (rdD h n)).map PyData.list
          | some (.frl xs) => (xs.mapM (rdD h n)).map PyData.list
          | some (.tup xs) => (xs.mapM (rdD h n)).map PyData.tuple
          | _ => none) = _
        rw [ha]
        dsimp only [obOf]
        cases e2 : xs.mapM (toPy n) with
        | none => rw [e2] at e; cases e
        | some q2 => rw [all xs ws q2 r e2]; rw [e2] at e; exact e
      | tup =>
        change (xs.mapM (toPy n)).map .tuple = some q at e
        show (match h[a]? with
          | some (.lst xs) => (xs.mapM (rdD h n)).map PyData.list
          | some (.frl xs) => (xs.mapM (rdD h n)).map PyData.list
          | some (.tup xs) => (xs.mapM (rdD h n)).map PyData.tuple
          | _ => none) = _
        rw [ha]
        dsimp only [obOf]
        cases e2 : xs.mapM (toPy n) with
        | none => rw [e2] at e; cases e
        | some q2 => rw [all xs ws q2 r e2]; rw [e2] at e; exact e
      | dct ks => cases e
      | ins c fs => cases e
    | _ => cases e
theorem eqSc_ok {a b : D} {r : Bool} (e : eqSc a b = some r) : isSc a = true ∧ isSc b = true ∧ scalW (scW a) (scW b) = true ∧ decide (scW a = scW b) = r := by
  cases a <;> cases b <;> first
    | (cases e; done)
    | (cases e; exact ⟨rfl, rfl, rfl, rfl⟩)
    | (cases e; refine ⟨rfl, rfl, rfl, ?_⟩; exact decide_eq_false (fun z => by cases z))
    | (cases e; refine ⟨rfl, rfl, rfl, ?_⟩; rename_i i j; by_cases q : i = j
       · subst q; simp [scW]
       · simp [scW, q])
theorem toPy_scal {a b : D} {wa wb : W} {qa qb : PyData} (ra : Rd TT h a wa) (rb : Rd TT h b wb) (ea : toPy 12 a = some qa) (eb : toPy 12 b = some qb) (e : eqSc a b = none) : scalW wa wb = false := by
  have za : ∀ k xs, a = .nd k xs → ∃ i, wa = .ref i := fun k xs e => by
    subst e; unfold Rd at ra; obtain ⟨i, _, q, _⟩ := ra; exact ⟨i, q⟩
  have zb : ∀ k xs, b = .nd k xs → ∃ i, wb = .ref i := fun k xs e => by
    subst e; unfold Rd at rb; obtain ⟨i, _, q, _⟩ := rb; exact ⟨i, q⟩
  cases a with
  | nd k xs => obtain ⟨i, q⟩ := za k xs rfl; subst q; cases wb <;> rfl
  | hole => cases ea
  | sto => cases ea
  | ty n => cases ea
  | cls c => cases ea
  | exc c d => cases ea
  | _ =>
    cases b with
    | nd k xs => obtain ⟨i, q⟩ := zb k xs rfl; subst q; cases wa <;> rfl
    | hole => cases eb
    | sto => cases eb
    | ty n => cases eb
    | cls c => cases eb
    | exc c d => cases eb
    | _ => first | (cases e; done) | (unfold Rd at ra rb; subst ra; subst rb; rfl)
theorem eqD_ok {a b : D} {wa wb : W} {r : Bool} (ra : Rd TT h a wa) (rb : Rd TT h b wb) (e : eqD a b = some r) : Mp.eqV wa wb h = some r := by
  unfold eqD at e
  unfold Mp.eqV
  cases es : eqSc a b with
  | some r' =>
    rw [es] at e
    cases e
    obtain ⟨h1, h2, h3, h4⟩ := eqSc_ok es
    rw [(Rd_sc h1).mp ra, (Rd_sc h2).mp rb, if_pos h3, h4]
  | none =>
    rw [es] at e
    dsimp only at e
    split at e
    · rename_i qa qb ea eb
      rw [if_neg (by rw [toPy_scal ra rb ea eb es]; exact Bool.false_ne_true), toPy_ok 12 a wa qa ra ea, toPy_ok 12 b wb qb rb eb]
      exact e
    · cases e
theorem flat_ok {a : D} (f : flatD a = true) : isSc a = true ∧ flatW (scW a) = true := by cases a <;> first | (cases f; done) | exact ⟨rfl, rfl⟩
theorem eqF_ok {a b : D} (f : flatD a = true) (g : flatD b = true) : eqF (scW a) (scW b) = eqFD a b := by cases a <;> cases b <;> first | (cases f; done) | (cases g; done) | rfl
theorem all_flat : ∀ {xs : List D}, xs.all flatD = true → xs.all isSc = true ∧ (xs.map scW).all flatW = true
  | [], _ => ⟨rfl, rfl⟩
  | x :: xs, e => by
    rw [List.all_cons, Bool.and_eq_true] at e
    have z := all_flat e.2
    have y := flat_ok e.1
    refine ⟨?_, ?_⟩
    · rw [List.all_cons, y.1, z.1]; rfl
    · rw [List.map_cons, List.all_cons, y.2, z.2]; rfl
theorem any_flat {a : D} (f : flatD a = true) : ∀ {xs : List D}, xs.all flatD = true → ((xs.map scW).any fun y => eqF y (scW a)) = xs.any fun y => eqFD y a
  | [], _ => rfl
  | x :: xs, e => by
    rw [List.all_cons, Bool.and_eq_true] at e
    rw [List.map_cons, List.any_cons, List.any_cons, any_flat f e.2, eqF_ok e.1 f]
theorem inD_ok {a b : D} {wa wb : W} {r : Bool} (ra : Rd TT h a wa) (rb : Rd TT h b wb) (e : inD a b = some r) : inW wa wb h = some r := by
  have seq : ∀ (k : Kd) (ys : List D), (k = .lst ∨ k = .tup) → b = .nd k ys → (if flatD a && ys.all flatD then some (ys.any fun y => eqFD y a) else none) = some r → inW wa wb h = some r := by
    intro k ys hk eb e
    split at e
    · rename_i hc
      cases e
      obtain ⟨h1, h2⟩ := Bool.and_eq_true_iff.mp hc
      subst eb
      unfold Rd at rb
      obtain ⟨i, ws, ew, _, ha, _, rb⟩ := rb
      subst ew
      obtain ⟨y1, y2⟩ := all_flat h2
      obtain ⟨z1, z2⟩ := flat_ok h1
      have := RdA.scal y1 rb
      subst this
      rw [(Rd_sc z1).mp ra]
      have fin : ∀ x : W, flatW x = true → (∀ z, x ≠ .ref z) → x = scW a → inW x (.ref i) h = some (ys.any fun y => eqFD y a) := by
        intro x fx _ ex
        have hb : (if flatW x && (ys.map scW).all flatW then some ((ys.map scW).any fun y => eqF y x) else none) = some (ys.any fun y => eqFD y a) := by
          rw [fx, y2]
          subst ex
          rw [any_flat h1 h2]
          rfl
        unfold inW
        rcases hk with hk | hk <;> subst hk <;> (cases x <;> (dsimp only; rw [ha]; exact hb))
      exact fin _ z2 (fun z q => by cases a <;> first | (cases h1; done) | cases q) rfl
    · cases e
  unfold inD at e
  split at e
  · unfold Rd at ra rb; subst ra; subst rb; exact e
  · exact seq .lst _ (.inl rfl) rfl e
  · exact seq .tup _ (.inr rfl) rfl e
  · cases e
theorem ordD_ok {f : Int → Int → Bool} {g : Str → Str → Bool} {a b : D} {wa wb : W} {r : Bool} (ra : Rd TT h a wa) (rb : Rd TT h b wb) (e : ordD f g a b = some r) : ordV f g wa wb = some r := by
  unfold ordD at e
  split at e
  · unfold Rd at ra rb; subst ra; subst rb; exact e
  · unfold Rd at ra rb; subst ra; subst rb; exact e
  · cases e
theorem map_not {α : Type} {o : Option Bool} {r : Bool} (e : o.map (!·) = some r) : ∃ s, o = some s ∧ r = !s := by
  cases o with
  | none => cases e
  | some s => cases e; exact ⟨s, rfl, rfl⟩
theorem cmpD_ok (o : COp) {a b : D} {wa wb : W} {r : Bool} (ra : Rd TT h a wa) (rb : Rd TT h b wb) (e : cmpD o a b = some r) : cmpV o wa wb h = some r := by
  cases o with
  | eq => exact eqD_ok ra rb e
  | ne =>
    obtain ⟨s, e1, e2⟩ := map_not (α := D) e
    show (Mp.eqV wa wb h).map (!·) = _
    rw [eqD_ok ra rb e1, e2]
    rfl
  | lt => exact ordD_ok ra rb e
  | le => exact ordD_ok ra rb e
  | gt => exact ordD_ok ra rb e
  | ge => exact ordD_ok ra rb e
  | isin => exact inD_ok ra rb e
  | nin =>
    obtain ⟨s, e1, e2⟩ := map_not (α := D) e
    show (inW wa wb h).map (!·) = _
    rw [inD_ok ra rb e1, e2]
    rfl
theorem cmpD_exc (o : COp) {a b : D} {r : Bool} (e : cmpD o a b = some r) : isExc a = false ∧ isExc b = false := by
  have ee : ∀ r, eqD a b = some r → isExc a = false ∧ isExc b = false := fun r e => by
    unfold eqD at e
    cases a <;> first
      | (cases b <;> first | exact ⟨rfl, rfl⟩ | (simp [eqSc, toPy] at e; done))
      | (simp [eqSc, toPy] at e; done)
  have ei : ∀ r, inD a b = some r → isExc a = false ∧ isExc b = false := fun r e => by
    unfold inD at e
    split at e
    · exact ⟨rfl, rfl⟩
    · refine ⟨?_, rfl⟩
      cases a <;> first | rfl | (simp [flatD] at e; done)
    · refine ⟨?_, rfl⟩
      cases a <;> first | rfl | (simp [flatD] at e; done)
    · cases e
  have eo : ∀ f g r, ordD f g a b = some r → isExc a = false ∧ isExc b = false := fun f g r e => by
    unfold ordD at e
    split at e <;> first | exact ⟨rfl, rfl⟩ | cases e
  cases o with
  | eq => exact ee r e
  | ne => obtain ⟨s, e1, _⟩ := map_not (α := D) e; exact ee s e1
  | isin => exact ei r e
  | nin => obtain ⟨s, e1, _⟩ := map_not (α := D) e; exact ei s e1
  | lt => exact eo _ _ r e
  | le => exact eo _ _ r e
  | gt => exact eo _ _ r e
  | ge => exact eo _ _ r e
theorem cmp_ok (o : COp) (rx : VR hot lo m F h ρ σ Ls x wx) {lo' hi' : Nat} (ry : VR hot lo' hi' F h ρ σ Ls y wy) {P : Bool → Prop} (q : oQ (cmpD o x.d y.d) P) : ∃ r, cmpV o wx wy h = some r ∧ P r := by
  cases e : cmpD o x.d y.d with
  | none => rw [e] at q; exact q.elim
  | some r =>
    rw [e] at q
    obtain ⟨h1, h2⟩ := cmpD_exc o e
    exact ⟨r, cmpD_ok o (rx.rd h1) (ry.rd h2) e, q⟩
theorem tru_ok (rx : VR hot lo m F h ρ σ Ls x wx) {P : Bool → Prop} (q : oQ (truD x.d) P) : ∃ r, truV h wx = some r ∧ P r := by
  cases e : truD x.d with
  | none => rw [e] at q; exact q.elim
  | some r =>
    rw [e] at q
    refine ⟨r, ?_, q⟩
    have hx : isExc x.d = false := by cases hd : x.d <;> first | rfl | (rw [hd] at e; cases e)
    have r1 := rx.rd hx
    cases hd : x.d with
    | nd k xs =>
      rw [hd] at e r1
      unfold Rd at r1
      obtain ⟨a, ws, ew, _, ha, _, rr⟩ := r1
      subst ew
      have el := rr.len
      cases k with
      | lst =>
        cases e
        show (match h[a]? with
          | some (.lst xs) => some (!xs.isEmpty)
          | some (.frl xs) => some (!xs.isEmpty)
          | some (.tup xs) => some (!xs.isEmpty)
          | some (.dct kvs) => some (!kvs.isEmpty)
          | _ => none) = _
        rw [ha]
        cases xs <;> cases ws <;> first | rfl | (simp at el)
      | tup =>
        cases e
        show (match h[a]? with
          | some (.lst xs) => some (!xs.isEmpty)
          | some (.frl xs) => some (!xs.isEmpty)
          | some (.tup xs) => some (!xs.isEmpty)
          | some (.dct kvs) => some (!kvs.isEmpty)
          | _ => none) = _
        rw [ha]
        cases xs <;> cases ws <;> first | rfl | (simp at el)
      | dct ks => cases e
      | ins c fs => cases e
    | _ =>
      rw [hd] at e r1
      first
        | (cases e; done)
        | (unfold Rd at r1; subst r1; exact e)
theorem isNon_ok (rx : VR hot lo m F h ρ σ Ls x wx) {P : Bool → Prop} (q : oQ (isNon x.d) P) : P (decide (wx = .non)) := by
  by_cases hx : isExc x.d = true
  · have e0 : isNon x.d = some false := by cases hd : x.d <;> first | rfl | (rw [hd] at hx; cases hx)
    rw [e0] at q
    have : decide (wx = .non) = false := by
      obtain ⟨_, r⟩ := rx
      cases hs : x.s with
      | t ts =>
        rw [hs] at r
        obtain ⟨L, o, _⟩ := r
        cases hd : x.d <;> first | (rw [hd] at hx; cases hx; done) | skip
        rw [hd] at o
        obtain ⟨_, _, _, a, _, e, _⟩ := o
        subst e
        rfl
      | p i q =>
        rw [hs] at r
        obtain ⟨d0, g0, w0, a1, a2, a3, a4, a5, a6, a7, a8, a9⟩ := r
        have z := Pth.rd (a3.tt a9) a4
        cases hd : x.d <;> first | (rw [hd] at hx; cases hx; done) | skip
        rw [hd] at z
        unfold Rd at z
        exact z.elim
    rw [this]
    exact q
  · have r1 := rx.rd (Bool.eq_false_iff.mpr hx)
    cases hd : x.d <;> rw [hd] at r1 q hx <;> first
      | exact q.elim
      | (exact (hx rfl).elim)
      | (unfold Rd at r1; subst r1; exact q)
      | (unfold Rd at r1; obtain ⟨a, ws, e, _⟩ := r1; subst e; exact q)
end
end Vp
set_option Elab.async false
set_option linter.all false
set_option maxRecDepth 100000
set_option maxHeartbeats 400000
/-! Vp S5: items, slices, built-in functions, methods, new objects. -/
namespace Vp
open PySem Mp Cf
section
variable {hot : Bool} {n0 n1 nS : Nat} {ns : List Int} {p b b1 b2 : Nat} {F F' F1 F2 : FP} {h h' h1 h2 : Hq} {nc : Nat} {X : FP} {ρ : Mp.Env} {σ : Sv} {Ls : Nat → List Nat} {lo hi m : Nat} {v : Val} {w : W} {d : D} {Q : QV} {Xq : QX}
variable {x y : Val} {wx wy : W} {Γ : Gam}
theorem atI_of {α : Type} {xs : List α} {i : Int} {j : Nat} {y : α} (e : L2.ixN xs.length i = some j) (e2 : xs[j]? = some y) : L2.atI xs i = some y := by
  unfold L2.atI
  rw [e]
  exact e2
theorem vIx_ok (M : Mid hot nc nS X ns F h ρ σ Ls lo p) (rx : VR hot lo m F h ρ σ Ls x wx) (ry : VR hot m h.length F h ρ σ Ls y wy) (l2 : m ≤ h.length) (q : oQ (vIx x y) Q) :
    Go hot lo ns F h p 0 (ixV wx wy h) (PV hot lo ρ σ Ls Q) Xq := by
  cases e : vIx x y with
  | none => rw [e] at q; exact q.elim
  | some v =>
  rw [e] at q
  unfold vIx at e
  split at e
  · rename_i k ey
    rw [int_of ry ey]
    split at e
    · rename_i z ex
      rw [str_of rx ex]
      split at e
      · rename_i hz
        cases ea : L2.atI z.cps.toList k with
        | none => rw [ea] at e; cases e
        | some c =>
          rw [ea] at e
          cases e
          have : ixV (.str z) (.int k) h = ret (.str ⟨#[c]⟩) h := by
            unfold ixV
            dsimp only
            rw [if_pos hz, ea]
          rw [this]
          exact go_sc M.t M.f.fb rfl q rfl
      · cases e
    · rename_i xs ex
      obtain ⟨a, ws, ea, ha, hk, ra⟩ := rx.obj ex
      subst ea
      cases ei : L2.ixN xs.length k with
      | none => rw [ei] at e; cases e
      | some j =>
        rw [ei] at e
        cases ej : xs[j]? with
        | none => simp [ej] at e
        | some y' =>
          simp [ej] at e
          subst e
          obtain ⟨u, hu, ru⟩ := rx.kid M.f M.c ex rfl ha hk ej
          rw [← ra.len] at ei
          rw [ix_lst ha (atI_of ei hu)]
          exact .ret M.t M.f.fb ⟨_, q, ru.up (Nat.le_refl _) l2⟩
    · rename_i xs ex
      obtain ⟨a, ws, ea, ha, hk, ra⟩ := rx.obj ex
      subst ea
      cases ei : L2.ixN xs.length k with
      | none => rw [ei] at e; cases e
      | some j =>
        rw [ei] at e
        cases ej : xs[j]? with
        | none => simp [ej] at e
        | some y' =>
          simp [ej] at e
          subst e
          obtain ⟨u, hu, ru⟩ := rx.kid M.f M.c ex rfl ha hk ej
          rw [← ra.len] at ei
          rw [ix_tup ha (atI_of ei hu)]
          exact .ret M.t M.f.fb ⟨_, q, ru.up (Nat.le_refl _) l2⟩
    · cases e
  · cases e
theorem vCut_ok (M : Mid hot nc nS X ns F h ρ σ Ls lo p) (rx : VR hot lo h.length F h ρ σ Ls x wx) {a b : Option Int} (q : oQ (vCut x a b) Q) : Go hot lo ns F h p 0 (cutW wx a b h) (PV hot lo ρ σ Ls Q) Xq := by
  cases e : vCut x a b with
  | none => rw [e] at q; exact q.elim
  | some v =>
  rw [e] at q
  unfold vCut at e
  split at e
  · rename_i z ex
    rw [str_of rx ex]
    split at e
    · rename_i hz
      cases e
      rw [cut_str hz]
      exact go_sc M.t M.f.fb rfl q rfl
    · cases e
  · rename_i xs ex
    obtain ⟨i, ws, ea, ha, hk, ra⟩ := rx.obj ex
    subst ea
    cases ec : cpy x (cutL xs a b) with
    | none => rw [ec] at e; cases e
    | some c =>
      rw [ec] at e
      cases e
      obtain ⟨L, kd, ii⟩ := cpy_ok rx ex rfl ha hk _ _ ec
      have ew : cutW (.ref i) a b h = alloc (obOf .lst (cutL ws a b)) h := by
        unfold cutW
        dsimp only
        rw [ha]
        rfl
      rw [ew]
      have ecl : cutL ws a b = ((ws.drop (HT.sIx xs.length 0 a)).take (HT.sIx xs.length xs.length b - HT.sIx xs.length 0 a)) := by unfold cutL; rw [ra.len]
      rw [ecl]
      refine go_new (N := []) (L := L) (ts := []) M.t M.f.fb (Nat.le_refl _) M.c M.h M.ls ?_ (fun a ha => by cases ha) (by
        unfold Kids at kd ⊢
        split at kd
        · rename_i hc; rw [if_pos hc]; exact kd
        · rename_i hc; rw [if_neg hc]; exact ⟨kd.1.more fun _ => .inl, kd.2⟩) ⟨ii.1, fun a ha => ⟨fun z => z.elim (ii.2 a ha).1 fun z => (by cases z), (ii.2 a ha).2⟩⟩ (.inr rfl) q
      show ((ws.drop _).take _).length ≤ line
      have := hk.le
      rw [List.length_take, List.length_drop]
      omega
  · cases e
theorem tyD_ok {d : D} {w : W} {s : String} (r : Rd TT h d w) (e : tyD d = some s) : tyOf h w = some s := by
  cases d with
  | nd k xs =>
    unfold Rd at r
    obtain ⟨a, ws, ew, _, ha, _, rr⟩ := r
    subst ew
    unfold tyOf
    dsimp only
    rw [ha]
    cases k <;> first | (cases e; rfl) | cases e
  | _ => first | (cases e; done) | (unfold Rd at r; subst r; cases e; rfl)
theorem exc_of (rx : VR hot lo m F h ρ σ Ls x wx) {c : Nat} {d : D} (e : x.d = .exc c d) : isSc d = true ∧ ∃ a, wx = .ref a ∧ h[a]? = some (.exc c (scW d)) := by
  obtain ⟨_, r⟩ := rx
  cases hs : x.s with
  | t ts =>
    rw [hs] at r
    obtain ⟨L, o, _⟩ := r
    rw [e] at o
    obtain ⟨_, _, z, a, _, ew, ha⟩ := o
    exact ⟨z, a, ew, ha⟩
  | p i q =>
    rw [hs] at r
    obtain ⟨d0, g0, w0, a1, a2, a3, a4, a5, a6, a7, a8, a9⟩ := r
    have z := Pth.rd (a3.tt a9) a4
    rw [e] at z
    unfold Rd at z
    exact z.elim
theorem isi_ok (rx : VR hot lo m F h ρ σ Ls x wx) {lo' hi' : Nat} (ry : VR hot lo' hi' F h ρ σ Ls y wy) {r : Bool} (e : isiD Γ x.d y.d = some r) : isiV Γ h wx wy = some r := by
  have ty : ∀ (t : D) (wt : W), (∀ n, t = .ty n → wt = .ty n) → (∀ n, t = .cls n → wt = .cls n) → isiD Γ x.d t = some r → isiV Γ h wx wt = some r := by
    intro t wt h1 h2 e
    unfold isiD at e
    unfold isiV
    by_cases hx : isExc x.d = true
    · cases hd : x.d <;> first | (rw [hd] at hx; cases hx; done) | skip
      rename_i c dd
      obtain ⟨_, a, ew, ha⟩ := exc_of rx hd
      subst ew
      rw [hd] at e
      have t0 : tyOf h (.ref a) = none := by unfold tyOf; dsimp only; rw [ha]
      have c0 : clsOf h (.ref a) = some (true, c) := by unfold clsOf; dsimp only; rw [ha]
      rw [t0, c0]
      dsimp only [tyD, clsD] at e ⊢
      split at e
      · rename_i hc
        rw [if_pos hc]
        split at e
        · rename_i k; rw [h2 k rfl]; exact e
        · rename_i k; rw [h1 k rfl]; exact e
        · cases e
      · cases e
    · have r1 := rx.rd (Bool.eq_false_iff.mpr hx)
      cases et : tyD x.d with
      | some s =>
        rw [et] at e
        rw [tyD_ok r1 et]
        dsimp only at e ⊢
        split at e
        · rename_i k; rw [h1 k rfl]; exact e
        · cases e
      | none =>
        rw [et] at e
        dsimp only at e
        cases ec : clsD x.d with
        | none => rw [ec] at e; cases e
        | some ce =>
          obtain ⟨f, c⟩ := ce
          rw [ec] at e
          cases hd : x.d <;> rw [hd] at ec <;> first | (cases ec; done) | (rw [hd] at hx; exact (hx rfl).elim) | skip
          rename_i k xs
          cases k <;> first | (cases ec; done) | skip
          rename_i c' nsx
          cases ec
          rw [hd] at r1
          unfold Rd at r1
          obtain ⟨a, ws, ew, _, ha, _, rr⟩ := r1
          subst ew
          have t0 : tyOf h (.ref a) = none := by unfold tyOf; dsimp only; rw [ha]; rfl
          have c0 : clsOf h (.ref a) = some (false, c) := by unfold clsOf; dsimp only; rw [ha]; rfl
          rw [t0, c0]
          dsimp only at e ⊢
          split at e
          · rename_i hc
            rw [if_pos hc]
            split at e
            · rename_i k; rw [h2 k rfl]; exact e
            · rename_i k; rw [h1 k rfl]; exact e
            · cases e
          · cases e
  refine ty y.d wy (fun n en => ?_) (fun n en => ?_) e
  · have := ry.scal (by rw [en]; rfl); rw [en] at this; exact this
  · have := ry.scal (by rw [en]; rfl); rw [en] at this; exact this
theorem ints_ok : ∀ {xs : List D} {is : List Int}, intsD xs = some is → xs.all isSc = true ∧ xs.map scW = is.map .int
  | [], is, e => by cases e; exact ⟨rfl, rfl⟩
  | .int z :: r, is, e => by
    unfold intsD at e
    cases e2 : intsD r with
    | none => rw [e2] at e; cases e
    | some is' =>
      rw [e2] at e
      cases e
      obtain ⟨h1, h2⟩ := ints_ok e2
      exact ⟨by rw [List.all_cons, h1]; rfl, by rw [List.map_cons, h2]; rfl⟩
  | .non :: r, is, e => by cases e
  | .bl _ :: r, is, e => by cases e
  | .str _ :: r, is, e => by cases e
  | .ty _ :: r, is, e => by cases e
  | .cls _ :: r, is, e => by cases e
  | .sto :: r, is, e => by cases e
  | .hole :: r, is, e => by cases e
  | .exc _ _ :: r, is, e => by cases e
  | .nd _ _ :: r, is, e => by cases e
theorem strs_ok : ∀ {xs : List D} {is : List Str}, strsD xs = some is → xs.all isSc = true ∧ xs.map scW = is.map .str
  | [], is, e => by cases e; exact ⟨rfl, rfl⟩
  | .str z :: r, is, e => by
    unfold strsD at e
    cases e2 : strsD r with
    | none => rw [e2] at e; cases e
    | some is' =>
      rw [e2] at e
      cases e
      obtain ⟨h1, h2⟩ := strs_ok e2
      exact ⟨by rw [List.all_cons, h1]; rfl, by rw [List.map_cons, h2]; rfl⟩
  | .non :: r, is, e => by cases e
  | .bl _ :: r, is, e => by cases e
  | .int _ :: r, is, e => by cases e
  | .ty _ :: r, is, e => by cases e
  | .cls _ :: r, is, e => by cases e
  | .sto :: r, is, e => by cases e
  | .hole :: r, is, e => by cases e
  | .exc _ _ :: r, is, e => by cases e
  | .nd _ _ :: r, is, e => by cases e
theorem intsOf_map : ∀ is : List Int, intsOf (is.map .int) = some is
  | [] => rfl
  | i :: is => by
    show (intsOf (is.map .int)).map (i :: ·) = _
    rw [intsOf_map is]
    rfl
theorem strsOf_map : ∀ is : List Str, strsOf (is.map .str) = some is
  | [] => rfl
  | i :: is => by
    show (strsOf (is.map .str)).map (i :: ·) = _
    rw [strsOf_map is]
    rfl
/-- a new object of scalars -/
theorem go_scal {k : Kd} {xs : List D} {ws : List W} (M : Mid hot nc nS X ns F h ρ σ Ls lo p) (hs : xs.all isSc = true) (ew : ws = xs.map scW) (hk : kok k ws.length) (q : Q (nw (.nd k xs) .dp)) : Go hot lo ns F h p b (alloc (obOf k ws) h) (PV hot lo ρ σ Ls Q) Xq := by
  subst ew
  exact go_new (ts := []) (N := []) (L := []) (c := true) M.t M.f.fb (Nat.le_refl _) M.c M.h M.ls hk (fun a ha => by cases ha) (RoA.of_scal hs) In.none (.inr rfl) q
theorem go_cpy {k k' : Kd} {xs : List D} {c : Bool} (M : Mid hot nc nS X ns F h ρ σ Ls lo p) (rx : VR hot lo h.length F h ρ σ Ls x wx) (ex : x.d = .nd k xs) {a : Nat} {ws : List W} (ew : wx = .ref a) (ha : h[a]? = some (obOf k ws)) (hk : kok k ws.length) (hk' : kok k' ws.length) (ec : cpy x xs = some c) (q : Q (nw (.nd k' xs) (bF c))) :
    Go hot lo ns F h p b (alloc (obOf k' ws) h) (PV hot lo ρ σ Ls Q) Xq := by
  obtain ⟨L, kd, ii⟩ := cpy_all rx ex ew ha hk ec
  refine go_new (N := []) (L := L) (ts := []) M.t M.f.fb (Nat.le_refl _) M.c M.h M.ls hk' (fun a ha => by cases ha) (by
    unfold Kids at kd ⊢
    split at kd
    · rename_i hc; rw [if_pos hc]; exact kd
    · rename_i hc; rw [if_neg hc]; exact ⟨kd.1.more fun _ => .inl, kd.2⟩) ⟨ii.1, fun a ha => ⟨fun z => z.elim (ii.2 a ha).1 fun z => (by cases z), (ii.2 a ha).2⟩⟩ (.inr rfl) q
theorem vrl1 {vs : List Val} {ws : List W} {x : Val} (r : VRL hot F h ρ σ Ls lo hi [x] ws) : ∃ w, ws = [w] ∧ VR hot lo hi F h ρ σ Ls x w := by
  unfold VRL at r
  obtain ⟨u, us, m, e, l1, l2, r1, r⟩ := r
  unfold VRL at r
  subst r; subst e
  exact ⟨u, rfl, r1.up (Nat.le_refl _) l2⟩
theorem vrl2 {ws : List W} {x y : Val} (r : VRL hot F h ρ σ Ls lo hi [x, y] ws) : ∃ w u m, ws = [w, u] ∧ lo ≤ m ∧ m ≤ hi ∧ VR hot lo m F h ρ σ Ls x w ∧ VR hot m hi F h ρ σ Ls y u := by
  unfold VRL at r
  obtain ⟨u, us, m, e, l1, l2, r1, r⟩ := r
  obtain ⟨w, e2, r2⟩ := vrl1 (vs := []) r
  subst e2; subst e
  exact ⟨u, w, m, rfl, l1, l2, r1, r2⟩
theorem sortI_len : ∀ is : List Int, (sortI is).length = is.length
  | [] => rfl
  | i :: is => by
    have ins : ∀ (x : Int) (l : List Int), (insI x l).length = l.length + 1 := by
      intro x l
      induction l with
      | nil => rfl
      | cons y l ih =>
        unfold insI
        split
        · rfl
        · rw [List.length_cons, ih, List.length_cons]
    show (insI i (sortI is)).length = _
    rw [ins, sortI_len is]
    rfl
theorem all_int (is : List Int) : (is.map D.int).all isSc = true ∧ (is.map W.int) = (is.map D.int).map scW := by
  refine ⟨List.all_eq_true.mpr fun d hd => ?_, ?_⟩
  · obtain ⟨i, _, e⟩ := List.mem_map.mp hd
    subst e; rfl
  · rw [List.map_map]; rfl
theorem all_str_s (is : List Str) : (is.map D.str).all isSc = true ∧ (is.map W.str) = (is.map D.str).map scW := by
  refine ⟨List.all_eq_true.mpr fun d hd => ?_, ?_⟩
  · obtain ⟨i, _, e⟩ := List.mem_map.mp hd
    subst e; rfl
  · rw [List.map_map]; rfl
theorem all_rng (i j : Int) : (rngD i j).all isSc = true ∧ rngL i j = (rngD i j).map scW := by
  refine ⟨List.all_eq_true.mpr fun d hd => ?_, ?_⟩
  · unfold rngD at hd
    obtain ⟨k, _, e⟩ := List.mem_map.mp hd
    subst e; rfl
  · unfold rngD rngL; rw [List.map_map]; rfl
theorem vLrg_ok (M : Mid hot nc nS X ns F h ρ σ Ls lo p) {l1 l2 r1 r2 : Nat} (rx : VR hot l1 r1 F h ρ σ Ls x wx) (ry : VR hot l2 r2 F h ρ σ Ls y wy) (q : oQ (vLrg x y) Q) : Go hot lo ns F h p b (lrgV wx wy h) (PV hot lo ρ σ Ls Q) Xq := by
  unfold vLrg at q
  split at q
  · rename_i i j ex ey
    split at q
    · rename_i hc
      rw [int_of rx ex, int_of ry ey]
      have e : lrgV (.int i) (.int j) h = alloc (obOf .lst (rngL i j)) h := by
        unfold lrgV
        dsimp only
        rw [if_pos hc]
        rfl
      rw [e]
      refine go_scal M (all_rng i j).1 (all_rng i j).2 ?_ q
      show (rngL i j).length ≤ line
      unfold rngL
      rw [List.length_map, List.length_range]
      simp only [Bool.and_eq_true, decide_eq_true_eq] at hc
      exact hc.2
    · exact q.elim
  · exact q.elim
theorem vFn_ok (b' : Fn) (M : Mid hot nc nS X ns F h ρ σ Ls lo p) {vs : List Val} {ws : List W} (r : VRL hot F h ρ σ Ls lo h.length vs ws) (q : oQ (vFn Γ b' vs) Q) : Go hot lo ns F h p b (fnV Γ b' ws h) (PV hot lo ρ σ Ls Q) Xq := by
  cases e : vFn Γ b' vs with
  | none => rw [e] at q; exact q.elim
  | some v =>
  rw [e] at q
  unfold vFn at e
  split at e
  · rename_i x
    obtain ⟨w, ew, rx⟩ := vrl1 (vs := []) r
    subst ew
    split at e
    · rename_i z ex
      rw [str_of rx ex]
      split at e
      · rename_i hz
        cases e
        rw [len_str hz]
        exact go_sc M.t M.f.fb rfl q rfl
      · cases e
    · rename_i xs ex
      cases e
      obtain ⟨a, ws, ea, ha, hk, ra⟩ := rx.obj ex
      subst ea
      rw [len_lst ha, ra.len]
      exact go_sc M.t M.f.fb rfl q rfl
    · rename_i xs ex
      cases e
      obtain ⟨a, ws, ea, ha, hk, ra⟩ := rx.obj ex
      subst ea
      rw [len_tup ha, ra.len]
      exact go_sc M.t M.f.fb rfl q rfl
    · cases e
  · rename_i x
    obtain ⟨w, ew, rx⟩ := vrl1 (vs := []) r
    subst ew
    split at e
    · rename_i i ex
      cases e
      rw [int_of rx ex]
      exact go_sc M.t M.f.fb rfl q rfl
    · rename_i z ex
      rw [str_of rx ex]
      split at e
      · rename_i n en
        split at e
        · rename_i hz
          cases e
          have : fnV Γ .int [.str z] h = ret (.int n) h := by
            unfold fnV
            dsimp only
            rw [en]
            exact if_pos hz
          rw [this]
          exact go_sc M.t M.f.fb rfl q rfl
        · cases e
      · cases e
    · cases e
  · rename_i x
    obtain ⟨w, ew, rx⟩ := vrl1 (vs := []) r
    subst ew
    split at e
    · rename_i i ex
      cases e
      rw [int_of rx ex]
      exact go_sc M.t M.f.fb rfl q rfl
    · cases e
  · rename_i x y
    obtain ⟨w, u, m, ew, l1, l2, rx, ry⟩ := vrl2 r
    subst ew
    split at e
    · rename_i i j ex ey
      cases e
      rw [int_of rx ex, int_of ry ey]
      exact go_sc M.t M.f.fb rfl q rfl
    · cases e
  · rename_i x y
    obtain ⟨w, u, m, ew, l1, l2, rx, ry⟩ := vrl2 r
    subst ew
    split at e
    · rename_i i j ex ey
      cases e
      rw [int_of rx ex, int_of ry ey]
      exact go_sc M.t M.f.fb rfl q rfl
    · cases e
  · rename_i x
    obtain ⟨w, ew, rx⟩ := vrl1 (vs := []) r
    subst ew
    split at e
    · rename_i i ex
      split at e
      · rename_i hz
        cases e
        rw [int_of rx ex]
        have : fnV Γ .str [.int i] h = ret (.str (toString i)) h := if_pos hz
        rw [this]
        exact go_sc M.t M.f.fb rfl q rfl
      · cases e
    · rename_i z ex
      cases e
      rw [str_of rx ex]
      exact go_sc M.t M.f.fb rfl q rfl
    · cases e
  · rename_i x
    obtain ⟨w, ew, rx⟩ := vrl1 (vs := []) r
    subst ew
    cases ex : x.d with
    | nd k xs =>
      rw [ex] at e
      cases k with
      | lst =>
        change (intsD xs).map _ = _ at e
        cases ei : intsD xs with
        | none => rw [ei] at e; cases e
        | some is =>
          rw [ei] at e
          cases e
          obtain ⟨a, ws, ea, ha, hk, ra⟩ := rx.obj ex
          subst ea
          obtain ⟨s1, s2⟩ := ints_ok ei
          have ew := RdA.scal s1 ra
          rw [s2] at ew
          subst ew
          have : fnV Γ .sorted [.ref a] h = alloc (obOf .lst ((sortI is).map .int)) h := by
            unfold fnV
            dsimp only
            have : (lstOf h (.ref a)).bind intsOf = some is := by
              unfold lstOf
              dsimp only
              rw [ha]
              exact intsOf_map is
            rw [this]
            rfl
          rw [this]
          refine go_scal M (all_int _).1 (all_int _).2 ?_ q
          have := hk.le
          show ((sortI is).map W.int).length ≤ line
          rw [List.length_map] at this ⊢
          rw [sortI_len]
          exact this
      | _ => cases e
    | _ => rw [ex] at e; cases e
  · rename_i x
    obtain ⟨w, ew, rx⟩ := vrl1 (vs := []) r
    subst ew
    split at e
    · rename_i xs ex
      cases ec : cpy x xs with
      | none => rw [ec] at e; cases e
      | some c =>
        rw [ec] at e
        cases e
        obtain ⟨a, ws, ea, ha, hk, ra⟩ := rx.obj ex
        subst ea
        have : fnV Γ .list [.ref a] h = alloc (obOf .lst ws) h := by
          unfold fnV
          dsimp only
          rw [ha]
          rfl
        rw [this]
        exact go_cpy M rx ex rfl ha hk hk ec q
    · rename_i xs ex
      cases ec : cpy x xs with
      | none => rw [ec] at e; cases e
      | some c =>
        rw [ec] at e
        cases e
        obtain ⟨a, ws, ea, ha, hk, ra⟩ := rx.obj ex
        subst ea
        have : fnV Γ .list [.ref a] h = alloc (obOf .lst ws) h := by
          unfold fnV
          dsimp only
          rw [ha]
          rfl
        rw [this]
        exact go_cpy M rx ex rfl ha hk hk ec q
    · cases e
  · rename_i x y
    obtain ⟨w, u, m, ew, l1, l2, rx, ry⟩ := vrl2 r
    subst ew
    cases ei : isiD Γ x.d y.d with
    | none => rw [ei] at e; cases e
    | some c =>
      rw [ei] at e
      cases e
      have : fnV Γ .isi [w, u] h = ret (.bl c) h := by
        show optB (isiV Γ h w u) h = _
        rw [isi_ok rx ry ei]
        rfl
      rw [this]
      exact go_sc M.t M.f.fb rfl q rfl
  · cases e
theorem split_len (z b : Str) : (Txt.split z b).length ≤ z.length + 2 := by
  unfold Txt.split
  split
  · simp
  · split
    · simp
    · rw [PyProof.Rows.len_partsBetween]
      have := PySem.StrLaws.occ_length_le z b 0 z.length (z.length + 1)
      omega
theorem pre_str (mm : Mt) (z : Str) (h1 : mm ≠ .append) (h2 : mm ≠ .pop) : mthPre mm (.str z) h = true := by cases mm <;> first | rfl | exact (h1 rfl).elim | exact (h2 rfl).elim
theorem vMth_ok (mm : Mt) (M : Mid hot nc nS X ns F h ρ σ Ls lo p) (rx : VR hot lo m F h ρ σ Ls x wx) {vs : List Val} {ws : List W} (r : VRL hot F h ρ σ Ls m h.length vs ws) (q : oQ (vMth mm x vs) Q) : Go hot lo ns F h p b (mthV mm wx ws h) (PV hot lo ρ σ Ls Q) Xq := by
  cases e : vMth mm x vs with
  | none => rw [e] at q; exact q.elim
  | some v =>
  rw [e] at q
  unfold vMth at e
  split at e
  · rename_i z ex
    have ew : ws = [] := by unfold VRL at r; exact r
    subst ew
    rw [str_of rx ex]
    split at e
    · rename_i hz
      cases e
      rw [upper_ok hz]
      exact go_sc M.t M.f.fb rfl q rfl
    · cases e
  · rename_i z y ex
    obtain ⟨w, ew, ry⟩ := vrl1 (vs := []) r
    subst ew
    rw [str_of rx ex]
    split at e
    · rename_i b' ey
      rw [str_of ry ey]
      split at e
      · rename_i hz
        cases e
        have : mthV .split (.str z) [.str b'] h = alloc (obOf .lst ((Txt.split z b').map .str)) h := if_pos hz
        rw [this]
        refine go_scal M (all_str_s _).1 (all_str_s _).2 ?_ q
        show ((Txt.split z b').map W.str).length ≤ line
        rw [List.length_map]
        exact Nat.le_trans (split_len z b') hz.2
      · cases e
    · cases e
  · rename_i z y ex
    obtain ⟨w, ew, ry⟩ := vrl1 (vs := []) r
    subst ew
    rw [str_of rx ex]
    split at e
    · rename_i ys ey
      split at e
      · rename_i hz
        cases e
        have : (seqOf h w).bind strsOf = some ys := by
          have fin : ∀ (k : Kd) (xs : List D), (k = .lst ∨ k = .tup) → y.d = .nd k xs → strsD xs = some ys → (seqOf h w).bind strsOf = some ys := by
            intro k xs hk ed es
            obtain ⟨a, ws, ea, ha, _, ra⟩ := ry.obj ed
            subst ea
            obtain ⟨s1, s2⟩ := strs_ok es
            have ew := RdA.scal s1 ra
            rw [s2] at ew
            subst ew
            have : seqOf h (.ref a) = some (ys.map .str) := by
              unfold seqOf lstOf tupOf
              dsimp only
              rw [ha]
              rcases hk with hk | hk <;> subst hk <;> rfl
            rw [this]
            exact strsOf_map ys
          cases ed : y.d with
          | nd k xs =>
            rw [ed] at ey
            cases k with
            | lst => exact fin .lst xs (.inl rfl) ed ey
            | tup => exact fin .tup xs (.inr rfl) ed ey
            | _ => cases ey
          | _ => rw [ed] at ey; cases ey
        have : mthV .join (.str z) [w] h = ret (.str (Txt.join z ys)) h := by
          unfold mthV
          dsimp only
          rw [this]
          exact if_pos hz
        rw [this]
        exact go_sc M.t M.f.fb rfl q rfl
      · cases e
    · cases e
  · rename_i z ex
    have ew : ws = [] := by unfold VRL at r; exact r
    subst ew
    rw [str_of rx ex]
    split at e
    · rename_i hz
      cases e
      have : mthV .strip (.str z) [] h = ret (.str (Txt.strip z)) h := if_pos hz
      rw [this]
      exact go_sc M.t M.f.fb rfl q rfl
    · cases e
  · rename_i z y ex
    obtain ⟨w, ew, ry⟩ := vrl1 (vs := []) r
    subst ew
    rw [str_of rx ex]
    split at e
    · rename_i b' ey
      cases e
      rw [str_of ry ey]
      exact go_sc M.t M.f.fb rfl q rfl
    · cases e
  · rename_i z y ex
    obtain ⟨w, ew, ry⟩ := vrl1 (vs := []) r
    subst ew
    rw [str_of rx ex]
    split at e
    · rename_i b' ey
      cases e
      rw [str_of ry ey]
      exact go_sc M.t M.f.fb rfl q rfl
    · cases e
  · cases e
theorem vMth_pre (mm : Mt) (rx : VR hot lo m F h ρ σ Ls x wx) {vs : List Val} (q : oQ (vMth mm x vs) Q) (h2 : Hq) : mthPre mm wx h2 = true := by
  cases e : vMth mm x vs with
  | none => rw [e] at q; exact q.elim
  | some v =>
  unfold vMth at e
  split at e
  · rename_i z ex; rw [str_of rx ex]; rfl
  · rename_i z y ex; rw [str_of rx ex]; rfl
  · rename_i z y ex; rw [str_of rx ex]; rfl
  · rename_i z ex; rw [str_of rx ex]; rfl
  · rename_i z y ex; rw [str_of rx ex]; rfl
  · rename_i z y ex; rw [str_of rx ex]; rfl
  · cases e
theorem vAttr_ok {f : PySem.Str} (M : Mid hot nc nS X ns F h ρ σ Ls lo p) (rx : VR hot lo m F h ρ σ Ls x wx) (q : oQ (vAttr Γ x) Q) : Go hot lo ns F h p b (attrV Γ f wx h) (PV hot lo ρ σ Ls Q) Xq := by
  unfold vAttr at q
  split at q
  · rename_i c d ex
    split at q
    · rename_i hc
      obtain ⟨_, a, ew, ha⟩ := exc_of rx ex
      subst ew
      have : attrV Γ f (.ref a) h = ret (scW d) h := by
        unfold attrV
        dsimp only
        rw [ha]
        exact if_pos hc.1
      rw [this]
      exact go_sc M.t M.f.fb hc.2 q rfl
    · exact q.elim
  · exact q.elim
/-- a display -/
theorem mk_ok (k : Kd) (hkk : ∀ n, n ≤ line → kok k n) (M : Mid hot nc nS X ns F h ρ σ Ls lo p) {vs : List Val} {ws : List W} (r : VRL hot F h ρ σ Ls lo h.length vs ws) (hl : vs.length ≤ line) (q : oQ (mk k vs) Q) : Go hot lo ns F h p b (alloc (obOf k ws) h) (PV hot lo ρ σ Ls Q) Xq := by
  have hk : kok k ws.length := hkk _ (by rw [r.len]; exact hl)
  cases e : mk k vs with
  | none => rw [e] at q; exact q.elim
  | some v =>
  rw [e] at q
  unfold mk at e
  split at e
  · rename_i ts es
    split at e
    · rename_i nd
      cases e
      obtain ⟨L, ro, ii⟩ := stL_dp M.f M.l r es nd
      exact go_new (N := []) (L := L) (c := true) M.t M.f.fb (Nat.le_refl _) M.c M.h M.ls hk (fun a ha => by cases ha) ro ⟨ii.1, fun a ha => ⟨fun z => z.elim (ii.2 a ha).1 fun z => (by cases z), (ii.2 a ha).2⟩⟩ (.inl rfl) q
    · cases e
  · rename_i es
    cases e
    obtain ⟨L, ra, ii⟩ := stL_fr M.f r es
    exact go_new (N := L) (L := []) (ts := []) (c := false) M.t M.f.fb (Nat.le_refl _) M.c M.h M.ls hk (fun a ha => (ii a ha).2) ⟨ra, rfl⟩ In.none (.inr rfl) q
  · cases e
end
end Vp
set_option Elab.async false
set_option linter.all false
set_option maxRecDepth 100000
set_option maxHeartbeats 400000
/-! Vp S6: bounds on draws; calls; two parts one behind the other. -/
namespace Vp
open PySem Mp Cf
abbrev LB : Nat := 2147483648
def Mx : Nat := (10 ^ 50) ^ 10
mutual
def bE (bt : Nat → Nat) : E → Nat
  | .var _ => 0 | .cst _ => 0 | .glob _ => 0 | .ty _ => 0 | .cls _ => 0
  | .bin _ a b => bE bt a + bE bt b
  | .neg a => bE bt a
  | .cmp _ a b => bE bt a + bE bt b
  | .isN _ a => bE bt a
  | .chn _ _ a b c => bE bt a + (bE bt b + bE bt c)
  | .not a => bE bt a
  | .and a b => bE bt a + bE bt b
  | .or a b => bE bt a + bE bt b
  | .ite c a b => bE bt c + (bE bt a + bE bt b)
  | .call f es => bEs bt es + bt f
  | .fn _ es => bEs bt es
  | .mth _ o es => bE bt o + bEs bt es
  | .attr _ o => bE bt o
  | .lrg a => bE bt a
  | .lrg2 a b => bE bt a + bE bt b
  | .ix a i => bE bt a + bE bt i
  | .cut a lo hi => bE bt a + (bO bt lo + bO bt hi)
  | .tup es => bEs bt es
  | .lst es => bEs bt es
  | .comp _ s c el => bS0 bt s + LB * (bO bt c + bE bt el)
def bEs (bt : Nat → Nat) : Es → Nat
  | .nil => 0
  | .cons e es => bE bt e + bEs bt es
def bO (bt : Nat → Nat) : Op → Nat
  | .no => 0
  | .yes e => bE bt e
def bS0 (bt : Nat → Nat) : Mp.Src → Nat
  | .any e => bE bt e
  | .rng e => bE bt e
  | .rng2 a b => bE bt a + bE bt b
end
/-- arguments -/
def AL (hot : Bool) (F : FP) (h : Hq) : List D → List W → Prop
  | [], ws => ws = []
  | d :: ds, ws => ∃ u us, ws = u :: us ∧ (isExc d = true → hot = true) ∧ Own F h .fr d u [] ∧ AL hot F h ds us
/-- the defs keep what the plain run says -/
def ClOk (ns : List Int) (bt : Nat → Nat) (k : Calls) (kv : Cl) : Prop := ∀ hot f ds K h us F p, kv hot f ds K → AL hot F h ds us → Sto ns h p → p + bt f ≤ Mx → FB F h →
  Go hot h.length ns F h p (bt f) (k f us h) (fun F' h' w => ∃ d g L, K (.ok d g) ∧ Own F' h' g d w L ∧ isExc d = false ∧ L.Nodup ∧ ∀ a ∈ L, ¬ F' a ∧ h.length ≤ a ∧ a < h'.length) (fun c d => K (.exc c d))
section
variable {hot : Bool} {n0 n1 nS : Nat} {ns : List Int} {p b b1 b2 : Nat} {F F' F1 F2 : FP} {h h' h1 h2 : Hq} {nc : Nat} {X : FP} {ρ : Mp.Env} {σ : Sv} {Ls : Nat → List Nat} {lo hi m : Nat} {v : Val} {w : W} {d : D} {Q : QV} {Xq : QX}
variable {x y : Val} {wx wy : W} {Γ : Gam} {k : Calls} {kv : Cl} {bt : Nat → Nat} {β : Type}
theorem Mid.next {p1 : Nat} (M : Mid hot nc nS X ns F h ρ σ Ls lo p) (s : Step hot n0 F F1 h h1) (l : nS ≤ n0) (t : Sto ns h1 p1) (fb : FB F1 h1) : Mid hot nc nS X ns F1 h1 ρ σ Ls h1.length p1 :=
  ⟨M.f.step s l fb, t, Nat.le_trans M.l (Nat.le_trans M.h s.le), Nat.le_trans M.c (Nat.le_trans M.h s.le), Nat.le_refl _⟩
theorem Mid.at {p1 : Nat} (M : Mid hot nc nS X ns F h ρ σ Ls lo p) (s : Step hot n0 F F1 h h1) (l : nS ≤ n0) (t : Sto ns h1 p1) (fb : FB F1 h1) : Mid hot nc nS X ns F1 h1 ρ σ Ls lo p1 :=
  ⟨M.f.step s l fb, t, M.l, M.c, Nat.le_trans M.h s.le⟩
theorem Go.one {ra : M W} {P : FP → Hq → β → Prop} {f : W → Hq → M β} (M : Mid hot nc nS X ns F h ρ σ Ls h.length p) (ga : Go hot h.length ns F h p b1 ra (PV hot h.length ρ σ Ls Q) Xq)
    (op : ∀ F2 h2 p2 v w, Q v → Mid hot nc nS X ns F2 h2 ρ σ Ls h.length p2 → p2 ≤ p + b1 → VR hot h.length h2.length F2 h2 ρ σ Ls v w → Go hot h.length ns F2 h2 p2 b2 (f w h2) P Xq) : Go hot h.length ns F h p (b1 + b2) (Mp.bnd ra f) P Xq :=
  ga.bnd fun F1 h1 p1 w s t pb fb ⟨v, q, r⟩ => op F1 h1 p1 v w q (M.at s M.l t fb) pb r
theorem Go.two {ra : M W} {rb : Hq → M W} {P : FP → Hq → β → Prop} {f : W → W → Hq → M β} {Qa : QV} {Qb : Val → QV} (M : Mid hot nc nS X ns F h ρ σ Ls h.length p) (hb : p + (b1 + b2) ≤ Mx)
    (ga : Go hot h.length ns F h p b1 ra (PV hot h.length ρ σ Ls Qa) Xq)
    (gb : ∀ F1 h1 p1 v, Qa v → Mid hot nc nS X ns F1 h1 ρ σ Ls h1.length p1 → p1 + b2 ≤ Mx → Go hot h1.length ns F1 h1 p1 b2 (rb h1) (PV hot h1.length ρ σ Ls (Qb v)) Xq)
    (op : ∀ F2 h2 p2 m v wv u wu, Qb v u → Mid hot nc nS X ns F2 h2 ρ σ Ls h.length p2 → h.length ≤ m → m ≤ h2.length → VR hot h.length m F2 h2 ρ σ Ls v wv → VR hot m h2.length F2 h2 ρ σ Ls u wu → Go hot h.length ns F2 h2 p2 0 (f wv wu h2) P Xq) :
    Go hot h.length ns F h p (b1 + b2) (Mp.bnd ra fun x h => Mp.bnd (rb h) (f x)) P Xq := by
  refine ga.bnd fun F1 h1 p1 w s t pb fb ⟨v, q, r⟩ => ?_
  have M1 := M.next s M.l t fb
  obtain ⟨e2, h2, p2, F2, q1, s2, t2, pb2, fb2, z⟩ := gb F1 h1 p1 v q M1 (by omega)
  cases e2 with
  | exc c w => exact ⟨.exc c w, h2, p2, F2, by rw [q1]; rfl, s2.low s.le, t2, pb2, fb2, z⟩
  | ok u =>
    obtain ⟨v2, q2, r2⟩ := z
    have M2 := M.at (s.trans (s2.low s.le)) M.l t2 fb2
    have := op F2 h2 p2 h1.length v w v2 u q2 M2 s.le s2.le (r.step M1.f s2 M1.l (Nat.le_refl _) M.c) r2
    obtain ⟨e3, h3, p3, F3, q3, s3, t3, pb3, fb3, z3⟩ := this
    exact ⟨e3, h3, p3, F3, by rw [q1]; exact q3, (s2.low s.le).trans s3, t3, by omega, fb3, z3⟩
/-- arguments as they stand in the heap -/
theorem vr_arg (f : Fm hot nc nS X F h ρ σ Ls) (r : VR hot lo hi F h ρ σ Ls v w) (c4 : 4 ≤ lo) (bh : hi ≤ h.length) : ∃ N : List Nat, ((isExc v.d = true → hot = true) ∧ Own (fun a => F a ∨ a ∈ N) h .fr v.d w []) ∧ (∀ a ∈ N, a < h.length ∧ a ≠ 3) ∧ ((match v.s with | .p _ _ => true | .t ts => !ts.isEmpty) = false → ∀ a ∈ N, lo ≤ a) := by
  obtain ⟨r0, r⟩ := r
  have rr := r
  cases hs : v.s with
  | t ts =>
    rw [hs] at r
    obtain ⟨L, o, nd, kk⟩ := r
    refine ⟨L, ⟨r0, ?_⟩, fun a ha => ?_, fun e a ha => ?_⟩
    · by_cases ed : isExc v.d = true
      · cases hd : v.d <;> first | (rw [hd] at ed; cases ed; done) | skip
        rw [hd] at o
        obtain ⟨_, _, c⟩ := o
        exact ⟨rfl, rfl, c⟩
      · exact .fr (o.re (Bool.eq_false_iff.mpr ed))
    · rcases (kk a ha).2 with z | ⟨i, _, z⟩
      · exact ⟨by omega, by omega⟩
      · have := f.ok i a z; have := f.le; exact ⟨by omega, by omega⟩
    · rcases (kk a ha).2 with z | ⟨i, hi', z⟩
      · exact z.1
      · cases ts with
        | nil => cases hi'
        | cons _ _ => cases e
  | p i q =>
    rw [hs] at r
    obtain ⟨d0, g0, w0, a1, a2, a3, a4, a5, a6, a7, a8, a9⟩ := r
    refine ⟨Ls i, ⟨r0, .fr (Pth.rd (a3.re a9) a4)⟩, fun a ha => ?_, fun e => by cases e⟩
    have := f.ok i a ha; have := f.le; exact ⟨by omega, by omega⟩
theorem vrl_args (f : Fm hot nc nS X F h ρ σ Ls) : ∀ {vs : List Val} {lo : Nat} {ws : List W}, VRL hot F h ρ σ Ls lo hi vs ws → 4 ≤ lo → hi ≤ h.length → ∃ N : List Nat, AL hot (fun a => F a ∨ a ∈ N) h (vs.map (·.d)) ws ∧ (∀ a ∈ N, a < h.length ∧ a ≠ 3) ∧ (brw vs = false → ∀ a ∈ N, lo ≤ a)
  | [], lo, ws, r, _, _ => by
    unfold VRL at r
    subst r
    exact ⟨[], by unfold AL; rfl, fun a ha => (by cases ha), fun _ a ha => (by cases ha)⟩
  | v :: vs, lo, ws, r, c4, bh => by
    unfold VRL at r
    obtain ⟨u, us, m, ew, l1, l2, r1, r⟩ := r
    obtain ⟨N1, o1, k1, j1⟩ := vr_arg f r1 c4 (Nat.le_trans l2 bh)
    obtain ⟨N2, o2, k2, j2⟩ := vrl_args f r (Nat.le_trans c4 l1) bh
    have up : ∀ {ds : List D} {ws : List W}, AL hot (fun a => F a ∨ a ∈ N2) h ds ws → AL hot (fun a => F a ∨ a ∈ N1 ++ N2) h ds ws := by
      intro ds
      induction ds with
      | nil => intro ws r; unfold AL at r ⊢; exact r
      | cons d ds ih =>
        intro ws r
        unfold AL at r ⊢
        obtain ⟨u, us, e, r1, r2, r3⟩ := r
        exact ⟨u, us, e, r1, r2.keep (fun a z => z.imp id (List.mem_append_right _)) (fun _ _ _ h _ => h) (fun _ _ _ _ _ h => h), ih r3⟩
    refine ⟨N1 ++ N2, ?_, fun a ha => (List.mem_append.mp ha).elim (k1 a) (k2 a), fun e a ha => ?_⟩
    · show AL hot _ h (v.d :: vs.map (·.d)) ws
      unfold AL
      exact ⟨u, us, ew, o1.1, o1.2.keep (fun a z => z.imp id (List.mem_append_left _)) (fun _ _ _ h _ => h) (fun _ _ _ _ _ h => h), up o2⟩
    · unfold brw at e
      rw [List.any_cons, Bool.or_eq_false_iff] at e
      rcases List.mem_append.mp ha with z | z
      · exact j1 e.1 a z
      · exact Nat.le_trans l1 (j2 e.2 a z)
/-- a call -/
theorem call_ok (C : ClOk ns bt k kv) {f : Nat} (M : Mid hot nc nS X ns F h ρ σ Ls lo p) {vs : List Val} {ws : List W} (r : VRL hot F h ρ σ Ls lo h.length vs ws) (hb : p + bt f ≤ Mx) (q : kCall kv hot f Q Xq vs) :
    Go hot lo ns F h p (bt f) (k f ws h) (PV hot lo ρ σ Ls Q) Xq := by
  obtain ⟨N, al, k1, k2⟩ := vrl_args M.f r M.c (Nat.le_refl _)
  have z := C hot f _ _ h ws (fun a => F a ∨ a ∈ N) p q al M.t hb (M.f.fb.freeze k1)
  obtain ⟨e, h1, p1, F1, e1, s, t, pb, fb, z⟩ := z
  have sF : Step hot lo F F h h1 := ⟨s.le, s.keep, fun _ z => z, fun _ z => .inl z⟩
  have fbF : FB F h1 := fun a ha => ⟨Nat.lt_of_lt_of_le (M.f.fb a ha).1 s.le, (M.f.fb a ha).2⟩
  cases e with
  | exc c w =>
    obtain ⟨d, q, hd, ew⟩ := z
    exact ⟨.exc c w, h1, p1, F, e1, sF, t, pb, fbF, d, q, hd, ew⟩
  | ok w =>
    obtain ⟨d, g, L, q, o, ed, nd, kk⟩ := z
    unfold resQ at q
    dsimp only at q
    split at q
    · rename_i hd
      exact ⟨.ok w, h1, p1, F, e1, sF, t, pb, fbF, _, q, by rw [(Rd_sc hd).mp (o.tt ed)]; exact VR_sc hd⟩
    · have rest : g ≠ .dp → brw vs = false ∧ Q (nw d g) → Go hot lo ns F h p (bt f) (k f ws h) (PV hot lo ρ σ Ls Q) Xq := by
        rintro _ ⟨hb, q⟩
        refine ⟨.ok w, h1, p1, F1, e1, ⟨s.le, s.keep, fun a z => s.sub a (.inl z), fun a z => ?_⟩, t, pb, fb, _, q, VR_nw o ed nd fun a ha => ⟨(kk a ha).1, Nat.le_trans M.h (kk a ha).2.1, (kk a ha).2.2⟩⟩
        rcases s.new a z with (z | z) | z
        · exact .inl z
        · exact .inr ⟨k2 hb a z, Nat.lt_of_lt_of_le (k1 a z).1 s.le⟩
        · exact .inr ⟨Nat.le_trans M.h z.1, z.2⟩
      cases g with
      | dp =>
        refine ⟨.ok w, h1, p1, F, e1, sF, t, pb, fbF, _, q, VR_nw (.dp o.dp') ed nd fun a ha => ⟨fun z => ?_, Nat.le_trans M.h (kk a ha).2.1, (kk a ha).2.2⟩⟩
        have := (M.f.fb a z).1
        have := (kk a ha).2.1
        omega
      | fr => exact rest (by intro z; cases z) q
      | rt => exact rest (by intro z; cases z) q
end
end Vp
set_option Elab.async false
set_option linter.all false
set_option maxRecDepth 100000
set_option maxHeartbeats 400000
/-! Vp S7: slots are set; walks; comprehensions. -/
namespace Vp
open PySem Mp Cf
section
variable {hot : Bool} {n0 n1 nS : Nat} {ns : List Int} {p b b1 b2 : Nat} {F F' F1 F2 : FP} {h h' h1 h2 : Hq} {nc : Nat} {X : FP} {ρ : Mp.Env} {σ : Sv} {Ls : Nat → List Nat} {lo hi m : Nat} {v : Val} {w : W} {d : D} {Q : QV} {Xq : QX}
variable {x y : Val} {wx wy : W} {Γ : Gam} {k : Calls} {kv : Cl} {bt : Nat → Nat} {β : Type}
/-- a slot's new list -/
def upL (Ls : Nat → List Nat) (i : Nat) (L : List Nat) : Nat → List Nat := fun j => if j = i then L else Ls j
theorem set_get {α : Type} {l : List α} {i j : Nat} {y z : α} (e : (l.set i y)[j]? = some z) : (j = i ∧ z = y) ∨ (j ≠ i ∧ l[j]? = some z) := by
  rw [List.getElem?_set] at e
  split at e
  · rename_i q
    split at e
    · exact .inl ⟨q.symm, (Option.some.inj e).symm⟩
    · cases e
  · rename_i q
    exact .inr ⟨fun z => q z.symm, e⟩
theorem noX_set {σ : Sv} {i : Nat} {s : Sl} (a : noX σ = true) (b : (match s with | some (.exc _ _, _) => false | _ => true) = true) : noX (σ.set i s) = true := by
  unfold noX at *
  rw [List.all_eq_true] at *
  intro t ht
  rcases List.mem_or_eq_of_mem_set ht with z | z
  · exact a t z
  · rw [z]; exact b
theorem Fm.put {nS' : Nat} (f : Fm hot nc nS X F h ρ σ Ls) {i : Nat} {g : Fg} {L : List Nat} (l : nS ≤ nS') (l' : nS' ≤ h.length) (o : Own F h g d w L) (hx : isExc d = true → hot = true) (nd : L.Nodup) (k : ∀ a ∈ L, ¬ F a ∧ a < nS' ∧ 4 ≤ a ∧ (nc ≤ a ∨ X a)) (dj : ∀ a ∈ L, ∀ j, j ≠ i → a ∉ Ls j) :
    Fm hot nc nS' X F h (ρ.set i (some w)) (σ.set i (some (d, g))) (upL Ls i L) where
  len := by rw [List.length_set, List.length_set]; exact f.len
  sl := fun j d' g' e => by
    rcases set_get e with ⟨rfl, z⟩ | ⟨hj, z⟩
    · have hl : j < ρ.length := by
        rw [← f.len]
        have := (List.getElem?_eq_some_iff.mp e).1
        rwa [List.length_set] at this
      cases z
      refine ⟨w, List.getElem?_set_self hl, ?_⟩
      unfold upL
      rw [if_pos rfl]
      exact o
    · obtain ⟨w', e1, o'⟩ := f.sl j d' g' z
      refine ⟨w', by rw [List.getElem?_set_ne (Ne.symm hj)]; exact e1, ?_⟩
      unfold upL
      rw [if_neg hj]
      exact o'
  nd := fun j => by unfold upL; split; exact nd; exact f.nd j
  dj := fun i1 j1 a h1 h2 => by
    unfold upL at h1 h2
    split at h1 <;> split at h2
    · rename_i e1 e2; rw [e1, e2]
    · rename_i e1 e2; exact (dj a h1 j1 e2 h2).elim
    · rename_i e1 e2; exact (dj a h2 i1 e1 h1).elim
    · exact f.dj i1 j1 a h1 h2
  ok := fun j a ha => by
    unfold upL at ha
    split at ha
    · exact k a ha
    · have := f.ok j a ha; exact ⟨this.1, Nat.lt_of_lt_of_le this.2.1 l, this.2.2⟩
  le := l'
  fb := f.fb
  xs := fun hh => noX_set (f.xs hh) (by
    cases d with
    | exc c x => rw [hx rfl] at hh; cases hh
    | _ => rfl)
theorem Fm.frs (f : Fm hot nc nS X F h ρ σ Ls) {i : Nat} (r : Rd F h d w) : Fm hot nc nS X F h (ρ.set i (some w)) (σ.set i (some (d, .fr))) (upL Ls i []) :=
  f.put (Nat.le_refl _) f.le (.fr r) (fun e => by cases d <;> first | (cases e; done) | (unfold Rd at r; exact r.elim)) List.nodup_nil (fun a ha => by cases ha) (fun a ha => by cases ha)
theorem Fm.up {nS' : Nat} (f : Fm hot nc nS X F h ρ σ Ls) (l : nS ≤ nS') (l' : nS' ≤ h.length) : Fm hot nc nS' X F h ρ σ Ls :=
  ⟨f.len, f.sl, f.nd, f.dj, fun j a ha => ⟨(f.ok j a ha).1, Nat.lt_of_lt_of_le (f.ok j a ha).2.1 l, (f.ok j a ha).2.2⟩, l', f.fb, f.xs⟩
/-- what a loop walks over stays -/
def Pin (g : Option (Nat × Ob)) (h : Hq) : Prop := ∀ h', (∀ a o, a ≠ 3 → h[a]? = some o → isX o = false → h'[a]? = some o) → stays g h' = true
theorem pin_none : Pin none h := fun _ _ => rfl
theorem pin_at {a : Nat} {k : Kd} {ws : List W} (a3 : a ≠ 3) (ha : h[a]? = some (obOf k ws)) : Pin (some (a, obOf k ws)) h := fun h' kk => stays_at (kk a _ a3 ha (isX_ob _ _))
theorem VR.ne3 (r : VR hot lo hi F h ρ σ Ls v w) (f : Fm hot nc nS X F h ρ σ Ls) (c4 : 4 ≤ lo) {k : Kd} {xs : List D} (e : v.d = .nd k xs) {a : Nat} (ew : w = .ref a) : a ≠ 3 := by
  obtain ⟨_, r⟩ := r
  have gen : ∀ (g : Fg) (d0 : D) (L : List Nat), Own F h g d0 (.ref a) L → d0 = .nd k xs → (∀ a ∈ L, a ≠ 3) → a ≠ 3 := by
    intro g d0 L o e0 l
    subst e0
    cases g with
    | fr =>
      have z := (o.fr' rfl).2
      unfold Rd at z
      obtain ⟨b, _, eb, fb, _⟩ := z
      injection eb with eb
      subst eb
      exact (f.fb a fb).2
    | rt =>
      obtain ⟨b, _, _, _, _, e2, e3, _⟩ := o.rt'
      injection e2 with e2
      subst e2; subst e3
      exact l a List.mem_cons_self
    | dp =>
      have z := o.dp'
      unfold Ro at z
      obtain ⟨b, _, _, eb, eL, _⟩ := z
      injection eb with eb
      subst eb; subst eL
      exact l a List.mem_cons_self
  subst ew
  cases hs : v.s with
  | t ts =>
    rw [hs] at r
    obtain ⟨L, o, nd, kk⟩ := r
    refine gen _ _ L o e fun a ha => ?_
    rcases (kk a ha).2 with z | ⟨i, _, z⟩
    · omega
    · have := f.ok i a z; omega
  | p i q =>
    rw [hs] at r
    obtain ⟨d0, g0, w0, a1, a2, a3, a4, a5, a6, a7, a8, a9⟩ := r
    cases g0 with
    | fr => exact (a6 rfl).elim
    | dp =>
      obtain ⟨L', z, sl⟩ := Pth.ro a3.dp' a4
      exact gen .dp _ L' (.dp z) e fun a ha => by have := f.ok i a (sl.subset ha); omega
    | rt =>
      rcases a7 with z | z
      · subst z
        unfold Pth at a4
        rw [← a4.1, ← a4.2] at a3
        exact gen .rt _ _ a3 e fun a ha => by have := f.ok i a ha; omega
      · cases z
/-- the walk's items, frozen -/
def Items (hot : Bool) (lo : Nat) (F : FP) (h : Hq) (xs : List D) (wk : Wk) : Prop := RdA F h xs wk.2 ∧ Pin wk.1 h ∧ xs.length ≤ LB
theorem line_LB : line ≤ LB := by decide
theorem chars_rd : ∀ (l : List Nat), RdA F h (l.map fun c => D.str ⟨#[c]⟩) (l.map fun c => W.str ⟨#[c]⟩)
  | [] => by unfold RdA; rfl
  | c :: l => RdA.cons.mpr ⟨by unfold Rd; rfl, chars_rd l⟩
theorem obOf_lst (ws : List W) : obOf .lst ws = .lst ws := rfl
theorem obOf_tup (ws : List W) : obOf .tup ws = .tup ws := rfl
/-- the items of a value -/
theorem itms_ok (M : Mid hot nc nS X ns F h ρ σ Ls lo p) (r : VR hot lo h.length F h ρ σ Ls v w) {xs : List D} (e : itms v = some xs) :
    Go hot lo ns F h p 0 (walkOf w h) (fun F' h' wk => h' = h ∧ Items hot lo F' h' xs wk) Xq := by
  have fin : ∀ (k : Kd) (ys : List D), (k = .lst ∨ k = .tup) → v.d = .nd k ys → (if v.g = .dp ∧ v.s ≠ .t [] ∧ ys.all isSc = false then none else some ys) = some xs → Go hot lo ns F h p 0 (walkOf w h) (fun F' h' wk => h' = h ∧ Items hot lo F' h' xs wk) Xq := by
    intro k ys hk ev e
    obtain ⟨a, ws, ea, ha, hkk, ra⟩ := r.obj ev
    subst ea
    have a3 := r.ne3 M.f M.c ev rfl
    split at e
    · cases e
    rename_i hc
    cases e
    have ew : walkOf (.ref a) h = ret (some (a, obOf k ws), ws) h := by
      rcases hk with z | z <;> subst z
      · exact walk_lst ha
      · exact walk_tup ha
    rw [ew]
    have hlen : xs.length ≤ LB := by rw [← ra.len]; exact Nat.le_trans hkk.le line_LB
    have ok : ∀ N : List Nat, RdA (fun a => F a ∨ a ∈ N) h xs ws → (∀ a ∈ N, lo ≤ a ∧ a < h.length) → Go hot lo ns F h p 0 (ret (some (a, obOf k ws), ws) h) (fun F' h' wk => h' = h ∧ Items hot lo F' h' xs wk) Xq := by
      intro N rd hN
      exact ⟨.ok _, h, p, fun a => F a ∨ a ∈ N, rfl, Step.freeze hN, M.t, by omega, M.f.fb.freeze (fun a ha => ⟨(hN a ha).2, by have := (hN a ha).1; have := M.c; omega⟩), rfl, rd, pin_at a3 ha, hlen⟩
    by_cases hs : xs.all isSc = true
    · refine ok [] ?_ fun a ha => by cases ha
      rw [RdA.scal hs ra]
      exact RdA.of_scal hs
    · have hc' : cpy v xs ≠ none := by
        intro z
        unfold cpy at z
        rw [if_neg hs] at z
        split at z <;> first | (cases z; done) | skip
        rename_i hg
        split at z
        · cases z
        · rename_i hs'
          exact hc ⟨hg, hs', Bool.eq_false_iff.mpr hs⟩
      cases ec : cpy v xs with
      | none => exact (hc' ec).elim
      | some c =>
        obtain ⟨L, kd, ii⟩ := cpy_all r ev rfl ha hkk ec
        exact ok L kd.frz fun a ha => (In.nil ii a ha).2
  unfold itms at e
  split at e
  · rename_i z ev
    split at e
    · rename_i hz
      cases e
      rw [str_of r ev]
      refine .ret M.t M.f.fb ⟨rfl, chars_rd _, pin_none, ?_⟩
      rw [List.length_map, Array.length_toList]
      exact Nat.le_trans hz line_LB
    · cases e
  · rename_i ys ev
    exact fin .lst ys (.inl rfl) ev e
  · rename_i ys ev
    exact fin .tup ys (.inr rfl) ev e
  · cases e
theorem rng_items {i j : Int} (hr : (rngOk i && rngOk j) = true) : Items hot lo F h (rngD i j) (none, rngL i j) := by
  refine ⟨?_, pin_none, ?_⟩
  · show RdA F h (rngD i j) (rngL i j)
    rw [(all_rng i j).2]
    exact RdA.of_scal (all_rng i j).1
  · unfold rngD
    rw [List.length_map, List.length_range]
    unfold rngOk at hr
    simp only [Bool.and_eq_true, decide_eq_true_eq] at hr
    show (j - i).toNat ≤ 2147483648
    omega
/-- a part: owned or to be frozen -/
def Part (F : FP) (h : Hq) (c : Bool) (d : D) (u : W) (L : List Nat) : Prop := if c = true then Ro h d u L else Rd (fun a => F a ∨ a ∈ L) h d u
theorem Part.frz {c : Bool} {u : W} {L : List Nat} (r : Part F h c d u L) : Rd (fun a => F a ∨ a ∈ L) h d u := by
  unfold Part at r
  split at r
  · exact Ro.rd _ _ _ (fun a => .inr) r
  · exact r
theorem part_of (f : Fm hot nc nS X F h ρ σ Ls) (r : VR hot lo hi F h ρ σ Ls v w) {c : Bool} (e : st1 v = some (c, [])) : ∃ L, In F lo hi [] (fun _ => []) L ∧ Part F h c v.d w L := by
  cases c with
  | true =>
    obtain ⟨L, r, i⟩ := st1_dp f r e
    exact ⟨L, ⟨i.1, fun a ha => ⟨(i.2 a ha).1, .inl (In.nil i a ha).2⟩⟩, r⟩
  | false =>
    obtain ⟨L, r, i⟩ := st1_fr f r e
    exact ⟨L, ⟨i.1, fun a ha => ⟨(i.2 a ha).1, .inl (In.nil i a ha).2⟩⟩, r⟩
theorem keep_set {a D0 : Nat} {o u : Ob} (h0 : a ≠ D0) (e : h[a]? = some o) : (h.set D0 u)[a]? = some o := by rw [List.getElem?_set_ne (Ne.symm h0)]; exact e
theorem Kids.keep {c : Bool} {xs : List D} {ws : List W} {L : List Nat} (kk : Kids F h c xs ws L) (hF : ∀ a, F a → F' a) (hk : ∀ a o, F a ∨ a ∈ L → h[a]? = some o → isX o = false → h'[a]? = some o) : Kids F' h' c xs ws L := by
  unfold Kids at kk ⊢
  split at kk
  · rename_i e; rw [if_pos e]; exact RoA.mono _ _ _ (fun a o z => hk a o (.inr z)) kk
  · rename_i e; rw [if_neg e]; exact ⟨RdA.mono hF (fun a o z => hk a o (.inl z)) _ _ kk.1, kk.2⟩
/-- a comprehension's turns -/
theorem comp_ok {t : W → Hq → M Bool} {el : W → Hq → M W} {wt : D → WB} {we : D → W1} {bb : Nat} {D0 : Nat} {g : Option (Nat × Ob)} (s3 : D0 ≠ 3)
    (l0 : lo ≤ h1.length) (eD : D0 = h1.length) (c4 : 4 ≤ lo) (pin : Pin g h1) (fb1 : FB F1 h1)
    (ht : ∀ d w F2 h2 p2 (Qb : Bool → Prop), Step hot lo F1 F2 h1 h2 → Sto ns h2 p2 → FB F2 h2 → Rd F2 h2 d w → p2 + bb ≤ Mx → wt d Qb (fun _ _ => False) → Go hot h2.length ns F2 h2 p2 b1 (t w h2) (fun _ _ c => Qb c) (fun _ _ => False))
    (he : ∀ d w F2 h2 p2 (Qv : QV), Step hot lo F1 F2 h1 h2 → Sto ns h2 p2 → FB F2 h2 → Rd F2 h2 d w → p2 + b2 ≤ Mx → we d Qv (fun _ _ => False) → Go hot h2.length ns F2 h2 p2 b2 (el w h2) (fun F' h' u => ∃ v, Qv v ∧ ∀ c, st1 v = some (c, []) → ∃ L, In F' h2.length h'.length [] (fun _ => []) L ∧ Part F' h' c v.d u L) (fun _ _ => False))
    (ebb : bb = b1 + b2) :
    ∀ (xs : List D) (ws : List W) (acc : List D) (accw : List W) (c : Bool) (L : List Nat) (F2 : FP) (h2 : Hq) (p2 : Nat), Step hot lo F1 F2 h1 h2 → Sto ns h2 p2 → FB F2 h2 → RdA F1 h1 xs ws → p2 + xs.length * bb ≤ Mx →
      D0 < h2.length → h2[D0]? = some (.lst accw) → ¬ F2 D0 → Kids F2 h2 c acc accw L → In F2 (D0 + 1) h2.length [] (fun _ => []) L → accw.length = acc.length → accw.length ≤ line → wCo wt we xs acc c Q →
      ∃ h3 p3 F3 acc' accw' c' L', compL g D0 t el ws h2 = some h3 ∧ Step hot lo F1 F3 h1 h3 ∧ Sto ns h3 p3 ∧ FB F3 h3 ∧ p3 ≤ p2 + xs.length * bb ∧ D0 < h3.length ∧ h3[D0]? = some (.lst accw') ∧ ¬ F3 D0 ∧ Kids F3 h3 c' acc' accw' L' ∧ In F3 (D0 + 1) h3.length [] (fun _ => []) L' ∧ accw'.length ≤ line ∧ Q (nw (.nd .lst acc') (bF c'))
  | [], ws, acc, accw, c, L, F2, h2, p2, s, st, fb, rd, hp, hD, eD2, nF, kd, ii, el', al, q => by
    unfold RdA at rd
    subst rd
    have sy := pin h2 fun a o a3 e x => s.keep a o a3 e (.inr x)
    refine ⟨h2, p2, F2, acc, accw, c, L, ?_, s, st, fb, by omega, hD, eD2, nF, kd, ii, al, ?_⟩
    · unfold compL; rw [if_pos sy]
    · unfold wCo at q; exact q
  | d :: xs, ws, acc, accw, c, L, F2, h2, p2, s, st, fb, rd, hp, hD, eD2, nF, kd, ii, el', al, q => by
    unfold RdA at rd
    obtain ⟨w, us, ew, rd1, rd2⟩ := rd
    subst ew
    have sy := pin h2 fun a o a3 e x => s.keep a o a3 e (.inr x)
    have hp' : p2 + (xs.length * bb + bb) ≤ Mx := by rw [List.length_cons, Nat.succ_mul] at hp; exact hp
    have keep1 : ∀ {F2 : FP} {h2 : Hq}, Step hot lo F1 F2 h1 h2 → Rd F2 h2 d w := fun s => Rd.mono s.sub (fun a o fa e x => s.keep a o (fb1 a fa).2 e (.inr x)) _ _ rd1
    unfold wCo at q
    obtain ⟨e, h3, p3, F3, q1, s3', t3, pb3, fb3, z⟩ := ht d w F2 h2 p2 _ s st fb (keep1 s) (by omega) q
    cases e with
    | exc c w => obtain ⟨_, z, _⟩ := z; exact z.elim
    | ok tb =>
    have st3 : Step hot lo F1 F3 h1 h3 := s.trans (s3'.low (Nat.le_trans l0 s.le))
    have D3 : D0 < h3.length := Nat.lt_of_lt_of_le hD s3'.le
    have g3 : h3[D0]? = some (.lst accw) := s3'.keep D0 _ s3 eD2 (.inr rfl)
    have nF3 : ¬ F3 D0 := fun z => (s3'.new D0 z).elim nF fun z => by omega
    have jj := In.nil ii
    have kd3 : Kids F3 h3 c acc accw L := kd.keep s3'.sub fun a o z e x => s3'.keep a o (z.elim (fun z => (fb a z).2) fun z => by have := jj a z; omega) e (.inr x)
    have ii3 : In F3 (D0 + 1) h3.length [] (fun _ => []) L := ⟨ii.1, fun a ha => ⟨fun z => (s3'.new a z).elim (jj a ha).1 fun z => (by have := jj a ha; omega), .inl ⟨(jj a ha).2.1, Nat.lt_of_lt_of_le (jj a ha).2.2 s3'.le⟩⟩⟩
    cases tb with
    | false =>
      obtain ⟨h4, p4, F4, acc', accw', c', L', r1, r2, r3, r4, r5, r6⟩ := comp_ok s3 l0 eD c4 pin fb1 ht he ebb xs us acc accw c L F3 h3 p3 st3 t3 fb3 rd2 (by omega) D3 g3 nF3 kd3 ii3 el' al z
      refine ⟨h4, p4, F4, acc', accw', c', L', ?_, r2, r3, r4, ?_, r6⟩
      · rw [compL, if_pos sy, q1]; exact r1
      · rw [List.length_cons, Nat.succ_mul]; omega
    | true =>
      obtain ⟨e, h4, p4, F4, q4, s4, t4, pb4, fb4, z⟩ := he d w F3 h3 p3 _ st3 t3 fb3 (keep1 st3) (by omega) z
      cases e with
      | exc c w => obtain ⟨_, z, _⟩ := z; exact z.elim
      | ok u =>
      obtain ⟨v, z, pr⟩ := z
      split at z
      · rename_i c2 est
        obtain ⟨L2, i2, pt⟩ := pr c2 est
        obtain ⟨zl, z⟩ := z
        have j2 := In.nil i2
        have st4 : Step hot lo F1 F4 h1 h4 := st3.trans (s4.low (Nat.le_trans l0 st3.le))
        have D4 : D0 < h4.length := Nat.lt_of_lt_of_le D3 s4.le
        have g4 : h4[D0]? = some (.lst accw) := s4.keep D0 _ s3 g3 (.inr rfl)
        have nF4 : ¬ F4 D0 := fun z => (s4.new D0 z).elim nF3 fun z => by omega
        have jj3 := In.nil ii3
        have kd4 : Kids F4 h4 c acc accw L := kd3.keep s4.sub fun a o z e x => s4.keep a o (z.elim (fun z => (fb3 a z).2) fun z => by have := jj3 a z; omega) e (.inr x)
        have ii4 : In F4 (D0 + 1) h4.length [] (fun _ => []) L := ⟨ii.1, fun a ha => ⟨fun z => (s4.new a z).elim (jj3 a ha).1 fun z => (by have := jj3 a ha; omega), .inl ⟨(jj3 a ha).2.1, Nat.lt_of_lt_of_le (jj3 a ha).2.2 s4.le⟩⟩⟩
        have jj4 := In.nil ii4
        have hal : accw.length < line := by omega
        -- the new list
        obtain ⟨N, L5, F5, eF, kd5, i5, hN⟩ : ∃ (N L5 : List Nat) (F5 : FP), F5 = (fun a => F4 a ∨ a ∈ N) ∧ Kids F5 h4 (c && c2) (acc ++ [v.d]) (accw ++ [u]) L5 ∧ In F5 (D0 + 1) h4.length [] (fun _ => []) L5 ∧ ∀ a ∈ N, D0 + 1 ≤ a ∧ a < h4.length := by
          by_cases hc : c = true ∧ c2 = true
          · obtain ⟨rfl, rfl⟩ := hc
            refine ⟨[], L ++ L2, _, rfl, RoA.app kd4 (RoA.cons.mpr ⟨L2, [], (List.append_nil _).symm, pt, by unfold RoA; exact ⟨rfl, rfl⟩⟩), ⟨List.nodup_append.mpr ⟨ii.1, i2.1, fun a ha b hb z => ?_⟩, fun a ha => ?_⟩, fun a ha => by cases ha⟩
            · subst z; have := jj3 a ha; have := j2 a hb; omega
            · rcases List.mem_append.mp ha with z | z
              · exact ⟨fun q => q.elim (jj4 a z).1 fun q => (by cases q), .inl (jj4 a z).2⟩
              · exact ⟨fun q => q.elim (j2 a z).1 fun q => (by cases q), .inl ⟨by have := (j2 a z).2; omega, (j2 a z).2.2⟩⟩
          · have e : (c && c2) = false := by cases c <;> cases c2 <;> first | rfl | exact (hc ⟨rfl, rfl⟩).elim
            rw [e]
            refine ⟨L ++ L2, [], _, rfl, ⟨RdA.app (RdA.more (fun (a : Nat) z => Or.imp id (fun (z : a ∈ L) => List.mem_append_left L2 z) z) kd4.frz) (RdA.cons.mpr ⟨Rd.more (fun (a : Nat) z => Or.imp id (fun (z : a ∈ L2) => List.mem_append_right L z) z) pt.frz, by unfold RdA; rfl⟩), rfl⟩, In.none, fun a ha => ?_⟩
            rcases List.mem_append.mp ha with z | z
            · exact (jj4 a z).2
            · have := (j2 a z).2; omega
        have fb5 : FB F5 h4 := by rw [eF]; exact fb4.freeze fun a ha => ⟨(hN a ha).2, by have := (hN a ha).1; omega⟩
        have nF5 : ¬ F5 D0 := by rw [eF]; exact fun z => z.elim nF4 fun z => by have := hN D0 z; omega
        have st5 : Step hot lo F1 F5 h1 (h4.set D0 (.lst (accw ++ [u]))) := by
          refine ⟨by rw [List.length_set]; exact st4.le, fun a o a3 e x => keep_set (fun z => ?_) (st4.keep a o a3 e x), fun a z => ?_, fun a z => ?_⟩
          · have := (List.getElem?_eq_some_iff.mp e).1; omega
          · rw [eF]; exact .inl (st4.sub a z)
          · rw [eF] at z
            rw [List.length_set]
            rcases z with z | z
            · exact st4.new a z
            · have := hN a z; exact .inr ⟨by omega, by omega⟩
        have kd6 : Kids F5 (h4.set D0 (.lst (accw ++ [u]))) (c && c2) (acc ++ [v.d]) (accw ++ [u]) L5 := kd5.keep (fun _ z => z) fun a o z e x => keep_set (fun q => by
          subst q
          rcases z with z | z
          · exact nF5 z
          · have := In.nil i5 _ z; omega) e
        obtain ⟨h6, p6, F6, acc', accw', c', L', r1, r2, r3, r4, r5, r6⟩ := comp_ok s3 l0 eD c4 pin fb1 ht he ebb xs us (acc ++ [v.d]) (accw ++ [u]) (c && c2) L5 F5 _ p4 st5 (t4.set (by omega)) (fun a ha => by rw [List.length_set]; exact fb5 a ha) rd2 (by omega)
          (by rw [List.length_set]; exact D4) (List.getElem?_set_self D4) nF5 kd6 (by rw [List.length_set]; exact i5) (by rw [List.length_append, List.length_append, el']; rfl) (by rw [List.length_append]; exact hal) z
        refine ⟨h6, p6, F6, acc', accw', c', L', ?_, r2, r3, r4, ?_, r6⟩
        · rw [compL, if_pos sy, q1]
          dsimp only
          rw [q4]
          dsimp only
          rw [g4]
          dsimp only
          rw [if_pos hal]
          exact r1
        · rw [List.length_cons, Nat.succ_mul]; omega
      · exact z.elim
end
end Vp
set_option Elab.async false
set_option linter.all false
set_option maxRecDepth 100000
set_option maxHeartbeats 1000000
/-! Vp S8: expressions. -/
namespace Vp
open PySem Mp Cf
section
variable {ns : List Int} {Γ : Gam} {k : Calls} {kv : Cl} {bt : Nat → Nat} {nc : Nat} {X : FP}
abbrev PB (Q : Bool → Prop) : FP → Hq → Bool → Prop := fun _ _ b => Q b
abbrev PL (hot : Bool) (lo : Nat) (ρ : Mp.Env) (σ : Sv) (Ls : Nat → List Nat) (Q : List Val → Prop) : FP → Hq → List W → Prop := fun F h ws => ∃ vs, Q vs ∧ VRL hot F h ρ σ Ls lo h.length vs ws
abbrev PI (hot : Bool) (lo : Nat) (Q : List D → Prop) : FP → Hq → Wk → Prop := fun F h wk => ∃ xs, Q xs ∧ Items hot lo F h xs wk
theorem go_optB {hot : Bool} {n0 p b lo : Nat} {F : FP} {h : Hq} {ρ : Mp.Env} {σ : Sv} {Ls : Nat → List Nat} {Q : QV} {Xq : QX} {o : Option Bool} {r : Bool} (t : Sto ns h p) (fb : FB F h) (e : o = some r) (q : Q (sc (.bl r))) : Go hot n0 ns F h p b (optB o h) (PV hot lo ρ σ Ls Q) Xq := by
  rw [e]; exact go_sc t fb rfl q rfl
theorem go_optT {hot : Bool} {n0 p b : Nat} {F : FP} {h : Hq} {Q : Bool → Prop} {Xq : QX} {o : Option Bool} {r : Bool} (t : Sto ns h p) (fb : FB F h) (e : o = some r) (q : Q r) : Go hot n0 ns F h p b (optT o h) (PB Q) Xq := by
  rw [e]; exact .ret t fb q
theorem kid_nonexc : True := trivial
/-- a test of a value -/
theorem go_tru {hot : Bool} {p b lo : Nat} {F : FP} {h : Hq} {ρ : Mp.Env} {σ : Sv} {Ls : Nat → List Nat} {Q : Bool → Prop} {Xq : QX} {r : M W} (g : Go hot lo ns F h p b r (PV hot lo ρ σ Ls (kTru Q)) Xq) : Go hot lo ns F h p b (Mp.bnd r fun x h => optT (truV h x) h) (PB Q) Xq := by
  have := Go.bnd (b2 := 0) (f := fun x h => optT (truV h x) h) (P2 := PB Q) g fun F1 h1 p1 w s t pb fb ⟨v, q, r⟩ => by
    obtain ⟨b, e, q⟩ := tru_ok r q
    exact go_optT t fb e q
  exact this
mutual
theorem evE_go (C : ClOk ns bt k kv) : ∀ (e : E) (hot : Bool) (σ : Sv) (Q : QV) (Xq : QX) (ρ : Mp.Env) (h : Hq) (F : FP) (Ls : Nat → List Nat) (p nS : Nat), wE Γ kv hot e σ Q Xq → Mid hot nc nS X ns F h ρ σ Ls h.length p → p + bE bt e ≤ Mx →
    Go hot h.length ns F h p (bE bt e) (evE Γ k e ρ h) (PV hot h.length ρ σ Ls Q) Xq
  | .var i, hot, σ, Q, Xq, ρ, h, F, Ls, p, nS, q, M, hp => by
    unfold wE at q
    rw [evE]
    cases e : σ[i]? with
    | none => rw [e] at q; exact q.elim
    | some s => cases s with
      | none => rw [e] at q; exact q.elim
      | some dg =>
        obtain ⟨d, g⟩ := dg
        rw [e] at q
        obtain ⟨w, e1, r⟩ := VR_var (lo := h.length) (hi := h.length) M.f e
        rw [e1]
        exact .ret M.t M.f.fb ⟨_, q, r⟩
  | .cst w, hot, σ, Q, Xq, ρ, h, F, Ls, p, nS, q, M, hp => by
    unfold wE at q
    rw [evE]
    have q : oQ (ofW w) fun d => Q (sc d) := q
    cases w <;> first | exact q.elim | exact go_sc M.t M.f.fb rfl q rfl
  | .glob g, hot, σ, Q, Xq, ρ, h, F, Ls, p, nS, q, M, hp => by
    unfold wE at q
    rw [evE]
    cases e : Γ.glob g with
    | none => rw [e] at q; exact q.elim
    | some w =>
      rw [e] at q
      have q : oQ (ofW w) fun d => Q (sc d) := q
      cases w <;> first | exact q.elim | exact go_sc M.t M.f.fb rfl q rfl
  | .ty n, hot, σ, Q, Xq, ρ, h, F, Ls, p, nS, q, M, hp => by
    unfold wE at q
    rw [evE]
    exact go_sc M.t M.f.fb rfl q rfl
  | .cls c, hot, σ, Q, Xq, ρ, h, F, Ls, p, nS, q, M, hp => by
    unfold wE at q
    rw [evE]
    exact go_sc M.t M.f.fb rfl q rfl
  | .bin o a b, hot, σ, Q, Xq, ρ, h, F, Ls, p, nS, q, M, hp => by
    unfold wE at q
    rw [evE]
    unfold bE at hp ⊢
    exact Go.two (Qa := kBin1 (wE Γ kv hot b σ) o Q Xq) (Qb := fun x => kBin2 o x Q) (rb := fun h => evE Γ k b ρ h) (f := fun x y h => binV o x y h) M hp (evE_go C a hot σ _ Xq ρ h F Ls p nS q M (by omega))
      (fun F1 h1 p1 v qv M1 hp1 => evE_go C b hot σ _ Xq ρ h1 F1 Ls p1 nS qv M1 hp1)
      (fun F2 h2 p2 m v wv u wu qu M2 l1 l2 rv ru => vBin_ok o M2 rv ru l1 l2 qu)
  | .neg a, hot, σ, Q, Xq, ρ, h, F, Ls, p, nS, q, M, hp => by
    unfold wE at q
    rw [evE]
    unfold bE at hp ⊢
    refine Go.one (b2 := 0) M (evE_go C a hot σ _ Xq ρ h F Ls p nS q M hp) fun F2 h2 p2 v w qv M2 _ rv => ?_
    unfold kNeg at qv
    split at qv
    · rename_i i ev
      rw [int_of rv ev]
      exact go_sc M2.t M2.f.fb rfl qv rfl
    · exact qv.elim
  | .cmp o a b, hot, σ, Q, Xq, ρ, h, F, Ls, p, nS, q, M, hp => by
    unfold wE at q
    rw [evE]
    unfold bE at hp ⊢
    exact Go.two (Qa := kCmp1 (wE Γ kv hot b σ) o Q Xq) (Qb := fun x => kCmp2 o x Q) (rb := fun h => evE Γ k b ρ h) (f := fun x y h => optB (cmpV o x y h) h) M hp (evE_go C a hot σ _ Xq ρ h F Ls p nS q M (by omega))
      (fun F1 h1 p1 v qv M1 hp1 => evE_go C b hot σ _ Xq ρ h1 F1 Ls p1 nS qv M1 hp1)
      (fun F2 h2 p2 m v wv u wu qu M2 l1 l2 rv ru => by
        obtain ⟨r, e, q⟩ := cmp_ok o rv ru qu
        exact go_optB M2.t M2.f.fb e q)
  | .isN s a, hot, σ, Q, Xq, ρ, h, F, Ls, p, nS, q, M, hp => by
    unfold wE at q
    rw [evE]
    unfold bE at hp ⊢
    refine Go.one (b2 := 0) M (evE_go C a hot σ _ Xq ρ h F Ls p nS q M hp) fun F2 h2 p2 v w qv M2 _ rv => ?_
    exact go_sc M2.t M2.f.fb rfl (isNon_ok rv qv) rfl
  | .chn o o' a b c, hot, σ, Q, Xq, ρ, h, F, Ls, p, nS, q, M, hp => by
    unfold wE at q
    rw [evE]
    unfold bE at hp ⊢
    have := Go.bnd (b2 := bE bt b + bE bt c) (f := fun x h => Mp.bnd (evE Γ k b ρ h) fun y h => Mp.bnd (optT (cmpV o x y h) h) fun t h => if t = true then Mp.bnd (evE Γ k c ρ h) fun z h => optB (cmpV o' y z h) h else ret (.bl false) h)
      (P2 := PV hot h.length ρ σ Ls Q) (evE_go C a hot σ _ Xq ρ h F Ls p nS q M (by omega)) fun F1 h1 p1 w s t pb fb ⟨v, qv, rv⟩ => by
        have M1 := M.next s M.l t fb
        obtain ⟨e2, h2, p2, F2, q1, s2, t2, pb2, fb2, z⟩ := evE_go C b hot σ _ Xq ρ h1 F1 Ls p1 nS qv M1 (by omega)
        cases e2 with
        | exc c w => exact ⟨.exc c w, h2, p2, F2, by rw [q1]; rfl, s2.low s.le, t2, by omega, fb2, z⟩
        | ok u =>
          obtain ⟨v2, q2, r2⟩ := z
          have rv := rv.step M1.f s2 M1.l (Nat.le_refl _) M.c
          obtain ⟨r, e, q2⟩ := cmp_ok o rv r2 q2
          have M2 := M1.next s2 M1.l t2 fb2
          cases r with
          | false => exact ⟨.ok (.bl false), h2, p2, F2, by rw [q1]; dsimp only [Mp.bnd_ok]; rw [e]; rfl, s2.low s.le, t2, by omega, fb2, _, q2, VR_sc rfl⟩
          | true =>
            obtain ⟨e3, h3, p3, F3, q3, s3, t3, pb3, fb3, z⟩ := evE_go C c hot σ _ Xq ρ h2 F2 Ls p2 nS q2 M2 (by omega)
            cases e3 with
            | exc c' w' => exact ⟨.exc c' w', h3, p3, F3, by rw [q1]; dsimp only [Mp.bnd_ok]; rw [e]; show Mp.bnd (evE Γ k c ρ h2) _ = _; rw [q3]; rfl, (s2.low s.le).trans (s3.low (Nat.le_trans s.le s2.le)), t3, by omega, fb3, z⟩
            | ok u3 =>
              obtain ⟨v3, q3', r3⟩ := z
              obtain ⟨r, e', q4⟩ := cmp_ok o' (r2.step M2.f s3 M2.l (Nat.le_refl _) M1.c) r3 q3'
              exact ⟨.ok (.bl r), h3, p3, F3, by rw [q1]; dsimp only [Mp.bnd_ok]; rw [e]; show Mp.bnd (evE Γ k c ρ h2) _ = _; rw [q3]; show optB (cmpV o' u u3 h3) h3 = _; rw [e']; rfl, (s2.low s.le).trans (s3.low (Nat.le_trans s.le s2.le)), t3, by omega, fb3, _, q4, VR_sc rfl⟩
    exact this
  | .not a, hot, σ, Q, Xq, ρ, h, F, Ls, p, nS, q, M, hp => by
    unfold wE at q
    rw [evE]
    unfold bE at hp ⊢
    refine Go.one (b2 := 0) M (evE_go C a hot σ _ Xq ρ h F Ls p nS q M hp) fun F2 h2 p2 v w qv M2 _ rv => ?_
    unfold kNot at qv
    split at qv
    · rename_i i ev
      have := rv.scal (by rw [ev]; rfl)
      rw [ev] at this
      rw [this]
      exact go_sc M2.t M2.f.fb rfl qv rfl
    · exact qv.elim
  | .and a b, hot, σ, Q, Xq, ρ, h, F, Ls, p, nS, q, M, hp => by
    unfold wE at q
    rw [evE]
    unfold bE at hp ⊢
    refine (evE_go C a hot σ _ Xq ρ h F Ls p nS q M (by omega)).bnd fun F1 h1 p1 w s t pb fb ⟨v, qv, rv⟩ => ?_
    unfold kAnd at qv
    split at qv
    · rename_i ev
      have := rv.scal (by rw [ev]; rfl)
      rw [ev] at this
      rw [this]
      have M1 := M.next s M.l t fb
      exact ((evE_go C b hot σ _ Xq ρ h1 F1 Ls p1 nS qv M1 (by omega)).mono fun F' h' x s' fb' ⟨v, q, r⟩ => ⟨v, q, r.up s.le (Nat.le_refl _)⟩).low s.le
    · rename_i ev
      have := rv.scal (by rw [ev]; rfl)
      rw [ev] at this
      rw [this]
      exact go_sc t fb rfl qv rfl
    · exact qv.elim
  | .or a b, hot, σ, Q, Xq, ρ, h, F, Ls, p, nS, q, M, hp => by
    unfold wE at q
    rw [evE]
    unfold bE at hp ⊢
    refine (evE_go C a hot σ _ Xq ρ h F Ls p nS q M (by omega)).bnd fun F1 h1 p1 w s t pb fb ⟨v, qv, rv⟩ => ?_
    unfold kOr at qv
    split at qv
    · rename_i ev
      have := rv.scal (by rw [ev]; rfl)
      rw [ev] at this
      rw [this]
      exact go_sc t fb rfl qv rfl
    · rename_i ev
      have := rv.scal (by rw [ev]; rfl)
      rw [ev] at this
      rw [this]
      have M1 := M.next s M.l t fb
      exact ((evE_go C b hot σ _ Xq ρ h1 F1 Ls p1 nS qv M1 (by omega)).mono fun F' h' x s' fb' ⟨v, q, r⟩ => ⟨v, q, r.up s.le (Nat.le_refl _)⟩).low s.le
    · exact qv.elim
  | .ite c a b, hot, σ, Q, Xq, ρ, h, F, Ls, p, nS, q, M, hp => by
    unfold wE at q
    rw [evE]
    unfold bE at hp ⊢
    refine (evT_go C c hot σ _ Xq ρ h F Ls p nS q M (by omega)).bnd fun F1 h1 p1 t s st pb fb qv => ?_
    have M1 := M.next s M.l st fb
    cases t with
    | true => exact (((evE_go C a hot σ _ Xq ρ h1 F1 Ls p1 nS qv M1 (by omega)).mono fun F' h' x s' fb' ⟨v, q, r⟩ => ⟨v, q, r.up s.le (Nat.le_refl _)⟩).low s.le).cap (by omega)
    | false => exact (((evE_go C b hot σ _ Xq ρ h1 F1 Ls p1 nS qv M1 (by omega)).mono fun F' h' x s' fb' ⟨v, q, r⟩ => ⟨v, q, r.up s.le (Nat.le_refl _)⟩).low s.le).cap (by omega)
  | .call f es, hot, σ, Q, Xq, ρ, h, F, Ls, p, nS, q, M, hp => by
    unfold wE at q
    rw [evE]
    unfold bE at hp ⊢
    exact (evEs_go C es hot σ _ Xq ρ h F Ls p nS q M (by omega)).bnd fun F1 h1 p1 ws s t pb fb ⟨vs, qv, rv⟩ => call_ok C (M.at s M.l t fb) rv (by omega) qv
  | .fn f es, hot, σ, Q, Xq, ρ, h, F, Ls, p, nS, q, M, hp => by
    unfold wE at q
    rw [evE]
    unfold bE at hp ⊢
    have := (evEs_go C es hot σ _ Xq ρ h F Ls p nS q M hp).bnd (b2 := 0) (f := fun vs h => fnV Γ f vs h) (P2 := PV hot h.length ρ σ Ls Q) fun F1 h1 p1 ws s t pb fb ⟨vs, qv, rv⟩ => vFn_ok f (M.at s M.l t fb) rv qv
    exact this
  | .mth mm o es, hot, σ, Q, Xq, ρ, h, F, Ls, p, nS, q, M, hp => by
    unfold wE at q
    rw [evE]
    unfold bE at hp ⊢
    have := (evE_go C o hot σ _ Xq ρ h F Ls p nS q M (by omega)).bnd (b2 := bEs bt es) (f := fun x h => if mthPre mm x h = true then Mp.bnd (evEs Γ k es ρ h) fun vs h => mthV mm x vs h else none) (P2 := PV hot h.length ρ σ Ls Q) fun F1 h1 p1 w s t pb fb ⟨v, qv, rv⟩ => by
      have M1 := M.next s M.l t fb
      unfold kMth at qv
      split at qv
      · rename_i z ev
        obtain ⟨hm, qv⟩ := qv
        have hpre : mthPre mm w h1 = true := by
          rw [str_of rv ev]
          cases mm <;> first | rfl | cases hm
        obtain ⟨e2, h2, p2, F2, q1, s2, t2, pb2, fb2, z⟩ := evEs_go C es hot σ _ Xq ρ h1 F1 Ls p1 nS qv M1 (by omega)
        cases e2 with
        | exc c w' => exact ⟨.exc c w', h2, p2, F2, by rw [if_pos hpre, q1]; rfl, s2.low s.le, t2, by omega, fb2, z⟩
        | ok u =>
          obtain ⟨vs, q2, r2⟩ := z
          have rv := rv.step M1.f s2 M1.l (Nat.le_refl _) M.c
          have M2 := (M.at s M.l t fb).at (s2.low s.le) M.l t2 fb2
          obtain ⟨e3, h3, p3, F3, q3, s3, t3, pb3, fb3, z3⟩ := vMth_ok (b := 0) (Xq := Xq) mm M2 rv r2 q2
          exact ⟨e3, h3, p3, F3, by rw [if_pos hpre, q1]; exact q3, (s2.low s.le).trans s3, t3, by omega, fb3, z3⟩
      · exact qv.elim
    exact this
  | .attr f o, hot, σ, Q, Xq, ρ, h, F, Ls, p, nS, q, M, hp => by
    unfold wE at q
    rw [evE]
    unfold bE at hp ⊢
    exact Go.one (b2 := 0) M (evE_go C o hot σ _ Xq ρ h F Ls p nS q M hp) fun F2 h2 p2 v w qv M2 _ rv => vAttr_ok M2 rv qv
  | .lrg a, hot, σ, Q, Xq, ρ, h, F, Ls, p, nS, q, M, hp => by
    unfold wE at q
    rw [evE]
    unfold bE at hp ⊢
    exact Go.one (b2 := 0) M (evE_go C a hot σ _ Xq ρ h F Ls p nS q M hp) fun F2 h2 p2 v w qv M2 _ rv => vLrg_ok (l1 := 0) (r1 := 0) (x := sc (.int 0)) M2 (VR_sc rfl) rv qv
  | .lrg2 a b, hot, σ, Q, Xq, ρ, h, F, Ls, p, nS, q, M, hp => by
    unfold wE at q
    rw [evE]
    unfold bE at hp ⊢
    exact Go.two (Qa := kLrg1 (wE Γ kv hot b σ) Q Xq) (Qb := fun x => kLrg x Q) (rb := fun h => evE Γ k b ρ h) (f := fun x y h => lrgV x y h) M hp (evE_go C a hot σ _ Xq ρ h F Ls p nS q M (by omega))
      (fun F1 h1 p1 v qv M1 hp1 => evE_go C b hot σ _ Xq ρ h1 F1 Ls p1 nS qv M1 hp1)
      (fun F2 h2 p2 m v wv u wu qu M2 l1 l2 rv ru => vLrg_ok M2 rv ru qu)
  | .ix a i, hot, σ, Q, Xq, ρ, h, F, Ls, p, nS, q, M, hp => by
    unfold wE at q
    rw [evE]
    unfold bE at hp ⊢
    exact Go.two (Qa := kIx (wE Γ kv hot i σ) Q Xq) (Qb := fun x => kIx2 x Q) (rb := fun h => evE Γ k i ρ h) (f := fun x y h => ixV x y h) M hp (evE_go C a hot σ _ Xq ρ h F Ls p nS q M (by omega))
      (fun F1 h1 p1 v qv M1 hp1 => evE_go C i hot σ _ Xq ρ h1 F1 Ls p1 nS qv M1 hp1)
      (fun F2 h2 p2 m v wv u wu qu M2 l1 l2 rv ru => vIx_ok M2 rv ru l2 qu)
  | .cut a i j, hot, σ, Q, Xq, ρ, h, F, Ls, p, nS, q, M, hp => by
    unfold wE at q
    rw [evE]
    unfold bE at hp ⊢
    have := (evE_go C a hot σ _ Xq ρ h F Ls p nS q M (by omega)).bnd (b2 := bO bt i + bO bt j) (f := fun x h => Mp.bnd (evO Γ k i ρ h) fun l h => Mp.bnd (evO Γ k j ρ h) fun u h => cutW x l u h) (P2 := PV hot h.length ρ σ Ls Q) fun F1 h1 p1 w s t pb fb ⟨v, qv, rv⟩ => by
      have M1 := M.next s M.l t fb
      obtain ⟨e2, h2, p2, F2, q1, s2, t2, pb2, fb2, z⟩ := evO_go C i hot σ _ Xq ρ h1 F1 Ls p1 nS qv M1 (by omega)
      cases e2 with
      | exc c w' => exact ⟨.exc c w', h2, p2, F2, by rw [q1]; rfl, s2.low s.le, t2, by omega, fb2, z⟩
      | ok oi =>
        have M2 := M1.next s2 M1.l t2 fb2
        obtain ⟨e3, h3, p3, F3, q3, s3, t3, pb3, fb3, z3⟩ := evO_go C j hot σ _ Xq ρ h2 F2 Ls p2 nS z M2 (by omega)
        cases e3 with
        | exc c w' => exact ⟨.exc c w', h3, p3, F3, by rw [q1]; show Mp.bnd (evO Γ k j ρ h2) _ = _; rw [q3]; rfl, (s2.low s.le).trans (s3.low (Nat.le_trans s.le s2.le)), t3, by omega, fb3, z3⟩
        | ok oj =>
          have rv := (rv.step M1.f s2 M1.l (Nat.le_refl _) M.c).step M2.f s3 M2.l s2.le M.c
          have M3 := ((M.at s M.l t fb).at (s2.low s.le) M.l t2 fb2).at (s3.low (Nat.le_trans s.le s2.le)) M.l t3 fb3
          obtain ⟨e4, h4, p4, F4, q4, s4, t4, pb4, fb4, z4⟩ := vCut_ok (Xq := Xq) (p := p3) M3 (rv.up (Nat.le_refl _) (Nat.le_trans s2.le s3.le)) z3
          exact ⟨e4, h4, p4, F4, by rw [q1]; show Mp.bnd (evO Γ k j ρ h2) _ = _; rw [q3]; exact q4, ((s2.low s.le).trans (s3.low (Nat.le_trans s.le s2.le))).trans s4, t4, by omega, fb4, z4⟩
    exact this
  | .tup es, hot, σ, Q, Xq, ρ, h, F, Ls, p, nS, q, M, hp => by
    unfold wE at q
    rw [evE]
    unfold bE at hp ⊢
    have := (evEs_go C es hot σ _ Xq ρ h F Ls p nS q M hp).bnd (b2 := 0) (f := fun vs h => if vs.length ≤ line then alloc (.tup vs) h else none) (P2 := PV hot h.length ρ σ Ls Q) fun F1 h1 p1 ws s t pb fb ⟨vs, ⟨ql, qv⟩, rv⟩ => by
      show Go _ _ _ _ _ _ _ (if ws.length ≤ line then alloc (.tup ws) h1 else none) _ _
      rw [if_pos (by rw [rv.len]; exact ql)]
      exact mk_ok .tup (fun n h => h) (M.at s M.l t fb) rv ql qv
    exact this
  | .lst es, hot, σ, Q, Xq, ρ, h, F, Ls, p, nS, q, M, hp => by
    unfold wE at q
    rw [evE]
    unfold bE at hp ⊢
    have := (evEs_go C es hot σ _ Xq ρ h F Ls p nS q M hp).bnd (b2 := 0) (f := fun vs h => if vs.length ≤ line then alloc (.lst vs) h else none) (P2 := PV hot h.length ρ σ Ls Q) fun F1 h1 p1 ws s t pb fb ⟨vs, ⟨ql, qv⟩, rv⟩ => by
      show Go _ _ _ _ _ _ _ (if ws.length ≤ line then alloc (.lst ws) h1 else none) _ _
      rw [if_pos (by rw [rv.len]; exact ql)]
      exact mk_ok .lst (fun n h => h) (M.at s M.l t fb) rv ql qv
    exact this
  | .comp x s c el, hot, σ, Q, Xq, ρ, h, F, Ls, p, nS, q, M, hp => by
    unfold wE at q
    rw [evE]
    unfold bE at hp ⊢
    refine (evS_go C s hot σ _ Xq ρ h F Ls p nS q M (by omega)).bnd fun F1 h1 p1 wk s1 t1 pb1 fb1 ⟨xs, qv, it⟩ => ?_
    have M1 := M.next s1 M.l t1 fb1
    obtain ⟨it1, it2, it3⟩ := it
    have hb : xs.length * (bO bt c + bE bt el) ≤ LB * (bO bt c + bE bt el) := Nat.mul_le_mul_right _ it3
    have lk : 4 ≤ h1.length := M1.c
    have sP : Step hot h1.length F1 F1 h1 (h1 ++ [.lst []]) := .push _
    obtain ⟨h3, p3, F3, acc', accw', c', L', r1, r2, r3, r4, r5, r6, r7, r8, r9, r10, r11, r12⟩ := comp_ok (ns := ns) (lo := h.length) (F1 := F1) (h1 := h1) (D0 := h1.length) (g := wk.1) (Q := Q) (hot := hot)
      (t := fun v h => evC Γ k c (ρ.set x (some v)) h) (el := fun v h => evE Γ k el (ρ.set x (some v)) h) (b1 := bO bt c) (b2 := bE bt el) (by omega) s1.le rfl M.c it2 fb1
      (fun d w F2 h2 p2 Qb st2 t2 fb2 rd hp2 qq => by
        have f2 : Fm hot nc nS X F2 h2 (ρ.set x (some w)) (σ.set x (some (d, .fr))) (upL Ls x []) := (M1.f.step st2 M.l fb2).frs rd
        exact evC_go C c hot _ Qb _ _ h2 F2 _ p2 nS qq ⟨f2, t2, Nat.le_trans M1.l st2.le, Nat.le_trans M1.c st2.le, Nat.le_refl _⟩ (by omega))
      (fun d w F2 h2 p2 Qb st2 t2 fb2 rd hp2 qq => by
        have f2 : Fm hot nc nS X F2 h2 (ρ.set x (some w)) (σ.set x (some (d, .fr))) (upL Ls x []) := (M1.f.step st2 M.l fb2).frs rd
        exact (evE_go C el hot _ Qb _ _ h2 F2 _ p2 nS qq ⟨f2, t2, Nat.le_trans M1.l st2.le, Nat.le_trans M1.c st2.le, Nat.le_refl _⟩ hp2).mono fun F' h' u s' fb' ⟨v, qv, rv⟩ => ⟨v, qv, fun c hc => part_of (f2.step s' (Nat.le_trans M1.l st2.le) fb') rv hc⟩)
      rfl xs wk.2 [] [] true [] F1 (h1 ++ [.lst []]) p1 (sP.low s1.le) (t1.app _) (fb1.push _) it1 (by omega)
      (by rw [List.length_append]; exact Nat.lt_succ_self _) (get_new1 _ _) (fun z => by have := (fb1 _ z).1; omega) (show Kids F1 (h1 ++ [.lst []]) true [] [] [] from RoA.of_scal (h := h1 ++ [.lst []]) (xs := []) rfl) In.none rfl (Nat.zero_le _) qv
    refine ⟨.ok (W.ref h1.length), h3, p3, F3, ?_, r2, r3, by omega, r4, _, r12, ?_⟩
    · show (match compL wk.1 h1.length (fun v h => evC Γ k c (ρ.set x (some v)) h) (fun v h => evE Γ k el (ρ.set x (some v)) h) wk.2 (h1 ++ [.lst []]) with
        | some h' => Mp.ret (W.ref h1.length) h'
        | none => none) = _
      rw [r1]
      rfl
    · have jj := In.nil r10
      refine ⟨fun e => (by cases e), ?_⟩
      cases c' with
      | true =>
        refine ⟨h1.length :: L', .dp (by unfold Ro; exact ⟨_, accw', L', rfl, rfl, r7, r11, r9⟩), List.nodup_cons.mpr ⟨fun z => by have := jj _ z; omega, r10.1⟩, fun a ha => ?_⟩
        rcases List.mem_cons.mp ha with z | z
        · subst z; exact ⟨r8, .inl ⟨s1.le, r6⟩⟩
        · have := jj a z; have := s1.le; exact ⟨(jj a z).1, .inl ⟨by omega, by omega⟩⟩
      | false =>
        refine ⟨[h1.length], .rt r7 r11 r9.1, List.nodup_cons.mpr ⟨(by simp), List.nodup_nil⟩, fun a ha => ?_⟩
        rw [List.mem_singleton.mp ha]
        exact ⟨r8, .inl ⟨s1.le, r6⟩⟩
theorem evT_go (C : ClOk ns bt k kv) : ∀ (e : E) (hot : Bool) (σ : Sv) (Q : Bool → Prop) (Xq : QX) (ρ : Mp.Env) (h : Hq) (F : FP) (Ls : Nat → List Nat) (p nS : Nat), wT Γ kv hot e σ Q Xq → Mid hot nc nS X ns F h ρ σ Ls h.length p → p + bE bt e ≤ Mx →
    Go hot h.length ns F h p (bE bt e) (evT Γ k e ρ h) (PB Q) Xq
  | .not a, hot, σ, Q, Xq, ρ, h, F, Ls, p, nS, q, M, hp => by
    unfold wT at q
    rw [evT]
    unfold bE at hp ⊢
    have := (evT_go C a hot σ _ Xq ρ h F Ls p nS q M hp).bnd (b2 := 0) (f := fun b h => ret (!b) h) (P2 := PB Q) fun F1 h1 p1 b s t pb fb qv => .ret t fb qv
    exact this
  | .and a b, hot, σ, Q, Xq, ρ, h, F, Ls, p, nS, q, M, hp => by
    unfold wT at q
    rw [evT]
    unfold bE at hp ⊢
    refine (evT_go C a hot σ _ Xq ρ h F Ls p nS q M (by omega)).bnd fun F1 h1 p1 t s st pb fb qv => ?_
    have M1 := M.next s M.l st fb
    cases t with
    | true => exact (evT_go C b hot σ _ Xq ρ h1 F1 Ls p1 nS qv M1 (by omega)).low s.le
    | false => exact .ret st fb qv
  | .or a b, hot, σ, Q, Xq, ρ, h, F, Ls, p, nS, q, M, hp => by
    unfold wT at q
    rw [evT]
    unfold bE at hp ⊢
    refine (evT_go C a hot σ _ Xq ρ h F Ls p nS q M (by omega)).bnd fun F1 h1 p1 t s st pb fb qv => ?_
    have M1 := M.next s M.l st fb
    cases t with
    | false => exact (evT_go C b hot σ _ Xq ρ h1 F1 Ls p1 nS qv M1 (by omega)).low s.le
    | true => exact .ret st fb qv
  | .cmp o a b, hot, σ, Q, Xq, ρ, h, F, Ls, p, nS, q, M, hp => by
    unfold wT at q
    rw [evT]
    unfold bE at hp ⊢
    exact Go.two (Qa := kCmpT1 (wE Γ kv hot b σ) o Q Xq) (Qb := fun x => kCmpT2 o x Q) (rb := fun h => evE Γ k b ρ h) (f := fun x y h => optT (cmpV o x y h) h) M hp (evE_go C a hot σ _ Xq ρ h F Ls p nS q M (by omega))
      (fun F1 h1 p1 v qv M1 hp1 => evE_go C b hot σ _ Xq ρ h1 F1 Ls p1 nS qv M1 hp1)
      (fun F2 h2 p2 m v wv u wu qu M2 l1 l2 rv ru => by
        obtain ⟨r, e, q⟩ := cmp_ok o rv ru qu
        exact go_optT M2.t M2.f.fb e q)
  | .isN s a, hot, σ, Q, Xq, ρ, h, F, Ls, p, nS, q, M, hp => by
    unfold wT at q
    rw [evT]
    unfold bE at hp ⊢
    refine Go.one (b2 := 0) M (evE_go C a hot σ _ Xq ρ h F Ls p nS q M hp) fun F2 h2 p2 v w qv M2 _ rv => ?_
    exact .ret M2.t M2.f.fb (isNon_ok rv qv)
  | .chn o o' a b c, hot, σ, Q, Xq, ρ, h, F, Ls, p, nS, q, M, hp => by
    unfold wT at q
    rw [evT]
    unfold bE at hp ⊢
    have := Go.bnd (b2 := bE bt b + bE bt c) (f := fun x h => Mp.bnd (evE Γ k b ρ h) fun y h => Mp.bnd (optT (cmpV o x y h) h) fun t h => if t = true then Mp.bnd (evE Γ k c ρ h) fun z h => optT (cmpV o' y z h) h else ret false h)
      (P2 := PB Q) (evE_go C a hot σ _ Xq ρ h F Ls p nS q M (by omega)) fun F1 h1 p1 w s t pb fb ⟨v, qv, rv⟩ => by
        have M1 := M.next s M.l t fb
        obtain ⟨e2, h2, p2, F2, q1, s2, t2, pb2, fb2, z⟩ := evE_go C b hot σ _ Xq ρ h1 F1 Ls p1 nS qv M1 (by omega)
        cases e2 with
        | exc c w => exact ⟨.exc c w, h2, p2, F2, by rw [q1]; rfl, s2.low s.le, t2, by omega, fb2, z⟩
        | ok u =>
          obtain ⟨v2, q2, r2⟩ := z
          have rv := rv.step M1.f s2 M1.l (Nat.le_refl _) M.c
          obtain ⟨r, e, q2⟩ := cmp_ok o rv r2 q2
          have M2 := M1.next s2 M1.l t2 fb2
          cases r with
          | false => exact ⟨.ok false, h2, p2, F2, by rw [q1]; dsimp only [Mp.bnd_ok]; rw [e]; rfl, s2.low s.le, t2, by omega, fb2, q2⟩
          | true =>
            obtain ⟨e3, h3, p3, F3, q3, s3, t3, pb3, fb3, z⟩ := evE_go C c hot σ _ Xq ρ h2 F2 Ls p2 nS q2 M2 (by omega)
            cases e3 with
            | exc c' w' => exact ⟨.exc c' w', h3, p3, F3, by rw [q1]; dsimp only [Mp.bnd_ok]; rw [e]; show Mp.bnd (evE Γ k c ρ h2) _ = _; rw [q3]; rfl, (s2.low s.le).trans (s3.low (Nat.le_trans s.le s2.le)), t3, by omega, fb3, z⟩
            | ok u3 =>
              obtain ⟨v3, q3', r3⟩ := z
              obtain ⟨r, e', q4⟩ := cmp_ok o' (r2.step M2.f s3 M2.l (Nat.le_refl _) M1.c) r3 q3'
              exact ⟨.ok r, h3, p3, F3, by rw [q1]; dsimp only [Mp.bnd_ok]; rw [e]; show Mp.bnd (evE Γ k c ρ h2) _ = _; rw [q3]; show optT (cmpV o' u u3 h3) h3 = _; rw [e']; rfl, (s2.low s.le).trans (s3.low (Nat.le_trans s.le s2.le)), t3, by omega, fb3, q4⟩
    exact this
  | .var i, hot, σ, Q, Xq, ρ, h, F, Ls, p, nS, q, M, hp => by
    unfold wT at q
    rw [evT]
    cases e : σ[i]? with
    | none => rw [e] at q; exact q.elim
    | some s => cases s with
      | none => rw [e] at q; exact q.elim
      | some dg =>
        obtain ⟨d, g⟩ := dg
        rw [e] at q
        obtain ⟨w, e1, r⟩ := VR_var (lo := h.length) (hi := h.length) M.f e
        rw [e1]
        have ed : (rdv i d g).d = d := by unfold rdv; split <;> (try split) <;> rfl
        obtain ⟨r, e2, q⟩ := tru_ok r (by rw [ed]; exact q)
        exact go_optT M.t M.f.fb e2 q
  | .call f es, hot, σ, Q, Xq, ρ, h, F, Ls, p, nS, q, M, hp => by
    unfold wT at q
    rw [evT]
    unfold bE at hp ⊢
    have := (evEs_go C es hot σ _ Xq ρ h F Ls p nS q M (by omega)).bnd (b2 := bt f) (f := fun vs h => Mp.bnd (k f vs h) fun x h => optT (truV h x) h) (P2 := PB Q) fun F1 h1 p1 ws s t pb fb ⟨vs, qv, rv⟩ => go_tru (call_ok C (M.at s M.l t fb) rv (by omega) qv)
    exact this
  | .fn f es, hot, σ, Q, Xq, ρ, h, F, Ls, p, nS, q, M, hp => by
    unfold wT at q
    rw [evT]
    unfold bE at hp ⊢
    have := (evEs_go C es hot σ _ Xq ρ h F Ls p nS q M hp).bnd (b2 := 0) (f := fun vs h => Mp.bnd (fnV Γ f vs h) fun x h => optT (truV h x) h) (P2 := PB Q) fun F1 h1 p1 ws s t pb fb ⟨vs, qv, rv⟩ => go_tru (vFn_ok f (M.at s M.l t fb) rv qv)
    exact this
  | .ix a i, hot, σ, Q, Xq, ρ, h, F, Ls, p, nS, q, M, hp => by
    unfold wT at q
    rw [evT]
    unfold bE at hp ⊢
    exact Go.two (Qa := kIx (wE Γ kv hot i σ) (kTru Q) Xq) (Qb := fun x => kIx2 x (kTru Q)) (rb := fun h => evE Γ k i ρ h) (f := fun x y h => Mp.bnd (ixV x y h) fun x h => optT (truV h x) h) M hp (evE_go C a hot σ _ Xq ρ h F Ls p nS q M (by omega))
      (fun F1 h1 p1 v qv M1 hp1 => evE_go C i hot σ _ Xq ρ h1 F1 Ls p1 nS qv M1 hp1)
      (fun F2 h2 p2 m v wv u wu qu M2 l1 l2 rv ru => go_tru (vIx_ok M2 rv ru l2 qu))
  | .attr f o, hot, σ, Q, Xq, ρ, h, F, Ls, p, nS, q, M, hp => by
    unfold wT at q
    rw [evT]
    unfold bE at hp ⊢
    exact Go.one (b2 := 0) M (evE_go C o hot σ _ Xq ρ h F Ls p nS q M hp) fun F2 h2 p2 v w qv M2 _ rv => go_tru (vAttr_ok M2 rv qv)
  | .mth mm o es, hot, σ, Q, Xq, ρ, h, F, Ls, p, nS, q, M, hp => by
    unfold wT at q
    rw [evT]
    unfold bE at hp ⊢
    have := (evE_go C o hot σ _ Xq ρ h F Ls p nS q M (by omega)).bnd (b2 := bEs bt es) (f := fun x h => if mthPre mm x h = true then Mp.bnd (evEs Γ k es ρ h) fun vs h => Mp.bnd (mthV mm x vs h) fun x h => optT (truV h x) h else none) (P2 := PB Q) fun F1 h1 p1 w s t pb fb ⟨v, qv, rv⟩ => by
      have M1 := M.next s M.l t fb
      unfold kMth at qv
      split at qv
      · rename_i z ev
        obtain ⟨hm, qv⟩ := qv
        have hpre : mthPre mm w h1 = true := by
          rw [str_of rv ev]
          cases mm <;> first | rfl | cases hm
        obtain ⟨e2, h2, p2, F2, q1, s2, t2, pb2, fb2, z⟩ := evEs_go C es hot σ _ Xq ρ h1 F1 Ls p1 nS qv M1 (by omega)
        cases e2 with
        | exc c w' => exact ⟨.exc c w', h2, p2, F2, by rw [if_pos hpre, q1]; rfl, s2.low s.le, t2, by omega, fb2, z⟩
        | ok u =>
          obtain ⟨vs, q2, r2⟩ := z
          have rv := rv.step M1.f s2 M1.l (Nat.le_refl _) M.c
          have M2 := (M.at s M.l t fb).at (s2.low s.le) M.l t2 fb2
          obtain ⟨e3, h3, p3, F3, q3, s3, t3, pb3, fb3, z3⟩ := go_tru (vMth_ok (b := 0) (Xq := Xq) mm M2 rv r2 q2)
          exact ⟨e3, h3, p3, F3, by rw [if_pos hpre, q1]; exact q3, (s2.low s.le).trans s3, t3, by omega, fb3, z3⟩
      · exact qv.elim
    exact this
  | .cst _, _, _, _, _, _, _, _, _, _, _, q, _, _ => by unfold wT at q; exact q.elim
  | .glob _, _, _, _, _, _, _, _, _, _, _, q, _, _ => by unfold wT at q; exact q.elim
  | .ty _, _, _, _, _, _, _, _, _, _, _, q, _, _ => by unfold wT at q; exact q.elim
  | .cls _, _, _, _, _, _, _, _, _, _, _, q, _, _ => by unfold wT at q; exact q.elim
  | .bin _ _ _, _, _, _, _, _, _, _, _, _, _, q, _, _ => by unfold wT at q; exact q.elim
  | .neg _, _, _, _, _, _, _, _, _, _, _, q, _, _ => by unfold wT at q; exact q.elim
  | .ite _ _ _, _, _, _, _, _, _, _, _, _, _, q, _, _ => by unfold wT at q; exact q.elim
  | .lrg _, _, _, _, _, _, _, _, _, _, _, q, _, _ => by unfold wT at q; exact q.elim
  | .lrg2 _ _, _, _, _, _, _, _, _, _, _, _, q, _, _ => by unfold wT at q; exact q.elim
  | .cut _ _ _, _, _, _, _, _, _, _, _, _, _, q, _, _ => by unfold wT at q; exact q.elim
  | .tup _, _, _, _, _, _, _, _, _, _, _, q, _, _ => by unfold wT at q; exact q.elim
  | .lst _, _, _, _, _, _, _, _, _, _, _, q, _, _ => by unfold wT at q; exact q.elim
  | .comp _ _ _ _, _, _, _, _, _, _, _, _, _, _, q, _, _ => by unfold wT at q; exact q.elim
theorem evEs_go (C : ClOk ns bt k kv) : ∀ (e : Es) (hot : Bool) (σ : Sv) (Q : List Val → Prop) (Xq : QX) (ρ : Mp.Env) (h : Hq) (F : FP) (Ls : Nat → List Nat) (p nS : Nat), wEs Γ kv hot e σ Q Xq → Mid hot nc nS X ns F h ρ σ Ls h.length p → p + bEs bt e ≤ Mx →
    Go hot h.length ns F h p (bEs bt e) (evEs Γ k e ρ h) (PL hot h.length ρ σ Ls Q) Xq
  | .nil, hot, σ, Q, Xq, ρ, h, F, Ls, p, nS, q, M, hp => by
    unfold wEs at q
    rw [evEs]
    exact .ret M.t M.f.fb ⟨[], q, by unfold VRL; rfl⟩
  | .cons e es, hot, σ, Q, Xq, ρ, h, F, Ls, p, nS, q, M, hp => by
    unfold wEs at q
    rw [evEs]
    unfold bEs at hp ⊢
    refine (evE_go C e hot σ _ Xq ρ h F Ls p nS q M (by omega)).bnd fun F1 h1 p1 w s t pb fb ⟨v, qv, rv⟩ => ?_
    have M1 := M.next s M.l t fb
    obtain ⟨e2, h2, p2, F2, q1, s2, t2, pb2, fb2, z⟩ := evEs_go C es hot σ _ Xq ρ h1 F1 Ls p1 nS qv M1 (by omega)
    cases e2 with
    | exc c w' => exact ⟨.exc c w', h2, p2, F2, by rw [q1]; rfl, s2.low s.le, t2, by omega, fb2, z⟩
    | ok ws =>
      obtain ⟨vs, q2, r2⟩ := z
      have rv := rv.step M1.f s2 M1.l (Nat.le_refl _) M.c
      exact ⟨.ok (w :: ws), h2, p2, F2, by rw [q1]; rfl, s2.low s.le, t2, by omega, fb2, v :: vs, q2, by unfold VRL; exact ⟨w, ws, h1.length, rfl, s.le, s2.le, rv, r2⟩⟩
theorem evO_go (C : ClOk ns bt k kv) : ∀ (e : Op) (hot : Bool) (σ : Sv) (Q : Option Int → Prop) (Xq : QX) (ρ : Mp.Env) (h : Hq) (F : FP) (Ls : Nat → List Nat) (p nS : Nat), wO Γ kv hot e σ Q Xq → Mid hot nc nS X ns F h ρ σ Ls h.length p → p + bO bt e ≤ Mx →
    Go hot h.length ns F h p (bO bt e) (evO Γ k e ρ h) (fun _ _ o => Q o) Xq
  | .no, hot, σ, Q, Xq, ρ, h, F, Ls, p, nS, q, M, hp => by
    unfold wO at q
    rw [evO]
    exact .ret M.t M.f.fb q
  | .yes e, hot, σ, Q, Xq, ρ, h, F, Ls, p, nS, q, M, hp => by
    unfold wO at q
    rw [evO]
    unfold bO at hp ⊢
    refine Go.one (b2 := 0) M (evE_go C e hot σ _ Xq ρ h F Ls p nS q M hp) fun F2 h2 p2 v w qv M2 _ rv => ?_
    unfold kO at qv
    split at qv
    · rename_i i ev
      rw [int_of rv ev]
      exact .ret M2.t M2.f.fb qv
    · exact qv.elim
theorem evC_go (C : ClOk ns bt k kv) : ∀ (e : Op) (hot : Bool) (σ : Sv) (Q : Bool → Prop) (Xq : QX) (ρ : Mp.Env) (h : Hq) (F : FP) (Ls : Nat → List Nat) (p nS : Nat), wC Γ kv hot e σ Q Xq → Mid hot nc nS X ns F h ρ σ Ls h.length p → p + bO bt e ≤ Mx →
    Go hot h.length ns F h p (bO bt e) (evC Γ k e ρ h) (PB Q) Xq
  | .no, hot, σ, Q, Xq, ρ, h, F, Ls, p, nS, q, M, hp => by
    unfold wC at q
    rw [evC]
    exact .ret M.t M.f.fb q
  | .yes e, hot, σ, Q, Xq, ρ, h, F, Ls, p, nS, q, M, hp => by
    unfold wC at q
    rw [evC]
    exact evT_go C e hot σ Q Xq ρ h F Ls p nS q M hp
theorem evS_go (C : ClOk ns bt k kv) : ∀ (e : Mp.Src) (hot : Bool) (σ : Sv) (Q : List D → Prop) (Xq : QX) (ρ : Mp.Env) (h : Hq) (F : FP) (Ls : Nat → List Nat) (p nS : Nat), wS0 Γ kv hot e σ Q Xq → Mid hot nc nS X ns F h ρ σ Ls h.length p → p + bS0 bt e ≤ Mx →
    Go hot h.length ns F h p (bS0 bt e) (evS Γ k e ρ h) (PI hot h.length Q) Xq
  | .any e, hot, σ, Q, Xq, ρ, h, F, Ls, p, nS, q, M, hp => by
    unfold wS0 at q
    rw [evS]
    unfold bS0 at hp ⊢
    refine Go.one (b2 := 0) M (evE_go C e hot σ _ Xq ρ h F Ls p nS q M hp) fun F2 h2 p2 v w qv M2 _ rv => ?_
    unfold kItms at qv
    cases ei : itms v with
    | none => rw [ei] at qv; exact qv.elim
    | some xs =>
      rw [ei] at qv
      exact (itms_ok M2 rv ei).mono fun F' h' wk s' fb' ⟨e1, it⟩ => ⟨xs, qv, it⟩
  | .rng e, hot, σ, Q, Xq, ρ, h, F, Ls, p, nS, q, M, hp => by
    unfold wS0 at q
    rw [evS]
    unfold bS0 at hp ⊢
    refine Go.one (b2 := 0) M (evE_go C e hot σ _ Xq ρ h F Ls p nS q M hp) fun F2 h2 p2 v w qv M2 _ rv => ?_
    unfold kRng at qv
    split at qv
    · rename_i j ev
      rw [int_of rv ev]
      show Go _ _ _ _ _ _ _ (if rngOk j = true then ret (none, rngL 0 j) h2 else none) _ _
      rw [if_pos qv.1]
      exact .ret M2.t M2.f.fb ⟨_, qv.2, rng_items (by rw [qv.1]; rfl)⟩
    · exact qv.elim
  | .rng2 a b, hot, σ, Q, Xq, ρ, h, F, Ls, p, nS, q, M, hp => by
    unfold wS0 at q
    rw [evS]
    unfold bS0 at hp ⊢
    refine Go.two (Qa := kRng2 (wE Γ kv hot b σ) Q Xq) (Qb := fun x => kRng22 x Q) (rb := fun h => evE Γ k b ρ h) (f := fun v w h => (match v, w with | .int i, .int j => if rngOk i && rngOk j then ret (none, rngL i j) h else none | _, _ => none)) M hp (evE_go C a hot σ _ Xq ρ h F Ls p nS q M (by omega))
      (fun F1 h1 p1 v qv M1 hp1 => evE_go C b hot σ _ Xq ρ h1 F1 Ls p1 nS qv M1 hp1)
      (fun F2 h2 p2 m v wv u wu qu M2 l1 l2 rv ru => ?_)
    unfold kRng22 at qu
    split at qu
    · rename_i i j ev eu
      rw [int_of rv ev, int_of ru eu]
      dsimp only
      rw [if_pos qu.1]
      exact .ret M2.t M2.f.fb ⟨_, qu.2, rng_items qu.1⟩
    · exact qu.elim
end
end
end Vp
set_option Elab.async false
set_option linter.all false
set_option maxRecDepth 100000
set_option maxHeartbeats 400000
/-! Vp T1: frames that change. -/
namespace Vp
open PySem Mp Cf
section
variable {hot : Bool} {n0 n1 nS : Nat} {ns : List Int} {p b b1 b2 : Nat} {F F' F1 F2 : FP} {h h' h1 h2 : Hq} {nc : Nat} {X : FP} {ρ : Mp.Env} {σ : Sv} {Ls : Nat → List Nat} {lo hi m : Nat} {v : Val} {w : W} {d : D}
theorem set_self {α : Type} : ∀ {l : List α} {j : Nat} {x : α}, l[j]? = some x → l.set j x = l
  | [], j, x, e => by simp at e
  | y :: l, 0, x, e => by simp at e; subst e; rfl
  | y :: l, j + 1, x, e => by
    rw [List.set_cons_succ, set_self (by simpa using e)]
/-- one part of a row -/
theorem RoA.split : ∀ {xs : List D} {ws : List W} {L : List Nat} {j : Nat} {x : D} {u : W}, RoA h xs ws L → xs[j]? = some x → ws[j]? = some u → ∃ A Lx B, L = A ++ (Lx ++ B) ∧ Ro h x u Lx ∧
    ∀ h2 y u2 Ly, (∀ a o, a ∈ A ∨ a ∈ B → h[a]? = some o → isX o = false → h2[a]? = some o) → Ro h2 y u2 Ly → RoA h2 (xs.set j y) (ws.set j u2) (A ++ (Ly ++ B))
  | [], ws, L, j, x, u, r, e, _ => by simp at e
  | z :: xs, ws, L, j, x, u, r, e, e2 => by
    unfold RoA at r
    obtain ⟨v, us, L1, L2, ew, eL, r1, r⟩ := r
    subst ew; subst eL
    cases j with
    | zero =>
      simp at e e2
      subst e; subst e2
      refine ⟨[], L1, L2, rfl, r1, fun h2 y u2 Ly k ry => ?_⟩
      exact RoA.cons.mpr ⟨Ly, L2, rfl, ry, RoA.mono _ _ _ (fun a o ha => k a o (.inr ha)) r⟩
    | succ j =>
      obtain ⟨A, Lx, B, e3, rx, k⟩ := RoA.split (j := j) r (by simpa using e) (by simpa using e2)
      refine ⟨L1 ++ A, Lx, B, by rw [e3, List.append_assoc], rx, fun h2 y u2 Ly kk ry => ?_⟩
      refine RoA.cons.mpr ⟨L1, A ++ (Ly ++ B), List.append_assoc .., Ro.mono _ _ _ (fun a o ha => kk a o (.inl (List.mem_append_left _ ha))) r1, k h2 y u2 Ly (fun a o ha => kk a o (ha.imp (List.mem_append_right _) id)) ry⟩
/-- another thing at a path -/
theorem Ro_put : ∀ {q : List Nat} {d : D} {w : W} {L : List Nat} {d0 : D} {w0 : W}, Ro h d w L → L.Nodup → Pth h d w q d0 w0 → ∃ L0, Ro h d0 w0 L0 ∧ List.Sublist L0 L ∧
    ∀ h2 d1 L1, Ro h2 d1 w0 L1 → (∀ a o, a ∈ L → a ∉ L0 → h[a]? = some o → isX o = false → h2[a]? = some o) → L1.Nodup → (∀ a ∈ L1, a ∈ L → a ∈ L0) → ∃ L', Ro h2 (putP d q d1) w L' ∧ L'.Nodup ∧ ∀ a ∈ L', a ∈ L1 ∨ (a ∈ L ∧ a ∉ L0)
  | [], d, w, L, d0, w0, r, nd, p => by
    unfold Pth at p
    obtain ⟨e1, e2⟩ := p
    subst e1; subst e2
    refine ⟨L, r, List.Sublist.refl _, fun h2 d1 L1 r1 k nd1 _ => ⟨L1, ?_, nd1, fun a ha => .inl ha⟩⟩
    cases d0 <;> exact r1
  | j :: q, d, w, L, d0, w0, r, nd, p => by
    cases d with
    | nd kd xs =>
      unfold Pth at p
      obtain ⟨a, ws, x, u, a3, ew, ha, hk, hx, hu, p⟩ := p
      subst ew
      obtain ⟨L', eL, ra⟩ := RoA.obj r ha hk
      subst eL
      obtain ⟨A, Lx, B, eL', rx, k⟩ := RoA.split ra hx hu
      subst eL'
      obtain ⟨na, nd'⟩ := List.nodup_cons.mp nd
      obtain ⟨nA, nxB, dA⟩ := List.nodup_append.mp nd'
      obtain ⟨nx, nB, dx⟩ := List.nodup_append.mp nxB
      obtain ⟨L0, r0, s0, k0⟩ := Ro_put rx nx p
      have m0 : ∀ b ∈ L0, b ∈ Lx := fun b hb => s0.subset hb
      refine ⟨L0, r0, s0.trans ((List.sublist_append_left _ _).trans ((List.sublist_append_right _ _).trans (List.sublist_cons_self _ _))), fun h2 d1 L1 r1 kk nd1 k1 => ?_⟩
      have inA : ∀ b ∈ A, b ∈ a :: (A ++ (Lx ++ B)) := fun b hb => List.mem_cons_of_mem _ (List.mem_append_left _ hb)
      have inX : ∀ b ∈ Lx, b ∈ a :: (A ++ (Lx ++ B)) := fun b hb => List.mem_cons_of_mem _ (List.mem_append_right _ (List.mem_append_left _ hb))
      have inB : ∀ b ∈ B, b ∈ a :: (A ++ (Lx ++ B)) := fun b hb => List.mem_cons_of_mem _ (List.mem_append_right _ (List.mem_append_right _ hb))
      have aX : a ∉ Lx := fun z => na (List.mem_append_right _ (List.mem_append_left _ z))
      have AX : ∀ b, b ∈ A → b ∉ Lx := fun b hb z => dA b hb b (List.mem_append_left _ z) rfl
      have BX : ∀ b, b ∈ B → b ∉ Lx := fun b hb z => dx b z b hb rfl
      obtain ⟨Ly, ry, ny, my⟩ := k0 h2 d1 L1 r1 (fun b o hb hn => kk b o (inX b hb) hn) nd1 (fun b hb hbx => k1 b hb (inX b hbx))
      have yX : ∀ b ∈ Ly, b ∈ a :: (A ++ (Lx ++ B)) → b ∈ Lx := fun b hb z => (my b hb).elim (fun q => m0 b (k1 b q z)) (·.1)
      refine ⟨a :: (A ++ (Ly ++ B)), ?_, ?_, fun b hb => ?_⟩
      · have ex : xs.getD j .hole = x := by rw [List.getD_eq_getElem?_getD, hx]; rfl
        show Ro h2 (.nd kd (xs.set j (putP (xs.getD j .hole) q d1))) (.ref a) _
        rw [ex]
        unfold Ro
        refine ⟨a, ws, _, rfl, rfl, kk a _ List.mem_cons_self (fun z => aX (m0 a z)) ha (isX_ob _ _), hk, ?_⟩
        have := k h2 (putP x q d1) u Ly (fun b o hb => kk b o (hb.elim (inA b) (inB b)) (fun z => hb.elim (fun q => AX b q (m0 b z)) fun q => BX b q (m0 b z))) ry
        rwa [set_self hu] at this
      · refine List.nodup_cons.mpr ⟨fun z => ?_, List.nodup_append.mpr ⟨nA, List.nodup_append.mpr ⟨ny, nB, fun b hb c hc z => ?_⟩, fun b hb c hc z => ?_⟩⟩
        · rcases List.mem_append.mp z with z | z
          · exact na (List.mem_append_left _ z)
          · rcases List.mem_append.mp z with z | z
            · exact aX (yX a z List.mem_cons_self)
            · exact na (List.mem_append_right _ (List.mem_append_right _ z))
        · subst z; exact BX b hc (yX b hb (inB b hc))
        · subst z
          rcases List.mem_append.mp hc with hc | hc
          · exact AX b hb (yX b hc (inA b hb))
          · exact dA b hb b (List.mem_append_right _ hc) rfl
      · rcases List.mem_cons.mp hb with z | z
        · subst z; exact .inr ⟨List.mem_cons_self, fun z => aX (m0 b z)⟩
        · rcases List.mem_append.mp z with z | z
          · exact .inr ⟨inA b z, fun q => AX b z (m0 b q)⟩
          · rcases List.mem_append.mp z with z | z
            · rcases my b z with q | q
              · exact .inl q
              · exact .inr ⟨inX b q.1, q.2⟩
            · exact .inr ⟨inB b z, fun q => BX b z (m0 b q)⟩
    | _ => unfold Pth at p; exact p.elim
/-- slots are given up -/
def clL (Ls : Nat → List Nat) (ts : List Nat) : Nat → List Nat := fun j => if j ∈ ts then [] else Ls j
theorem Fm.non (f : Fm hot nc nS X F h ρ σ Ls) (i : Nat) : Fm hot nc nS X F h ρ (σ.set i none) (upL Ls i []) where
  len := by rw [List.length_set]; exact f.len
  sl := fun j d g e => by
    rcases set_get e with ⟨rfl, z⟩ | ⟨hj, z⟩
    · cases z
    · obtain ⟨w, a, o⟩ := f.sl j d g z
      refine ⟨w, a, ?_⟩
      unfold upL
      rw [if_neg hj]
      exact o
  nd := fun j => by unfold upL; split; exact List.nodup_nil; exact f.nd j
  dj := fun i1 j1 a h1 h2 => by
    unfold upL at h1 h2
    split at h1
    · cases h1
    · split at h2
      · cases h2
      · exact f.dj i1 j1 a h1 h2
  ok := fun j a ha => by
    unfold upL at ha
    split at ha
    · cases ha
    · exact f.ok j a ha
  le := f.le
  fb := f.fb
  xs := fun hh => noX_set (f.xs hh) rfl
theorem Fm.clr : ∀ (ts : List Nat) {σ : Sv} {Ls : Nat → List Nat}, Fm hot nc nS X F h ρ σ Ls → Fm hot nc nS X F h ρ (clr σ ts) (clL Ls ts)
  | [], σ, Ls, f => by
    have : clL Ls [] = Ls := by funext j; unfold clL; rw [if_neg (by simp)]
    rw [this]
    exact f
  | t :: ts, σ, Ls, f => by
    have := Fm.clr ts (f.non t)
    have e : clL (upL Ls t []) ts = clL Ls (t :: ts) := by
      funext j
      unfold clL upL
      by_cases h1 : j ∈ ts
      · rw [if_pos h1, if_pos (List.mem_cons_of_mem _ h1)]
      · rw [if_neg h1]
        by_cases h2 : j = t
        · rw [if_pos h2, if_pos (by rw [h2]; exact List.mem_cons_self)]
        · rw [if_neg h2, if_neg (by simp [h1, h2])]
    rw [e] at this
    exact this
/-- .. and the env's slots may hold what they like -/
theorem Fm.frz1 (f : Fm hot nc nS X F h ρ σ Ls) (i : Nat) : Fm hot nc nS X (fun a => F a ∨ a ∈ Ls i) h ρ (frz1 σ i) (upL Ls i []) := by
  have fb : FB (fun a => F a ∨ a ∈ Ls i) h := f.fb.freeze fun a ha => ⟨Nat.lt_of_lt_of_le (f.lt ha) f.le, by have := (f.ok i a ha).2.2.1; omega⟩
  have keep : ∀ (j : Nat) (d : D) (g : Fg), j ≠ i → σ[j]? = some (some (d, g)) → ∃ w, ρ[j]? = some (some w) ∧ Own (fun a => F a ∨ a ∈ Ls i) h g d w (upL Ls i [] j) := fun j d g hj e => by
    obtain ⟨w, a, o⟩ := f.sl j d g e
    refine ⟨w, a, ?_⟩
    unfold upL
    rw [if_neg hj]
    exact o.keep (fun _ => .inl) (fun _ _ _ h _ => h) (fun _ _ _ _ _ h => h)
  have xs : hot = false → noX (Vp.frz1 σ i) = true := fun hh => by
    unfold Vp.frz1
    split
    · rename_i d g e
      refine noX_set (f.xs hh) ?_
      have := f.xs hh
      unfold noX at this
      have := List.all_eq_true.mp this _ (List.mem_of_getElem? e)
      cases d <;> first | (cases this; done) | rfl
    · exact f.xs hh
  refine ⟨?_, fun j d g e => ?_, fun j => ?_, fun i1 j1 a h1 h2 => ?_, fun j a ha => ?_, f.le, fb, xs⟩
  · unfold Vp.frz1
    split
    · rw [List.length_set]; exact f.len
    · exact f.len
  · unfold Vp.frz1 at e
    split at e
    · rename_i d0 g0 e0
      rcases set_get e with ⟨rfl, z⟩ | ⟨hj, z⟩
      · cases z
        obtain ⟨w, a, o⟩ := f.sl j d g0 e0
        refine ⟨w, a, ?_⟩
        unfold upL
        rw [if_pos rfl]
        by_cases ed : isExc d = true
        · cases d <;> first | (cases ed; done) | skip
          obtain ⟨_, _, c⟩ := o
          exact ⟨rfl, rfl, c⟩
        · exact .fr (o.re (Bool.eq_false_iff.mpr ed))
      · exact keep j d g hj z
    · rename_i hn
      by_cases hj : j = i
      · subst hj; exact (hn d g e).elim
      · exact keep j d g hj e
  · unfold upL; split; exact List.nodup_nil; exact f.nd j
  · unfold upL at h1 h2
    split at h1
    · cases h1
    · split at h2
      · cases h2
      · exact f.dj i1 j1 a h1 h2
  · unfold upL at ha
    split at ha
    · cases ha
    · rename_i hj
      exact ⟨fun z => z.elim (f.ok j a ha).1 fun z => hj (f.dj j i a ha z), (f.ok j a ha).2⟩
/-- frozen more -/
theorem Fm.frzL (f : Fm hot nc nS X F h ρ σ Ls) {N : List Nat} (k : ∀ a ∈ N, nS ≤ a ∧ a < h.length ∧ 4 ≤ a) : Fm hot nc nS X (fun a => F a ∨ a ∈ N) h ρ σ Ls :=
  ⟨f.len, fun j d g e => let ⟨w, a, o⟩ := f.sl j d g e; ⟨w, a, o.keep (fun _ => .inl) (fun _ _ _ h _ => h) (fun _ _ _ _ _ h => h)⟩, f.nd, f.dj, fun j a ha => ⟨fun z => z.elim (f.ok j a ha).1 fun z => by have := f.lt ha; have := k a z; omega, (f.ok j a ha).2⟩, f.le,
    f.fb.freeze fun a ha => ⟨(k a ha).2.1, by have := (k a ha).2.2; omega⟩, f.xs⟩
end
end Vp
set_option Elab.async false
set_option linter.all false
set_option maxRecDepth 100000
set_option maxHeartbeats 400000
/-! Vp T2: what is asked of a statement; slots are set. -/
namespace Vp
open PySem Mp Cf
structure KpS (hot : Bool) (nc : Nat) (X F F' : FP) (h h' : Hq) : Prop where
  le : h.length ≤ h'.length
  keep : ∀ a o, ((a < nc ∧ ¬ X a) ∨ F a) → a ≠ 3 → h[a]? = some o → (hot = true ∨ isX o = false) → h'[a]? = some o
  sub : ∀ a, F a → F' a
  new : ∀ a, F' a → F a ∨ nc ≤ a ∨ X a
def EndS (hot : Bool) (nc : Nat) (X : FP) (Q : QF) (F : FP) (h : Hq) : Fl → Prop
  | .nx ρ => ∃ σ Ls, Q (.nx σ) ∧ Fm hot nc h.length X F h ρ σ Ls
  | .brk ρ => ∃ σ Ls, Q (.brk σ) ∧ Fm hot nc h.length X F h ρ σ Ls
  | .ct ρ => ∃ σ Ls, Q (.ct σ) ∧ Fm hot nc h.length X F h ρ σ Ls
  | .ret w => ∃ d g L, Q (.ret d g) ∧ Own F h g d w L ∧ isExc d = false ∧ L.Nodup ∧ ∀ a ∈ L, ¬ F a ∧ a < h.length ∧ 4 ≤ a ∧ (nc ≤ a ∨ X a)
  | .exc c w ρ => ∃ d σ Ls, Q (.exc c d σ) ∧ isSc d = true ∧ w = scW d ∧ Fm hot nc h.length X F h ρ σ Ls
def GoS (hot : Bool) (nc : Nat) (X : FP) (ns : List Int) (F : FP) (h : Hq) (p b : Nat) (r : RS) (Q : QF) : Prop :=
  ∃ f h' p' F', r = some (f, h') ∧ KpS hot nc X F F' h h' ∧ Sto ns h' p' ∧ p' ≤ p + b ∧ FB F' h' ∧ EndS hot nc X Q F' h' f
section
variable {hot : Bool} {n0 n1 nS : Nat} {ns : List Int} {p b b1 b2 : Nat} {F F' F1 F2 : FP} {h h' h1 h2 : Hq} {nc : Nat} {X : FP} {ρ : Mp.Env} {σ : Sv} {Ls : Nat → List Nat} {lo hi m : Nat} {v : Val} {w : W} {d : D} {Q : QF} {α : Type}
theorem KpS.refl : KpS hot nc X F F h h := ⟨Nat.le_refl _, fun _ _ _ _ e _ => e, fun _ z => z, fun _ z => .inl z⟩
theorem KpS.trans (a : KpS hot nc X F F1 h h1) (b : KpS hot nc X F1 F2 h1 h2) : KpS hot nc X F F2 h h2 :=
  ⟨Nat.le_trans a.le b.le, fun x o z x3 e q => b.keep x o (z.imp id (a.sub x)) x3 (a.keep x o z x3 e q) q, fun x z => b.sub x (a.sub x z), fun x z => (b.new x z).elim (a.new x) .inr⟩
theorem Step.kps (s : Step hot n0 F F1 h h1) (l : nc ≤ n0) : KpS hot nc X F F1 h h1 := ⟨s.le, fun a o _ a3 e q => s.keep a o a3 e q, s.sub, fun a z => (s.new a z).imp id fun z => .inl (Nat.le_trans l z.1)⟩
theorem GoS.nx (t : Sto ns h p) (f : Fm hot nc nS X F h ρ σ Ls) (q : Q (.nx σ)) : GoS hot nc X ns F h p b (some (.nx ρ, h)) Q := ⟨_, h, p, F, rfl, .refl, t, by omega, f.fb, σ, Ls, q, f.up f.le (Nat.le_refl _)⟩
theorem GoS.cap {r : RS} (a : GoS hot nc X ns F h p b1 r Q) (l : b1 ≤ b) : GoS hot nc X ns F h p b r Q := by
  obtain ⟨f, h', p', F', e, k, t, pb, z⟩ := a
  exact ⟨f, h', p', F', e, k, t, by omega, z⟩
theorem GoS.after {r : RS} {p1 : Nat} (a : GoS hot nc X ns F1 h1 p1 b1 r Q) (k : KpS hot nc X F F1 h h1) (l : p1 ≤ p + b2) : GoS hot nc X ns F h p (b2 + b1) r Q := by
  obtain ⟨f, h', p', F', e, k', t, pb, z⟩ := a
  exact ⟨f, h', p', F', e, k.trans k', t, by omega, z⟩
/-- an expression ahead of a statement's rest -/
theorem GoS.lft {r : M α} {f : α → Hq → RS} {P : FP → Hq → α → Prop} (fm : Fm hot nc h.length X F h ρ σ Ls) (l : nc ≤ h.length) (g : Go hot h.length ns F h p b1 r P (kX σ Q))
    (k : ∀ F1 h1 p1 x, Step hot h.length F F1 h h1 → Sto ns h1 p1 → p1 ≤ p + b1 → FB F1 h1 → Fm hot nc h.length X F1 h1 ρ σ Ls → P F1 h1 x → GoS hot nc X ns F1 h1 p1 b2 (f x h1) Q) : GoS hot nc X ns F h p (b1 + b2) (Mp.lft r ρ f) Q := by
  obtain ⟨e, h1, p1, F1, e1, s, t, pb, fb, z⟩ := g
  have f1 := fm.step s (Nat.le_refl _) fb
  cases e with
  | exc c w =>
    obtain ⟨d, q, hd, ew⟩ := z
    exact ⟨.exc c w ρ, h1, p1, F1, by rw [e1]; rfl, s.kps l, t, by omega, fb, d, σ, Ls, q, hd, ew, f1.up s.le (Nat.le_refl _)⟩
  | ok x =>
    have := (k F1 h1 p1 x s t pb fb f1 z).after (s.kps l) pb
    rw [e1]
    exact this
/-- a value is taken out of the frame -/
theorem claim_ok (f : Fm hot nc nS X F h ρ σ Ls) (r : VR hot lo h.length F h ρ σ Ls v w) (l : nS ≤ lo) (c4 : 4 ≤ lo) (ln : nc ≤ lo) (hg : v.g ≠ .fr) {σ' : Sv} (e : (match v.s with | .t ts => some (clr σ ts) | .p j q => tak σ j q) = some σ') :
    ∃ L Ls', Fm hot nc nS X F h ρ σ' Ls' ∧ Own F h v.g v.d w L ∧ isExc v.d = false ∧ L.Nodup ∧ (∀ a ∈ L, ¬ F a ∧ a < h.length ∧ 4 ≤ a ∧ (nc ≤ a ∨ X a)) ∧ ∀ a ∈ L, ∀ k, a ∉ Ls' k := by
  obtain ⟨_, r⟩ := r
  cases hs : v.s with
  | t ts =>
    rw [hs] at r e
    cases e
    obtain ⟨L, o, nd, kk⟩ := r
    have ed : isExc v.d = false := by
      cases hd : v.d <;> first | rfl | (rw [hd] at o; obtain ⟨z, _⟩ := o; exact (hg z).elim)
    refine ⟨L, clL Ls ts, Fm.clr ts f, o, ed, nd, fun a ha => ?_, fun a ha k z => ?_⟩
    · refine ⟨(kk a ha).1, ?_⟩
      rcases (kk a ha).2 with z | ⟨i, _, z⟩
      · exact ⟨z.2, by omega, .inl (by omega)⟩
      · have y := f.ok i a z; have := f.le; exact ⟨by omega, y.2.2.1, y.2.2.2⟩
    · unfold clL at z
      split at z
      · cases z
      · rename_i hk
        rcases (kk a ha).2 with q | ⟨i, hi', q⟩
        · have := f.lt z; omega
        · exact hk (f.dj i k a q z ▸ hi')
  | p j q =>
    rw [hs] at r e
    obtain ⟨d0, g0, w0, a1, a2, a3, a4, a5, a6, a7, a8, a9⟩ := r
    have le := f.le
    cases q with
    | nil =>
      cases e
      unfold Pth at a4
      rw [a4.1, a4.2, a5]
      refine ⟨Ls j, _, f.non j, a3, a9, f.nd j, fun a ha => ?_, fun a ha k z => ?_⟩
      · have := f.ok j a ha; exact ⟨this.1, by omega, this.2.2.1, this.2.2.2⟩
      · unfold upL at z
        split at z
        · cases z
        · rename_i hk; exact hk (f.dj k j a z ha)
    | cons i q =>
      have hg0 : g0 = .dp := a7.elim (fun z => by cases z) id
      subst hg0
      change (match σ[j]? with
        | some (some (d, .dp)) => some (σ.set j (some (putP d (i :: q) .hole, .dp)))
        | _ => none) = some σ' at e
      rw [a1] at e
      cases e
      obtain ⟨L0, r0, s0, k0⟩ := Ro_put a3.dp' (f.nd j) a4
      obtain ⟨L', r', n', m'⟩ := k0 h .hole [] (by unfold Ro; rfl) (fun _ _ _ _ e _ => e) List.nodup_nil (fun a ha => by cases ha)
      have m' : ∀ a ∈ L', a ∈ Ls j ∧ a ∉ L0 := fun a ha => (m' a ha).elim (fun z => by cases z) id
      have ed : isExc v.d = false := by
        cases hd : v.d <;> first | rfl | (rw [hd] at r0; unfold Ro at r0; exact r0.elim)
      have f1 := f.put (i := j) (w := w0) (g := .dp) (L := L') (d := putP d0 (i :: q) .hole) (Nat.le_refl _) f.le (.dp r') (fun e => by
        cases hd : putP d0 (i :: q) .hole <;> first | (rw [hd] at e; cases e; done) | (rw [hd] at r'; unfold Ro at r'; exact r'.elim)) n' (fun a ha => f.ok j a (m' a ha).1) (fun a ha k hk z => hk (f.dj k j a z (m' a ha).1))
      rw [show ρ.set j (some w0) = ρ from set_self a2] at f1
      refine ⟨L0, _, f1, by rw [a5]; exact .dp r0, ed, (f.nd j).sublist s0, fun a ha => ?_, fun a ha k z => ?_⟩
      · have := f.ok j a (s0.subset ha); exact ⟨this.1, by omega, this.2.2.1, this.2.2.2⟩
      · unfold upL at z
        split at z
        · exact (m' a z).2 ha
        · rename_i hk; exact hk (f.dj k j a z (s0.subset ha))
theorem vr_fr (r : VR hot lo hi F h ρ σ Ls v w) (hg : v.g = .fr) (ed : isExc v.d = false) : Rd F h v.d w := by
  obtain ⟨_, r⟩ := r
  cases hs : v.s with
  | t ts =>
    rw [hs, hg] at r
    obtain ⟨L, o, _⟩ := r
    exact (o.fr' ed).2
  | p j q =>
    rw [hs, hg] at r
    obtain ⟨d0, g0, w0, a1, a2, a3, a4, a5, a6, _⟩ := r
    exact (a6 a5.symm).elim
theorem isExc_of (hx : ∀ c x, d ≠ .exc c x) : isExc d = false := by cases d <;> first | rfl | exact (hx _ _ rfl).elim
/-- slot i gets a value -/
theorem put_ok {i : Nat} (t : Sto ns h p) (f : Fm hot nc nS X F h ρ σ Ls) (r : VR hot lo h.length F h ρ σ Ls v w) (l : nS ≤ lo) (c4 : 4 ≤ lo) (ln : nc ≤ lo) (q : wPut i σ Q v) : GoS hot nc X ns F h p b (some (.nx (ρ.set i (some w)), h)) Q := by
  unfold wPut at q
  split at q
  · rename_i hd
    rw [r.scal hd]
    exact .nx t (f.frs ((Rd_sc hd).mpr rfl)) q
  · have fin : (∀ c x, v.d ≠ .exc c x) → (match v.g with
      | .fr => Q (.nx (σ.set i (some (v.d, .fr))))
      | g => (match v.s with
        | .t ts => Q (.nx ((clr σ ts).set i (some (v.d, g))))
        | .p j q => oQ (tak σ j q) fun σ' => Q (.nx (σ'.set i (some (v.d, g)))))) → GoS hot nc X ns F h p b (some (.nx (ρ.set i (some w)), h)) Q := by
      intro hx q
      have main : v.g ≠ .fr → ∀ σ', (match v.s with | .t ts => some (clr σ ts) | .p j q => tak σ j q) = some σ' → Q (.nx (σ'.set i (some (v.d, v.g)))) → GoS hot nc X ns F h p b (some (.nx (ρ.set i (some w)), h)) Q := by
        intro hg σ' e q
        obtain ⟨L, Ls', f1, o, ed, nd, kk, dj⟩ := claim_ok f r l c4 ln hg e
        have f2 := (f1.up f.le (Nat.le_refl _)).put (i := i) (Nat.le_refl _) (Nat.le_refl _) o (fun z => by rw [ed] at z; cases z) nd kk (fun a ha k _ => dj a ha k)
        exact .nx t f2 q
      cases hg : v.g with
      | fr => rw [hg] at q; exact .nx t (f.frs (vr_fr r hg (isExc_of hx))) q
      | rt =>
        rw [hg] at q main
        dsimp only at q
        cases hs : v.s with
        | t ts => rw [hs] at q main; exact main (by intro z; cases z) _ rfl q
        | p j q' =>
          rw [hs] at q main
          dsimp only at q
          cases et : tak σ j q' with
          | none => rw [et] at q; exact q.elim
          | some σ' => rw [et] at q; exact main (by intro z; cases z) _ et q
      | dp =>
        rw [hg] at q main
        dsimp only at q
        cases hs : v.s with
        | t ts => rw [hs] at q main; exact main (by intro z; cases z) _ rfl q
        | p j q' =>
          rw [hs] at q main
          dsimp only at q
          cases et : tak σ j q' with
          | none => rw [et] at q; exact q.elim
          | some σ' => rw [et] at q; exact main (by intro z; cases z) _ et q
    cases hd : v.d <;> rw [hd] at q fin <;> first | exact q.elim | exact fin (fun c x z => by cases z) q
/-- a value is handed back -/
theorem ret_ok (t : Sto ns h p) (f : Fm hot nc nS X F h ρ σ Ls) (r : VR hot lo h.length F h ρ σ Ls v w) (l : nS ≤ lo) (c4 : 4 ≤ lo) (ln : nc ≤ lo) (q : kRet Q v) : GoS hot nc X ns F h p b (some (.ret w, h)) Q := by
  unfold kRet at q
  split at q
  · rename_i hd
    rw [r.scal hd]
    exact ⟨_, h, p, F, rfl, .refl, t, by omega, f.fb, _, _, [], q, .fr ((Rd_sc hd).mpr rfl), isExc_sc hd, List.nodup_nil, fun a ha => by cases ha⟩
  · have fin : (∀ c x, v.d ≠ .exc c x) → Q (.ret v.d v.g) → GoS hot nc X ns F h p b (some (.ret w, h)) Q := by
      intro hx q
      by_cases hg : v.g = .fr
      · rw [hg] at q
        exact ⟨_, h, p, F, rfl, .refl, t, by omega, f.fb, _, _, [], q, .fr (vr_fr r hg (isExc_of hx)), isExc_of hx, List.nodup_nil, fun a ha => by cases ha⟩
      · obtain ⟨_, r⟩ := r
        cases hs : v.s with
        | t ts =>
          rw [hs] at r
          obtain ⟨L, o, nd, kk⟩ := r
          refine ⟨_, h, p, F, rfl, .refl, t, by omega, f.fb, _, _, L, q, o, isExc_of hx, nd, fun a ha => ⟨(kk a ha).1, ?_⟩⟩
          rcases (kk a ha).2 with z | ⟨i, _, z⟩
          · exact ⟨z.2, by omega, .inl (by omega)⟩
          · have y := f.ok i a z; have := f.le; exact ⟨by omega, y.2.2.1, y.2.2.2⟩
        | p j q' =>
          rw [hs] at r
          obtain ⟨d0, g0, w0, a1, a2, a3, a4, a5, a6, a7, a8, a9⟩ := r
          have bnd : ∀ a ∈ Ls j, ¬ F a ∧ a < h.length ∧ 4 ≤ a ∧ (nc ≤ a ∨ X a) := fun a ha => by
            have y := f.ok j a ha; have := f.le; exact ⟨y.1, by omega, y.2.2.1, y.2.2.2⟩
          cases g0 with
          | fr => exact (a6 rfl).elim
          | dp =>
            obtain ⟨L', z, sl⟩ := Pth.ro a3.dp' a4
            exact ⟨_, h, p, F, rfl, .refl, t, by omega, f.fb, _, _, L', q, by rw [a5]; exact .dp z, isExc_of hx, (f.nd j).sublist sl, fun a ha => bnd a (sl.subset ha)⟩
          | rt =>
            rcases a7 with z | z
            · subst z
              unfold Pth at a4
              rw [← a4.1, ← a4.2, ← a5] at a3
              exact ⟨_, h, p, F, rfl, .refl, t, by omega, f.fb, _, _, Ls j, q, a3, isExc_of hx, f.nd j, bnd⟩
            · cases z
    cases hd : v.d <;> rw [hd] at q fin <;> first | exact q.elim | exact fin (fun c x z => by cases z) q
end
end Vp
set_option Elab.async false
set_option linter.all false
set_option maxRecDepth 100000
set_option maxHeartbeats 400000
/-! Vp T3: objects that change. -/
namespace Vp
open PySem Mp Cf
section
variable {hot : Bool} {n0 n1 nS : Nat} {ns : List Int} {p b b1 b2 : Nat} {F F' F1 F2 : FP} {h h' h1 h2 : Hq} {nc : Nat} {X : FP} {ρ : Mp.Env} {σ : Sv} {Ls : Nat → List Nat} {lo hi m : Nat} {v : Val} {w : W} {d : D} {Q : QF} {α : Type}
theorem clr_get : ∀ {ts : List Nat} {σ : Sv} {j : Nat}, j ∉ ts → (clr σ ts)[j]? = σ[j]?
  | [], σ, j, _ => rfl
  | t :: ts, σ, j, hj => by
    show (clr (σ.set t none) ts)[j]? = _
    rw [clr_get (fun z => hj (List.mem_cons_of_mem _ z)), List.getElem?_set_ne (fun z => hj (by rw [z]; exact List.mem_cons_self))]
/-- an object that no one else holds is written -/
theorem Fm.seth (f : Fm hot nc nS X F h ρ σ Ls) {a : Nat} {u o : Ob} (ha : h[a]? = some u) (hx : isX u = false) (nF : ¬ F a) (nL : ∀ k, a ∉ Ls k) : Fm hot nc nS X F (h.set a o) ρ σ Ls :=
  ⟨f.len, fun j d g e => let ⟨w, e1, ow⟩ := f.sl j d g e; ⟨w, e1, ow.keep (fun _ z => z) (fun x o' z e x' => keep_set (fun q => by subst q; exact z.elim nF (nL j)) e) (fun ed x o' _ ew e => keep_set (fun q => by
      subst q
      cases d <;> first | (cases ed; done) | skip
      obtain ⟨_, _, _, y, _, e2, e3⟩ := ow
      rw [ew] at e2
      injection e2 with e2
      subst e2
      rw [ha] at e3
      cases e3
      cases hx) e)⟩, f.nd, f.dj, f.ok, by rw [List.length_set]; exact f.le, fun x z => by rw [List.length_set]; exact f.fb x z, f.xs⟩
theorem kps_set {a : Nat} {o : Ob} (nF : ¬ F a) (bn : nc ≤ a ∨ X a) (sub : ∀ x, F x → F' x) (new : ∀ x, F' x → F x ∨ nc ≤ x ∨ X x) : KpS hot nc X F F' h (h.set a o) :=
  ⟨by rw [List.length_set]; exact Nat.le_refl _, fun x u z x3 e q => keep_set (fun y => by
    subst y
    rcases z with ⟨z1, z2⟩ | z
    · exact bn.elim (fun y => by omega) z2
    · exact nF z) e, sub, new⟩
/-- owned all through -/
theorem mutA (f : Fm hot nc nS X F h ρ σ Ls) {j : Nat} {d0 : D} {w0 : W} {q : List Nat} {xs xs2 : List D} {ws ws2 : List W} {a : Nat} {ts Lx : List Nat} (es : σ[j]? = some (some (d0, .dp))) (er : ρ[j]? = some (some w0)) (o : Own F h .dp d0 w0 (Ls j)) (pt : Pth h d0 w0 q (.nd .lst xs) (.ref a))
    (ha : h[a]? = some (.lst ws)) (hk : ws.length ≤ line) (hk2 : ws2.length ≤ line) (jt : j ∉ ts) (xp : ∀ b ∈ Lx, ¬ F b ∧ b < h.length ∧ 4 ≤ b ∧ (nc ≤ b ∨ X b)) (xd : ∀ b ∈ Lx, ∀ k, b ∉ clL Ls ts k)
    (kids : ∀ L', RoA h xs ws L' → L'.Nodup → (∀ b ∈ L', b ∉ Lx) → ∃ L2, RoA h xs2 ws2 L2 ∧ L2.Nodup ∧ ∀ b ∈ L2, b ∈ L' ∨ b ∈ Lx) :
    ∃ Ls2 L' , RoA h xs ws L' ∧ List.Sublist (a :: L') (Ls j) ∧ Fm hot nc h.length X F (h.set a (.lst ws2)) ρ ((clr σ ts).set j (some (putP d0 q (.nd .lst xs2), .dp))) Ls2 ∧ KpS hot nc X F F h (h.set a (.lst ws2)) ∧ 4 ≤ a ∧
      ∀ b, b ∈ L' → (∀ L2, RoA h xs2 ws2 L2 → b ∉ L2) → ∀ k, b ∉ Ls2 k := by
  obtain ⟨L0, r0, s0, k0⟩ := Ro_put o.dp' (f.nd j) pt
  obtain ⟨L', eL, ra⟩ := RoA.obj r0 ha hk
  subst eL
  have nd0 := (f.nd j).sublist s0
  obtain ⟨na, nd'⟩ := List.nodup_cons.mp nd0
  have aj : a ∈ Ls j := s0.subset List.mem_cons_self
  have sub' : ∀ b ∈ L', b ∈ Ls j := fun b hb => s0.subset (List.mem_cons_of_mem _ hb)
  have cj : ∀ b, b ∈ Ls j → b ∈ clL Ls ts j := fun b hb => by unfold clL; rw [if_neg jt]; exact hb
  have xj : ∀ b ∈ Lx, b ∉ Ls j := fun b hb z => xd b hb j (cj b z)
  obtain ⟨L2, r2, n2, m2⟩ := kids L' ra nd' fun b hb z => xj b z (sub' b hb)
  have a2 : a ∉ L2 := fun z => (m2 a z).elim na fun z => xj a z aj
  have fa := f.ok j a aj
  have hl := f.le
  have al : a < h.length := (List.getElem?_eq_some_iff.mp ha).1
  have set' : ∀ b o', b ≠ a → h[b]? = some o' → (h.set a (.lst ws2))[b]? = some o' := fun b o' hb e => keep_set hb e
  obtain ⟨Ln, rn, nn, mn⟩ := k0 (h.set a (.lst ws2)) (.nd .lst xs2) (a :: L2) (by
      unfold Ro
      exact ⟨a, ws2, L2, rfl, rfl, List.getElem?_set_self al, hk2, RoA.mono _ _ _ (fun b o' hb e _ => set' b o' (fun z => a2 (z ▸ hb)) e) r2⟩)
    (fun b o' hb hn e _ => set' b o' (fun z => hn (by rw [z]; exact List.mem_cons_self)) e) (List.nodup_cons.mpr ⟨a2, n2⟩) (fun b hb hbj => by
      rcases List.mem_cons.mp hb with z | z
      · rw [z]; exact List.mem_cons_self
      · rcases m2 b z with z | z
        · exact List.mem_cons_of_mem _ z
        · exact (xj b z hbj).elim)
  have f1 := (Fm.clr ts f).non j
  have f2 := f1.seth (o := .lst ws2) ha rfl fa.1 (fun k z => by
    unfold upL clL at z
    split at z
    · cases z
    · split at z
      · cases z
      · rename_i hk _; exact hk (f.dj k j a z aj))
  have mem : ∀ b ∈ Ln, b = a ∨ b ∈ L2 ∨ (b ∈ Ls j ∧ b ∉ a :: L') := fun b hb => by
    rcases mn b hb with z | z
    · rcases List.mem_cons.mp z with z | z
      · exact .inl z
      · exact .inr (.inl z)
    · exact .inr (.inr z)
  have prop : ∀ b ∈ Ln, ¬ F b ∧ b < h.length ∧ 4 ≤ b ∧ (nc ≤ b ∨ X b) := fun b hb => by
    have inj : ∀ b, b ∈ Ls j → ¬ F b ∧ b < h.length ∧ 4 ≤ b ∧ (nc ≤ b ∨ X b) := fun b hb => by have y := f.ok j b hb; exact ⟨y.1, by omega, y.2.2⟩
    rcases mem b hb with z | z | z
    · rw [z]; exact inj a aj
    · rcases m2 b z with z | z
      · exact inj b (sub' b z)
      · exact xp b z
    · exact inj b z.1
  have f3 := (f2.up (nS' := h.length) f.le (by rw [List.length_set]; exact Nat.le_refl _)).put (i := j) (w := w0) (g := .dp) (L := Ln) (d := putP d0 q (.nd .lst xs2)) (Nat.le_refl _) (by rw [List.length_set]; exact Nat.le_refl _) (.dp rn) (fun e => by
    cases hd : putP d0 q (.nd .lst xs2) <;> first | (rw [hd] at e; cases e; done) | (rw [hd] at rn; unfold Ro at rn; exact rn.elim)) nn prop (fun b hb k hk z => by
      unfold upL at z
      rw [if_neg hk] at z
      have zz : b ∈ Ls k := by unfold clL at z; split at z; cases z; exact z
      rcases mem b hb with y | y | y
      · rw [y] at zz; exact hk (f.dj k j a zz aj)
      · rcases m2 b y with y | y
        · exact hk (f.dj k j b zz (sub' b y))
        · exact xd b y k z
      · exact hk (f.dj k j b zz y.1))
  rw [show ρ.set j (some w0) = ρ from set_self er, List.set_set] at f3
  refine ⟨_, L', ra, s0, f3, kps_set fa.1 fa.2.2.2 (fun _ z => z) (fun _ z => .inl z), fa.2.2.1, fun b hb hn k z => ?_⟩
  have bj := sub' b hb
  unfold upL at z
  split at z
  · rcases mem b z with y | y | y
    · exact na (y ▸ hb)
    · exact hn L2 r2 y
    · exact y.2 (List.mem_cons_of_mem _ hb)
  · rename_i hk
    have z : b ∈ clL Ls ts k := by
      first
        | exact z
        | (unfold upL at z; rw [if_neg hk] at z; exact z)
    have zz : b ∈ Ls k := by unfold clL at z; split at z; cases z; exact z
    exact hk (f.dj k j b zz bj)
/-- its root alone -/
theorem mutB (f : Fm hot nc nS X F h ρ σ Ls) {j : Nat} {g0 : Fg} {xs xs2 : List D} {ws ws2 : List W} {a : Nat} {Lx : List Nat} (es : σ[j]? = some (some (.nd .lst xs, g0))) (er : ρ[j]? = some (some (.ref a))) (o : Own F h g0 (.nd .lst xs) (.ref a) (Ls j)) (hg : g0 ≠ .fr)
    (ha : h[a]? = some (.lst ws)) (hk : ws.length ≤ line) (hk2 : ws2.length ≤ line) (xp : ∀ b ∈ Lx, nS ≤ b ∧ nc ≤ b ∧ b < h.length ∧ 4 ≤ b)
    (kids : ∀ F' : FP, (∀ x, F x ∨ x ∈ Lx → F' x) → RdA F' h xs ws → RdA F' h xs2 ws2) :
    ∃ Ls2 F2, Fm hot nc h.length X F2 (h.set a (.lst ws2)) ρ (σ.set j (some (.nd .lst xs2, .rt))) Ls2 ∧ KpS hot nc X F F2 h (h.set a (.lst ws2)) ∧ FB F2 (h.set a (.lst ws2)) ∧ 4 ≤ a ∧ RdA F2 (h.set a (.lst ws2)) xs ws := by
  obtain ⟨aj, N, hN, aN, rd⟩ : a ∈ Ls j ∧ ∃ N : List Nat, (∀ b ∈ N, b ∈ Ls j) ∧ a ∉ N ∧ RdA (fun x => F x ∨ x ∈ N) h xs ws := by
    cases g0 with
    | fr => exact (hg rfl).elim
    | rt =>
      obtain ⟨b, k, ys, us, e1, e2, e3, r1, r2, r3⟩ := o.rt'
      injection e1 with e1 e1'
      injection e2 with e2
      subst e1; subst e1'; subst e2
      have : ws = us := obOf_inj (k := .lst) (Option.some.inj (ha.symm.trans r1)) hk r2
      subst this
      exact ⟨by rw [e3]; exact List.mem_cons_self, [], fun b hb => (by cases hb), List.not_mem_nil, RdA.more (fun _ => .inl) r3⟩
    | dp =>
      obtain ⟨L', eL, ra⟩ := RoA.obj o.dp' ha hk
      have nd := f.nd j
      rw [eL] at nd
      exact ⟨by rw [eL]; exact List.mem_cons_self, L', fun b hb => by rw [eL]; exact List.mem_cons_of_mem _ hb, (List.nodup_cons.mp nd).1, RoA.rd _ _ _ (fun _ => .inr) ra⟩
  have fa := f.ok j a aj
  have hl := f.le
  have al : a < h.length := (List.getElem?_eq_some_iff.mp ha).1
  have aX : a ∉ Lx := fun z => by have := xp a z; omega
  have nF2 : ¬ (F a ∨ a ∈ N ++ Lx) := fun z => z.elim fa.1 fun z => (List.mem_append.mp z).elim aN aX
  have f1 := f.non j
  have f2 : Fm hot nc h.length X (fun x => F x ∨ x ∈ N ++ Lx) h ρ (σ.set j none) (upL Ls j []) := by
    refine ⟨f1.len, fun i d g e => let ⟨w, e1, ow⟩ := f1.sl i d g e; ⟨w, e1, ow.keep (fun _ => .inl) (fun _ _ _ h _ => h) (fun _ _ _ _ _ h => h)⟩, f1.nd, f1.dj, fun i b hb => ?_, Nat.le_refl _, f1.fb.freeze fun b hb => ?_, f1.xs⟩
    · have y := f1.ok i b hb
      refine ⟨fun z => z.elim y.1 fun z => ?_, by omega, y.2.2⟩
      unfold upL at hb
      split at hb
      · cases hb
      · rename_i hi
        rcases List.mem_append.mp z with z | z
        · exact hi (f.dj i j b hb (hN b z))
        · have := f.lt hb; have := xp b z; omega
    · rcases List.mem_append.mp hb with z | z
      · have := f.ok j b (hN b z); exact ⟨by omega, by omega⟩
      · have := xp b z; exact ⟨by omega, by omega⟩
  have f3 := f2.seth (o := .lst ws2) ha rfl nF2 (fun k z => by
    unfold upL at z
    split at z
    · cases z
    · rename_i hk; exact hk (f.dj k j a z aj))
  have up : ∀ {ys : List D} {us : List W}, RdA (fun x => F x ∨ x ∈ N ++ Lx) h ys us → RdA (fun x => F x ∨ x ∈ N ++ Lx) (h.set a (.lst ws2)) ys us := fun r => RdA.mono (fun _ z => z) (fun x o' z e _ => keep_set (fun y => by subst y; exact nF2 z) e) _ _ r
  have rd' : RdA (fun x => F x ∨ x ∈ N ++ Lx) h xs ws := RdA.more (fun x z => z.imp id (List.mem_append_left _)) rd
  have f4 := f3.put (i := j) (w := .ref a) (g := .rt) (L := [a]) (d := .nd .lst xs2) (Nat.le_refl _) (by rw [List.length_set]; exact Nat.le_refl _) (.rt (k := .lst) (List.getElem?_set_self al) hk2 (up (kids _ (fun x z => z.imp id (List.mem_append_right _)) rd'))) (fun e => by cases e) (List.nodup_cons.mpr ⟨(by simp), List.nodup_nil⟩)
    (fun b hb => by rw [List.mem_singleton.mp hb]; exact ⟨nF2, al, fa.2.2.1, fa.2.2.2⟩) (fun b hb k hk z => by
      rw [List.mem_singleton.mp hb] at z
      unfold upL at z
      rw [if_neg hk] at z
      exact hk (f.dj k j a z aj))
  rw [show ρ.set j (some (.ref a)) = ρ from set_self er, List.set_set] at f4
  refine ⟨_, _, f4, kps_set fa.1 fa.2.2.2 (fun _ => .inl) (fun x z => ?_), f4.fb, fa.2.2.1, up rd'⟩
  rcases z with z | z
  · exact .inl z
  · rcases List.mem_append.mp z with z | z
    · exact .inr (f.ok j x (hN x z)).2.2.2
    · exact .inr (.inl (xp x z).2.1)
end
end Vp
set_option Elab.async false
set_option linter.all false
set_option maxRecDepth 100000
set_option maxHeartbeats 1000000
/-! Vp T4: statements that change objects. -/
namespace Vp
open PySem Mp Cf
section
variable {hot : Bool} {n0 n1 nS : Nat} {ns : List Int} {p b b1 b2 : Nat} {F F' F1 F2 : FP} {h h' h1 h2 : Hq} {nc : Nat} {X : FP} {ρ : Mp.Env} {σ : Sv} {Ls : Nat → List Nat} {lo hi m : Nat} {v : Val} {w : W} {d : D} {Q : QF} {α : Type}
theorem upd_ok (f : Fm hot nc nS X F h ρ σ Ls) {o : Val} {a : Nat} {l1 h1 l2 : Nat} (ro : VR hot l1 h1 F h ρ σ Ls o (.ref a)) {xs xs2 : List D} {ws ws2 : List W} {j : Nat} {q : List Nat} {c : Bool} {ts : List Nat} (eo : o.d = .nd .lst xs) (es : o.s = .p j q) (hg : o.g ≠ .fr)
    (ha : h[a]? = some (.lst ws)) (hk : ws.length ≤ line) (hk2 : ws2.length ≤ line) (rv : VR hot l2 h.length F h ρ σ Ls v w) (ls : nS ≤ l2) (c4 : 4 ≤ l2) (ln : nc ≤ l2) (st : st1 v = some (c, ts)) {σ' : Sv} (e : upd σ j q (.nd .lst xs2) c ts = some σ')
    (P1 : ∀ L' Lx, RoA h xs ws L' → Ro h v.d w Lx → L'.Nodup → Lx.Nodup → (∀ b ∈ L', b ∉ Lx) → ∃ L2, RoA h xs2 ws2 L2 ∧ L2.Nodup ∧ ∀ b ∈ L2, b ∈ L' ∨ b ∈ Lx)
    (P2 : ∀ F' : FP, RdA F' h xs ws → Rd F' h v.d w → RdA F' h xs2 ws2) :
    ∃ Ls2 F2, Fm hot nc h.length X F2 (h.set a (.lst ws2)) ρ σ' Ls2 ∧ KpS hot nc X F F2 h (h.set a (.lst ws2)) ∧ FB F2 (h.set a (.lst ws2)) ∧ 4 ≤ a ∧
      ((o.g = .dp ∧ c = true ∧ F2 = F ∧ ∃ L', RoA h xs ws L' ∧ List.Sublist (a :: L') (Ls j) ∧ ∀ b, b ∈ L' → (∀ L2, RoA h xs2 ws2 L2 → b ∉ L2) → ∀ k, b ∉ Ls2 k) ∨ RdA F2 (h.set a (.lst ws2)) xs ws ∧ (c = true → o.g ≠ .dp)) := by
  obtain ⟨_, ro⟩ := ro
  rw [es] at ro
  obtain ⟨d0, g0, w0, a1, a2, a3, a4, a5, a6, a7, a8, a9⟩ := ro
  rw [eo] at a4
  have caseB : q = [] → ts = [] → (c = true → o.g ≠ .dp) → σ' = σ.set j (some (.nd .lst xs2, .rt)) → ∃ Ls2 F2, Fm hot nc h.length X F2 (h.set a (.lst ws2)) ρ σ' Ls2 ∧ KpS hot nc X F F2 h (h.set a (.lst ws2)) ∧ FB F2 (h.set a (.lst ws2)) ∧ 4 ≤ a ∧
      ((o.g = .dp ∧ c = true ∧ F2 = F ∧ ∃ L', RoA h xs ws L' ∧ List.Sublist (a :: L') (Ls j) ∧ ∀ b, b ∈ L' → (∀ L2, RoA h xs2 ws2 L2 → b ∉ L2) → ∀ k, b ∉ Ls2 k) ∨ RdA F2 (h.set a (.lst ws2)) xs ws ∧ (c = true → o.g ≠ .dp)) := by
    intro hq hts hc es'
    subst hq; subst hts; subst es'
    unfold Pth at a4
    obtain ⟨z1, z2⟩ := a4
    subst z1; subst z2
    obtain ⟨Lx, ix, pt⟩ := part_of f rv st
    have jx := In.nil ix
    obtain ⟨Ls2, F2, r1, r2, r3, r4, r5⟩ := mutB (xs2 := xs2) (ws2 := ws2) (Lx := Lx) f a1 a2 a3 a6 ha hk hk2 (fun b hb => by have := jx b hb; omega) fun F' hF ra => P2 F' ra (pt.frz.more hF)
    exact ⟨Ls2, F2, r1, r2, r3, r4, .inr ⟨r5, hc⟩⟩
  unfold upd at e
  rw [a1] at e
  cases g0 with
  | fr => exact (a6 rfl).elim
  | rt =>
    dsimp only at e
    split at e
    · cases e
      exact caseB rfl rfl (fun _ => by rw [a5]; intro z; cases z) rfl
    · cases e
  | dp =>
    dsimp only at e
    split at e
    · cases e
    · rename_i jt
      split at e
      · rename_i hc
        cases e
        subst hc
        obtain ⟨Lx, rx, ix⟩ := st1_dp f rv st
        obtain ⟨Ls2, L', r1, r2, r3, r4, r5, r6⟩ := mutA (xs2 := xs2) (ws2 := ws2) (Lx := Lx) (ts := ts) f a1 a2 a3 a4 ha hk hk2 jt (fun b hb => by
            refine ⟨(ix.2 b hb).1, ?_⟩
            rcases (ix.2 b hb).2 with z | ⟨i, _, z⟩
            · exact ⟨z.2, by omega, .inl (by omega)⟩
            · have y := f.ok i b z; have := f.le; exact ⟨by omega, y.2.2.1, y.2.2.2⟩) (fun b hb k z => by
            unfold clL at z
            split at z
            · cases z
            · rename_i hkk
              rcases (ix.2 b hb).2 with q | ⟨i, hi', q⟩
              · have := f.lt z; omega
              · exact hkk (f.dj i k b q z ▸ hi')) fun L' ra nd dj => P1 L' Lx ra rx nd ix.1 dj
        exact ⟨Ls2, F, r3, r4, fun x z => by rw [List.length_set]; exact f.fb x z, r5, .inl ⟨a5, rfl, rfl, L', r1, r2, r6⟩⟩
      · rename_i hc
        split at e
        · cases e
          exact caseB rfl rfl (fun z => (hc z).elim) rfl
        · cases e
/-- o.append(v) -/
theorem append_ok' (t : Sto ns h p) (f : Fm hot nc nS X F h ρ σ Ls) {o : Val} {wo : W} {l1 h1 l2 : Nat} (ro : VR hot l1 h1 F h ρ σ Ls o wo) (rv : VR hot l2 h.length F h ρ σ Ls v w) (ls : nS ≤ l2) (c4 : 4 ≤ l2) (ln : nc ≤ l2) (q : kApp2 σ o Q v) :
    ∃ h' , mthV .append wo [w] h = some (.ok .non, h') ∧ GoS hot nc X ns F h p b (some (.nx ρ, h')) Q := by
  unfold kApp2 at q
  split at q
  · rename_i xs j q' c ts eo es st
    obtain ⟨hg, hl, q⟩ := q
    cases eu : upd σ j q' (.nd .lst (xs ++ [v.d])) c ts with
    | none => rw [eu] at q; exact q.elim
    | some σ' =>
      rw [eu] at q
      obtain ⟨a, ws, ea, ha, hk, ra⟩ := ro.obj eo
      subst ea
      have el := ra.len
      obtain ⟨Ls2, F2, r1, r2, r3, r4, _⟩ := upd_ok (xs2 := xs ++ [v.d]) (ws2 := ws ++ [w]) f ro eo es hg ha hk (by rw [List.length_append, el]; exact hl) rv ls c4 ln st eu
        (fun L' Lx ra rx n1 n2 dj => ⟨L' ++ Lx, RoA.app ra (RoA.cons.mpr ⟨Lx, [], (List.append_nil _).symm, rx, by unfold RoA; exact ⟨rfl, rfl⟩⟩), List.nodup_append.mpr ⟨n1, n2, fun x hx y hy z => dj x hx (z ▸ hy)⟩, fun b hb => List.mem_append.mp hb⟩)
        (fun F' ra rx => RdA.app ra (RdA.cons.mpr ⟨rx, by unfold RdA; rfl⟩))
      refine ⟨h.set a (.lst (ws ++ [w])), append_ok ha (by rw [el]; exact hl), ?_⟩
      exact ⟨.nx ρ, _, p, F2, rfl, r2, t.set r4, by omega, r3, σ', Ls2, q, r1.up (by rw [List.length_set]; exact Nat.le_refl _) (Nat.le_refl _)⟩
  · exact q.elim
theorem ixN_lt {n : Nat} {i : Int} {m : Nat} (e : L2.ixN n i = some m) : m < n := by
  unfold L2.ixN at e
  split at e
  · split at e
    · cases e; omega
    · cases e
  · split at e
    · cases e; omega
    · cases e
theorem RdA.setg {F : FP} {h : Hq} : ∀ {xs : List D} {ws : List W} {y : D} {u : W}, RdA F h xs ws → Rd F h y u → ∀ j, RdA F h (xs.set j y) (ws.set j u)
  | [], ws, y, u, r, s, j => by unfold RdA at r; subst r; show RdA F h [] []; unfold RdA; rfl
  | x :: xs, ws, y, u, r, s, 0 => by
    unfold RdA at r
    obtain ⟨v, us, e, r1, r⟩ := r
    subst e
    exact RdA.cons.mpr ⟨s, r⟩
  | x :: xs, ws, y, u, r, s, j + 1 => by
    unfold RdA at r
    obtain ⟨v, us, e, r1, r⟩ := r
    subst e
    exact RdA.cons.mpr ⟨r1, RdA.setg r s j⟩
/-- o[i] = v -/
theorem store_ok' (t : Sto ns h p) (f : Fm hot nc nS X F h ρ σ Ls) {o i : Val} {wo wi : W} {l1 h1 l2 l3 h3 : Nat} (ro : VR hot l1 h1 F h ρ σ Ls o wo) (ri : VR hot l3 h3 F h ρ σ Ls i wi) (rv : VR hot l2 h.length F h ρ σ Ls v w) (ls : nS ≤ l2) (c4 : 4 ≤ l2) (ln : nc ≤ l2) (q : kSto3 σ v o Q i) :
    ∃ h' , setV wo wi w h = some h' ∧ GoS hot nc X ns F h p b (some (.nx ρ, h')) Q := by
  unfold kSto3 at q
  split at q
  · rename_i xs j q' c ts n eo es st ei
    obtain ⟨hg, q⟩ := q
    cases en : L2.ixN xs.length n with
    | none => rw [en] at q; exact q.elim
    | some mm =>
    rw [en] at q
    dsimp only [oQ_some] at q
    cases eu : upd σ j q' (.nd .lst (xs.set mm v.d)) c ts with
    | none => rw [eu] at q; exact q.elim
    | some σ' =>
      rw [eu] at q
      obtain ⟨a, ws, ea, ha, hk, ra⟩ := ro.obj eo
      subst ea
      have el := ra.len
      have hm := ixN_lt en
      have ex : xs[mm]? = some xs[mm] := List.getElem?_eq_getElem hm
      obtain ⟨u, hu, _⟩ := ra.get ex
      obtain ⟨Ls2, F2, r1, r2, r3, r4, _⟩ := upd_ok (xs2 := xs.set mm v.d) (ws2 := ws.set mm w) f ro eo es hg ha hk (by rw [List.length_set]; exact hk) rv ls c4 ln st eu
        (fun L' Lx ra rx n1 n2 dj => by
          obtain ⟨A, Ly, B, eL, ry, kk⟩ := RoA.split ra ex hu
          subst eL
          have z := kk h v.d w Lx (fun _ _ _ e _ => e) rx
          obtain ⟨nA, nyB, dA⟩ := List.nodup_append.mp n1
          obtain ⟨ny, nB, dy⟩ := List.nodup_append.mp nyB
          refine ⟨_, z, List.nodup_append.mpr ⟨nA, List.nodup_append.mpr ⟨n2, nB, fun x hx y hy z => ?_⟩, fun x hx y hy z => ?_⟩, fun x hx => ?_⟩
          · subst z; exact dj x (List.mem_append_right _ (List.mem_append_right _ hy)) hx
          · subst z
            rcases List.mem_append.mp hy with y | y
            · exact dj x (List.mem_append_left _ hx) y
            · exact dA x hx x (List.mem_append_right _ y) rfl
          · rcases List.mem_append.mp hx with y | y
            · exact .inl (List.mem_append_left _ y)
            · rcases List.mem_append.mp y with y | y
              · exact .inr y
              · exact .inl (List.mem_append_right _ (List.mem_append_right _ y)))
        (fun F' ra rx => RdA.setg ra rx mm)
      refine ⟨h.set a (.lst (ws.set mm w)), ?_, ?_⟩
      · rw [int_of ri ei]
        unfold setV
        dsimp only
        rw [ha]
        dsimp only [obOf]
        rw [el, en]
        rfl
      · exact ⟨.nx ρ, _, p, F2, rfl, r2, t.set r4, by omega, r3, σ', Ls2, q, r1.up (by rw [List.length_set]; exact Nat.le_refl _) (Nat.le_refl _)⟩
  · exact q.elim
end
end Vp
set_option Elab.async false
set_option linter.all false
set_option maxRecDepth 100000
set_option maxHeartbeats 1000000
/-! Vp T5: pop, unpacking, x op= e. -/
namespace Vp
open PySem Mp Cf
section
variable {hot : Bool} {n0 n1 nS : Nat} {ns : List Int} {p b b1 b2 : Nat} {F F' F1 F2 : FP} {h h' h1 h2 : Hq} {nc : Nat} {X : FP} {ρ : Mp.Env} {σ : Sv} {Ls : Nat → List Nat} {lo hi m : Nat} {v : Val} {w : W} {d : D} {Q : QF} {α : Type}
mutual
theorem Ro.uniq {h : Hq} : ∀ (d : D) (w : W) (L M : List Nat), Ro h d w L → Ro h d w M → L = M
  | .nd k xs, w, L, M, r, s => by
    unfold Ro at r s
    obtain ⟨a, ws, L', e1, e2, e3, e4, r⟩ := r
    obtain ⟨b, us, M', f1, f2, f3, f4, s⟩ := s
    subst e1; subst e2; subst f2
    injection f1 with f1
    subst f1
    have : ws = us := obOf_inj (Option.some.inj (e3.symm.trans f3)) e4 f4
    subst this
    rw [RoA.uniq xs ws L' M' r s]
  | .hole, w, L, M, r, s => by unfold Ro at r s; rw [r, s]
  | .exc _ _, w, L, M, r, s => by unfold Ro at r; exact r.elim
  | .non, w, L, M, r, s => by unfold Ro at r s; rw [r.2, s.2]
  | .bl _, w, L, M, r, s => by unfold Ro at r s; rw [r.2, s.2]
  | .int _, w, L, M, r, s => by unfold Ro at r s; rw [r.2, s.2]
  | .str _, w, L, M, r, s => by unfold Ro at r s; rw [r.2, s.2]
  | .ty _, w, L, M, r, s => by unfold Ro at r s; rw [r.2, s.2]
  | .cls _, w, L, M, r, s => by unfold Ro at r s; rw [r.2, s.2]
  | .sto, w, L, M, r, s => by unfold Ro at r s; rw [r.2, s.2]
theorem RoA.uniq {h : Hq} : ∀ (xs : List D) (ws : List W) (L M : List Nat), RoA h xs ws L → RoA h xs ws M → L = M
  | [], ws, L, M, r, s => by unfold RoA at r s; rw [r.2, s.2]
  | x :: xs, ws, L, M, r, s => by
    unfold RoA at r s
    obtain ⟨u, us, L1, L2, e1, e2, r1, r2⟩ := r
    obtain ⟨v, vs, M1, M2, f1, f2, s1, s2⟩ := s
    rw [e1] at f1
    injection f1 with f1 f1'
    subst f1; subst f1'
    rw [e2, f2, Ro.uniq x u L1 M1 r1 s1, RoA.uniq xs us L2 M2 r2 s2]
end
/-- the last part, and the others -/
theorem RoA.last : ∀ {xs : List D} {ws : List W} {L : List Nat} {y : D}, RoA h xs ws L → xs[xs.length - 1]? = some y → ∃ u A Ly, ws[ws.length - 1]? = some u ∧ L = A ++ Ly ∧ RoA h xs.dropLast ws.dropLast A ∧ Ro h y u Ly
  | [], ws, L, y, r, e => by simp at e
  | [x], ws, L, y, r, e => by
    unfold RoA at r
    obtain ⟨u, us, L1, L2, e1, e2, r1, r2⟩ := r
    unfold RoA at r2
    obtain ⟨e3, e4⟩ := r2
    subst e1; subst e2; subst e3; subst e4
    simp at e
    subst e
    exact ⟨u, [], L1, rfl, by simp, by show RoA h [] [] []; unfold RoA; exact ⟨rfl, rfl⟩, r1⟩
  | x :: z :: xs, ws, L, y, r, e => by
    unfold RoA at r
    obtain ⟨u, us, L1, L2, e1, e2, r1, r2⟩ := r
    subst e1; subst e2
    obtain ⟨v, A, Ly, f1, f2, f3, f4⟩ := RoA.last (xs := z :: xs) (y := y) r2 (by simpa using e)
    subst f2
    cases us with
    | nil => simp at f1
    | cons t us => exact ⟨v, L1 ++ A, Ly, by simpa using f1, (List.append_assoc ..).symm, RoA.cons.mpr ⟨L1, A, rfl, r1, f3⟩, f4⟩
theorem RdA.last {xs : List D} {ws : List W} {y : D} (r : RdA F h xs ws) (e : xs[xs.length - 1]? = some y) : ∃ u, ws[ws.length - 1]? = some u ∧ Rd F h y u := by
  obtain ⟨u, a, b⟩ := r.get e
  exact ⟨u, by rw [r.len]; exact a, b⟩
theorem dropLast_take {α : Type} (xs : List α) : xs.dropLast = xs.take (xs.length - 1) := by rw [List.dropLast_eq_take]
/-- i = o.pop() -/
theorem pop_ok' (t : Sto ns h p) (f : Fm hot nc nS X F h ρ σ Ls) {o : Val} {wo : W} {l1 h1 : Nat} (ro : VR hot l1 h1 F h ρ σ Ls o wo) (ls : 4 ≤ h.length) (ln : nc ≤ h.length) {i : Option Nat} (q : kPop i σ Q o) :
    ∃ u h', mthPre .pop wo h = true ∧ mthV .pop wo [] h = some (.ok u, h') ∧ GoS hot nc X ns F h p b (some (.nx (match i with | none => ρ | some i => ρ.set i (some u)), h')) Q := by
  unfold kPop at q
  split at q
  · rename_i xs j q' eo es
    obtain ⟨hg, q⟩ := q
    split at q
    · exact q.elim
    rename_i y ey
    cases eu : upd σ j q' (.nd .lst xs.dropLast) true [] with
    | none => rw [eu] at q; exact q.elim
    | some σ' =>
      rw [eu] at q
      dsimp only [oQ_some] at q
      obtain ⟨a, ws, ea, ha, hk, ra⟩ := ro.obj eo
      subst ea
      have el := ra.len
      have hk : ws.length ≤ line := hk
      obtain ⟨u, hu, ru⟩ := ra.last ey
      have al : a < h.length := (List.getElem?_eq_some_iff.mp ha).1
      obtain ⟨Ls2, F2, r1, r2, r3, r4, r5⟩ := upd_ok (xs2 := xs.dropLast) (ws2 := ws.dropLast) (v := sc .non) (w := .non) (l2 := h.length) f ro eo es hg ha hk (by rw [List.length_dropLast]; omega) (VR_sc rfl) f.le ls ln (ts := []) (c := true) rfl eu
        (fun L' Lx ra rx n1 n2 dj => by
          obtain ⟨L2, z, sl⟩ := RoA.take (xs.length - 1) ra
          rw [← dropLast_take, ← el, ← dropLast_take] at z
          exact ⟨L2, z, n1.sublist sl, fun b hb => .inl (sl.subset hb)⟩)
        (fun F' ra rx => by
          have z := RdA.take (xs.length - 1) ra
          rw [← dropLast_take, ← el, ← dropLast_take] at z
          exact z)
      have epop : mthV .pop (.ref a) [] h = some (.ok u, h.set a (.lst ws.dropLast)) := by
        unfold mthV
        dsimp only
        rw [ha]
        dsimp only [obOf]
        rw [hu]
        rfl
      refine ⟨u, h.set a (.lst ws.dropLast), pre_pop ha, epop, ?_⟩
      have r1' := r1.up (nS' := (h.set a (.lst ws.dropLast)).length) (by rw [List.length_set]; exact Nat.le_refl _) (Nat.le_refl _)
      have done : ∀ {ρ' : Mp.Env} {σ2 : Sv} {Ls3 : Nat → List Nat}, Fm hot nc (h.set a (.lst ws.dropLast)).length X F2 (h.set a (.lst ws.dropLast)) ρ' σ2 Ls3 → Q (.nx σ2) → GoS hot nc X ns F h p b (some (.nx ρ', h.set a (.lst ws.dropLast))) Q := fun ff qq => ⟨_, _, p, F2, rfl, r2, t.set r4, by omega, r3, _, _, qq, ff⟩
      cases i with
      | none => exact done r1' q
      | some i =>
        obtain ⟨_, q⟩ := q
        by_cases hy : isSc y = true
        · rw [if_pos (.inl hy)] at q
          exact done (r1'.frs ((Rd_sc hy).mpr ((Rd_sc hy).mp ru))) q
        · rcases r5 with ⟨z1, _, z3, L', z4, z5, z6⟩ | ⟨z1, z2⟩
          · rw [if_neg (by rw [z1]; simp [hy])] at q
            obtain ⟨u', A, Ly, f1, f2, f3, f4⟩ := z4.last ey
            rw [hu] at f1
            cases f1
            have ndj := (f.nd j).sublist z5
            rw [f2] at ndj
            obtain ⟨na, nd'⟩ := List.nodup_cons.mp ndj
            obtain ⟨nA, nLy, dA⟩ := List.nodup_append.mp nd'
            have sub' : ∀ b ∈ Ly, b ∈ Ls j := fun b hb => z5.subset (by rw [f2]; exact List.mem_cons_of_mem _ (List.mem_append_right _ hb))
            have ry : Ro (h.set a (.lst ws.dropLast)) y u Ly := Ro.mono _ _ _ (fun b o' hb e _ => keep_set (fun z => na (List.mem_append_right _ (z ▸ hb))) e) f4
            refine done (r1'.put (i := i) (w := u) (g := .dp) (L := Ly) (d := y) (Nat.le_refl _) (Nat.le_refl _) (.dp ry) (fun e => by
              cases y <;> first | (cases e; done) | (unfold Ro at ry; exact ry.elim)) nLy (fun b hb => ?_) (fun b hb k _ => z6 b (by rw [f2]; exact List.mem_append_right _ hb) (fun L2 rL z => ?_) k)) q
            · have y' := f.ok j b (sub' b hb)
              have := f.le
              rw [List.length_set, z3]
              exact ⟨y'.1, by omega, y'.2.2⟩
            · rw [RoA.uniq _ _ _ _ rL f3] at z
              exact dA b z b hb rfl
          · rw [if_pos (.inr (z2 rfl))] at q
            obtain ⟨u', hu', ru'⟩ := z1.last ey
            rw [hu] at hu'
            cases hu'
            exact done (r1'.frs ru') q
  · exact q.elim
/-- slots from frozen parts -/
theorem putAll_fr : ∀ {is : List Nat} {xs : List D} {ws : List W} {σ σ' : Sv} {ρ : Mp.Env} {Ls : Nat → List Nat}, Fm hot nc nS X F h ρ σ Ls → RdA F h xs ws → putAll is xs .fr σ = some σ' → ∃ ρ' Ls', setAll is ws ρ = some ρ' ∧ Fm hot nc nS X F h ρ' σ' Ls'
  | [], [], ws, σ, σ', ρ, Ls, f, r, e => by
    unfold RdA at r
    subst r
    cases e
    exact ⟨ρ, Ls, rfl, f⟩
  | i :: is, x :: xs, ws, σ, σ', ρ, Ls, f, r, e => by
    unfold RdA at r
    obtain ⟨u, us, ew, r1, r2⟩ := r
    subst ew
    unfold putAll at e
    rw [show (if isSc x = true then Fg.fr else Fg.fr) = Fg.fr by split <;> rfl] at e
    exact putAll_fr (is := is) (ws := us) (f.frs (i := i) r1) r2 e
  | [], _ :: _, ws, σ, σ', ρ, Ls, f, r, e => by cases e
  | _ :: _, [], ws, σ, σ', ρ, Ls, f, r, e => by cases e
/-- .. from owned parts -/
theorem putAll_dp : ∀ {is : List Nat} {xs : List D} {ws : List W} {σ σ' : Sv} {ρ : Mp.Env} {Ls : Nat → List Nat} {L : List Nat}, Fm hot nc nS X F h ρ σ Ls → RoA h xs ws L → L.Nodup → (∀ a ∈ L, ¬ F a ∧ a < nS ∧ 4 ≤ a ∧ (nc ≤ a ∨ X a)) → (∀ a ∈ L, ∀ k, a ∉ Ls k) →
    putAll is xs .dp σ = some σ' → ∃ ρ' Ls', setAll is ws ρ = some ρ' ∧ Fm hot nc nS X F h ρ' σ' Ls'
  | [], [], ws, σ, σ', ρ, Ls, L, f, r, nd, k, dj, e => by
    unfold RoA at r
    rw [r.1]
    cases e
    exact ⟨ρ, Ls, rfl, f⟩
  | i :: is, x :: xs, ws, σ, σ', ρ, Ls, L, f, r, nd, k, dj, e => by
    unfold RoA at r
    obtain ⟨u, us, L1, L2, ew, eL, r1, r2⟩ := r
    subst ew; subst eL
    obtain ⟨n1, n2, n3⟩ := List.nodup_append.mp nd
    unfold putAll at e
    by_cases hx : isSc x = true
    · rw [if_pos hx] at e
      have e1 := (Ro_sc hx).mp r1
      obtain ⟨e1, e1'⟩ := e1
      subst e1'
      refine putAll_dp (is := is) (ws := us) (f.frs (i := i) ((Rd_sc hx).mpr e1)) r2 n2 (fun a ha => k a (List.mem_append_right _ ha)) (fun a ha j z => ?_) e
      unfold upL at z
      split at z
      · cases z
      · exact dj a (List.mem_append_right _ ha) j z
    · rw [if_neg hx] at e
      refine putAll_dp (is := is) (ws := us) (f.put (i := i) (w := u) (g := .dp) (L := L1) (d := x) (Nat.le_refl _) f.le (.dp r1) (fun e => by
          cases x <;> first | (cases e; done) | (unfold Ro at r1; exact r1.elim)) n1 (fun a ha => k a (List.mem_append_left _ ha)) (fun a ha j _ => dj a (List.mem_append_left _ ha) j)) r2 n2 (fun a ha => k a (List.mem_append_right _ ha)) (fun a ha j z => ?_) e
      unfold upL at z
      split at z
      · exact n3 a z a ha rfl
      · exact dj a (List.mem_append_right _ ha) j z
  | [], _ :: _, ws, σ, σ', ρ, Ls, L, f, r, nd, k, dj, e => by cases e
  | _ :: _, [], ws, σ, σ', ρ, Ls, L, f, r, nd, k, dj, e => by cases e
theorem unp_ok {is : List Nat} (t : Sto ns h p) (f : Fm hot nc nS X F h ρ σ Ls) (r : VR hot lo h.length F h ρ σ Ls v w) (l : nS ≤ lo) (c4 : 4 ≤ lo) (ln : nc ≤ lo) (q : kUnp is σ Q v) :
    ∃ xs ρ', tupOf h w = some xs ∧ setAll is xs ρ = some ρ' ∧ GoS hot nc X ns F h p b (some (.nx ρ', h)) Q := by
  unfold kUnp at q
  split at q
  · rename_i xs ev
    obtain ⟨a, ws, ea, ha, hk, ra⟩ := r.obj ev
    subst ea
    have et : tupOf h (.ref a) = some ws := by unfold tupOf; dsimp only; rw [ha]; rfl
    split at q
    · rename_i hc
      cases ep : putAll is xs .fr σ with
      | none => rw [ep] at q; exact q.elim
      | some σ' =>
        rw [ep] at q
        have rf : RdA F h xs ws := by
          have z : cpy v xs = some true ∨ cpy v xs = some false := by
            unfold cpy
            split
            · exact .inl rfl
            · rename_i hs
              cases hg : v.g with
              | fr => exact .inr rfl
              | rt => exact .inr rfl
              | dp => exact (hc.elim hs fun z => z hg).elim
          by_cases hs : xs.all isSc = true
          · rw [RdA.scal hs ra]; exact RdA.of_scal hs
          · have z : cpy v xs = some false := by
              unfold cpy
              rw [if_neg hs]
              cases hg : v.g with
              | fr => rfl
              | rt => rfl
              | dp => exact (hc.elim hs fun z => z hg).elim
            obtain ⟨L, kd, _⟩ := cpy_all r ev rfl ha hk z
            exact kd.1
        obtain ⟨ρ', Ls', e1, f1⟩ := putAll_fr f rf ep
        exact ⟨ws, ρ', et, e1, .nx t f1 q⟩
    · rename_i hc
      have hg : v.g = .dp := by
        cases hg : v.g with
        | dp => rfl
        | fr => exact (hc (.inr (by rw [hg]; intro z; cases z))).elim
        | rt => exact (hc (.inr (by rw [hg]; intro z; cases z))).elim
      have main : ∀ σ1, (match v.s with | .t ts => some (clr σ ts) | .p j q => tak σ j q) = some σ1 → (oQ (putAll is xs .dp σ1) fun σ' => Q (.nx σ')) → ∃ xs ρ', tupOf h (.ref a) = some xs ∧ setAll is xs ρ = some ρ' ∧ GoS hot nc X ns F h p b (some (.nx ρ', h)) Q := by
        intro σ1 e1 q
        obtain ⟨L, Ls', f1, o, ed, nd, kk, dj⟩ := claim_ok f r l c4 ln (by rw [hg]; intro z; cases z) e1
        rw [hg, ev] at o
        obtain ⟨L', eL, ro⟩ := RoA.obj o.dp' ha hk
        cases ep : putAll is xs .dp σ1 with
        | none => rw [ep] at q; exact q.elim
        | some σ' =>
          rw [ep] at q
          have sub' : ∀ b ∈ L', b ∈ L := fun b hb => by rw [eL]; exact List.mem_cons_of_mem _ hb
          rw [eL] at nd
          obtain ⟨ρ', Ls2, e2, f2⟩ := putAll_dp (f1.up f.le (Nat.le_refl _)) ro (List.nodup_cons.mp nd).2 (fun b hb => kk b (sub' b hb)) (fun b hb => dj b (sub' b hb)) ep
          exact ⟨ws, ρ', et, e2, .nx t f2 q⟩
      split at q
      · rename_i ts hs
        rw [hs] at main
        exact main _ rfl q
      · rename_i j hs
        rw [hs] at main
        exact main _ rfl q
      · exact q.elim
  · exact q.elim
theorem aug_ok {o : BOp} {x y : Val} {wx wy : W} (rx : wx = scW x.d) (sx : isSc x.d = true) (ry : VR hot lo hi F h ρ σ Ls y wy) {v : Val} (e : vAug o x y = some v) : augV o wx wy h = ret (scW v.d) h ∧ isSc v.d = true := by
  unfold vAug at e
  split at e
  · rename_i i j ex ey
    cases e
    rw [rx, ex, int_of ry ey]
    exact ⟨rfl, rfl⟩
  · rename_i i j ex ey
    split at e
    · rename_i hl
      cases e
      rw [rx, ex, str_of ry ey]
      exact ⟨if_pos hl, rfl⟩
    · cases e
  · rename_i i j ex ey
    cases e
    rw [rx, ex, int_of ry ey]
    exact ⟨rfl, rfl⟩
  · cases e
end
end Vp
set_option Elab.async false
set_option linter.all false
set_option maxRecDepth 100000
set_option maxHeartbeats 1000000
/-! Vp T6: loops, handlers, statements. -/
namespace Vp
open PySem Mp Cf
mutual
def bS (bt : Nat → Nat) (wf : Nat) : S → Nat
  | .asg _ e => bE bt e
  | .asc _ e => bE bt e
  | .unp _ e => bE bt e
  | .sto o i e => bE bt e + (bE bt o + bE bt i)
  | .aug _ _ e => bE bt e
  | .exp e => bE bt e
  | .ite c a b => bE bt c + (bSs bt wf a + bSs bt wf b)
  | .whl c b => wf * (bE bt c + bSs bt wf b)
  | .for _ s b => bS0 bt s + LB * bSs bt wf b
  | .ret e => bE bt e
  | .ret0 => 0
  | .rse _ e => bE bt e
  | .try b _ _ hb => bSs bt wf b + bSs bt wf hb
  | .brk => 0 | .cnt => 0 | .pas => 0 | .frz _ => 0
def bSs (bt : Nat → Nat) (wf : Nat) : Ss → Nat
  | .nil => 0
  | .cons s r => bS bt wf s + bSs bt wf r
end
section
variable {hot : Bool} {n0 n1 nS : Nat} {ns : List Int} {p b b1 b2 : Nat} {F F' F1 F2 : FP} {h h' h1 h2 : Hq} {nc : Nat} {X : FP} {ρ : Mp.Env} {σ : Sv} {Ls : Nat → List Nat} {lo hi m : Nat} {v : Val} {w : W} {d : D} {Q : QF} {α : Type}
/-- a block's run keeps what the plain run says -/
def BkOk (ns : List Int) (nc : Nat) (X : FP) (hot : Bool) (wb : WS) (rb : Mp.Env → Hq → RS) (b : Nat) : Prop := ∀ σ Q ρ h F Ls p, wb σ Q → Fm hot nc h.length X F h ρ σ Ls → Sto ns h p → p + b ≤ Mx → nc ≤ h.length → GoS hot nc X ns F h p b (rb ρ h) Q
theorem GoS.mono {r : RS} {Q Q' : QF} (a : GoS hot nc X ns F h p b r Q) (k : ∀ f, Q f → Q' f) : GoS hot nc X ns F h p b r Q' := by
  obtain ⟨f, h', p', F', e, kp, t, pb, fb, z⟩ := a
  refine ⟨f, h', p', F', e, kp, t, pb, fb, ?_⟩
  cases f with
  | nx ρ => obtain ⟨σ, Ls, q, z⟩ := z; exact ⟨σ, Ls, k _ q, z⟩
  | brk ρ => obtain ⟨σ, Ls, q, z⟩ := z; exact ⟨σ, Ls, k _ q, z⟩
  | ct ρ => obtain ⟨σ, Ls, q, z⟩ := z; exact ⟨σ, Ls, k _ q, z⟩
  | ret w => obtain ⟨d, g, L, q, z⟩ := z; exact ⟨d, g, L, k _ q, z⟩
  | exc c w ρ => obtain ⟨d, σ, Ls, q, z⟩ := z; exact ⟨d, σ, Ls, k _ q, z⟩
/-- one block behind another -/
theorem GoS.sq {r : RS} {f : Mp.Env → Hq → RS} {wr : WS} (a : GoS hot nc X ns F h p b1 r (sqF wr Q)) (k : BkOk ns nc X hot wr f b2) (hp : p + (b1 + b2) ≤ Mx) (ln : nc ≤ h.length) : GoS hot nc X ns F h p (b1 + b2) (Mp.sq r f) Q := by
  obtain ⟨fl, h1, p1, F1, e, kp, t, pb, fb, z⟩ := a
  subst e
  cases fl with
  | nx ρ' =>
    obtain ⟨σ', Ls', q, fm⟩ := z
    exact (k σ' Q ρ' h1 F1 Ls' p1 q fm t (by omega) (Nat.le_trans ln kp.le)).after kp pb
  | brk ρ' => exact ⟨_, h1, p1, F1, rfl, kp, t, by omega, fb, z⟩
  | ct ρ' => exact ⟨_, h1, p1, F1, rfl, kp, t, by omega, fb, z⟩
  | ret w => exact ⟨_, h1, p1, F1, rfl, kp, t, by omega, fb, z⟩
  | exc c w ρ' => exact ⟨_, h1, p1, F1, rfl, kp, t, by omega, fb, z⟩
/-- what a for walks -/
def PinF (g : Option (Nat × Ob)) (F : FP) (h : Hq) : Prop := g = none ∨ ∃ a k ws, g = some (a, obOf k ws) ∧ F a ∧ a ≠ 3 ∧ h[a]? = some (obOf k ws)
theorem PinF.stays {g : Option (Nat × Ob)} (pn : PinF g F h) (kp : KpS hot nc X F F1 h h1) : stays g h1 = true := by
  rcases pn with rfl | ⟨a, k, ws, rfl, fa, a3, ha⟩
  · rfl
  · exact stays_at (kp.keep a _ (.inr fa) a3 ha (.inr (isX_ob _ _)))
theorem for_go {g : Option (Nat × Ob)} {i : Nat} {wb : WS} {rb : Mp.Env → Hq → RS} (bk : BkOk ns nc X hot wb rb b) {F0 : FP} {h0 : Hq} (pn : PinF g F0 h0) (fb0 : FB F0 h0) :
    ∀ (xs : List D) (ws : List W) (σ : Sv) (ρ : Mp.Env) (h : Hq) (F : FP) (Ls : Nat → List Nat) (p : Nat), RdA F0 h0 xs ws → KpS hot nc X F0 F h0 h → Fm hot nc h.length X F h ρ σ Ls → Sto ns h p → p + xs.length * b ≤ Mx → nc ≤ h.length → wFor i wb xs σ Q →
      GoS hot nc X ns F h p (xs.length * b) (forL g i rb ws ρ h) Q
  | [], ws, σ, ρ, h, F, Ls, p, rd, kp, fm, t, hp, ln, q => by
    unfold RdA at rd
    subst rd
    rw [forL_nil (pn.stays kp)]
    unfold wFor at q
    exact .nx t fm q
  | x :: xs, ws, σ, ρ, h, F, Ls, p, rd, kp, fm, t, hp, ln, q => by
    unfold RdA at rd
    obtain ⟨u, us, ew, r1, r2⟩ := rd
    subst ew
    unfold wFor at q
    have hp' : p + (xs.length * b + b) ≤ Mx := by rw [List.length_cons, Nat.succ_mul] at hp; exact hp
    have rx : Rd F h x u := Rd.mono kp.sub (fun a o fa e hx => kp.keep a o (.inr fa) (fb0 a fa).2 e (.inr hx)) _ _ r1
    have := bk _ _ (ρ.set i (some u)) h F _ p q (fm.frs (i := i) rx) t (by omega) ln
    obtain ⟨fl, h1, p1, F1, e, kp1, t1, pb1, fb1, z⟩ := this
    have kp2 := kp.trans kp1
    have ln1 := Nat.le_trans ln kp1.le
    rw [forL, if_pos (pn.stays kp), e]
    rw [show (x :: xs).length * b = b + xs.length * b by rw [List.length_cons, Nat.succ_mul, Nat.add_comm]]
    cases fl with
    | nx ρ' =>
      obtain ⟨σ', Ls', q, fm'⟩ := z
      exact (for_go bk pn fb0 xs us σ' ρ' h1 F1 Ls' p1 r2 kp2 fm' t1 (by omega) ln1 q).after kp1 pb1
    | ct ρ' =>
      obtain ⟨σ', Ls', q, fm'⟩ := z
      exact (for_go bk pn fb0 xs us σ' ρ' h1 F1 Ls' p1 r2 kp2 fm' t1 (by omega) ln1 q).after kp1 pb1
    | brk ρ' =>
      obtain ⟨σ', Ls', q, fm'⟩ := z
      exact ⟨.nx ρ', h1, p1, F1, rfl, kp1, t1, by omega, fb1, σ', Ls', q, fm'⟩
    | ret w => exact ⟨_, h1, p1, F1, rfl, kp1, t1, by omega, fb1, z⟩
    | exc c w ρ' => exact ⟨_, h1, p1, F1, rfl, kp1, t1, by omega, fb1, z⟩
theorem whl_go {wt : Sv → WB} {wb : WS} {rt : Mp.Env → Hq → M Bool} {rb : Mp.Env → Hq → RS} (bk : BkOk ns nc X hot wb rb b2)
    (tk : ∀ (σ : Sv) (Q : Bool → Prop) (Xq : QX) (ρ : Mp.Env) (h : Hq) (F : FP) (Ls : Nat → List Nat) (p : Nat), wt σ Q Xq → Fm hot nc h.length X F h ρ σ Ls → Sto ns h p → p + b1 ≤ Mx → nc ≤ h.length → Go hot h.length ns F h p b1 (rt ρ h) (PB Q) Xq) :
    ∀ (n : Nat) (σ : Sv) (ρ : Mp.Env) (h : Hq) (F : FP) (Ls : Nat → List Nat) (p : Nat), Fm hot nc h.length X F h ρ σ Ls → Sto ns h p → p + n * (b1 + b2) ≤ Mx → nc ≤ h.length → wWhl wt wb n σ Q → GoS hot nc X ns F h p (n * (b1 + b2)) (whileL rt rb n ρ h) Q
  | 0, σ, ρ, h, F, Ls, p, fm, t, hp, ln, q => by unfold wWhl at q; exact q.elim
  | n + 1, σ, ρ, h, F, Ls, p, fm, t, hp, ln, q => by
    unfold wWhl at q
    have hp' : p + (n * (b1 + b2) + (b1 + b2)) ≤ Mx := by rw [Nat.succ_mul] at hp; exact hp
    obtain ⟨e, h1, p1, F1, e1, s, t1, pb, fb, z⟩ := tk σ _ _ ρ h F Ls p q fm t (by omega) ln
    have f1 := (fm.step s (Nat.le_refl _) fb).up s.le (Nat.le_refl _)
    have kp : KpS hot nc X F F1 h h1 := s.kps ln
    have ln1 := Nat.le_trans ln s.le
    rw [whileL, e1]
    rw [show (n + 1) * (b1 + b2) = b1 + (b2 + n * (b1 + b2)) by rw [Nat.succ_mul]; omega]
    cases e with
    | exc c w =>
      obtain ⟨d, q, hd, ew⟩ := z
      exact ⟨.exc c w ρ, h1, p1, F1, rfl, kp, t1, by omega, fb, d, σ, Ls, q, hd, ew, f1⟩
    | ok tb =>
      cases tb with
      | false => exact ⟨.nx ρ, h1, p1, F1, rfl, kp, t1, by omega, fb, σ, Ls, z, f1⟩
      | true =>
        obtain ⟨fl, h2, p2, F2, e2, kp2, t2, pb2, fb2, z⟩ := bk σ _ ρ h1 F1 Ls p1 z f1 t1 (by omega) ln1
        dsimp only
        rw [e2]
        have ln2 := Nat.le_trans ln1 kp2.le
        cases fl with
        | nx ρ' =>
          obtain ⟨σ', Ls', q, fm'⟩ := z
          exact ((whl_go bk tk n σ' ρ' h2 F2 Ls' p2 fm' t2 (by omega) ln2 q).after kp2 pb2).after kp pb
        | ct ρ' =>
          obtain ⟨σ', Ls', q, fm'⟩ := z
          exact ((whl_go bk tk n σ' ρ' h2 F2 Ls' p2 fm' t2 (by omega) ln2 q).after kp2 pb2).after kp pb
        | brk ρ' =>
          obtain ⟨σ', Ls', q, fm'⟩ := z
          exact ⟨.nx ρ', h2, p2, F2, rfl, kp.trans kp2, t2, by omega, fb2, σ', Ls', q, fm'⟩
        | ret w => exact ⟨_, h2, p2, F2, rfl, kp.trans kp2, t2, by omega, fb2, z⟩
        | exc c w ρ' => exact ⟨_, h2, p2, F2, rfl, kp.trans kp2, t2, by omega, fb2, z⟩
/-! ### a handled exception is let go -/
theorem kill_get {a : Nat} {o : Ob} (e : h[a]? = some o) (x : isX o = false) : (h.map killX)[a]? = some o := by
  rw [List.getElem?_map, e]
  cases o <;> first | rfl | cases x
theorem Sto.kill (t : Sto ns h p) : Sto ns (h.map killX) p := by
  obtain ⟨s, e, q, i⟩ := t
  refine ⟨s, e.map killX, ?_, i⟩
  rw [q, List.map_append]
  rfl
theorem Own.kill {g : Fg} {L : List Nat} (o : Own F h g d w L) (ed : isExc d = false) : Own F (h.map killX) g d w L := o.keep (fun _ z => z) (fun a u _ e x => kill_get e x) (fun z => by rw [ed] at z; cases z)
theorem FB.kill (f : FB F h) : FB F (h.map killX) := fun a z => by rw [List.length_map]; exact f a z
theorem noX_get {i : Nat} {g : Fg} (n : noX σ = true) (e : σ[i]? = some (some (d, g))) : isExc d = false := by
  unfold noX at n
  have := List.all_eq_true.mp n _ (List.mem_of_getElem? e)
  cases d <;> first | rfl | cases this
theorem KpS.kill (k : KpS true nc X F F1 h h1) : KpS false nc X F F1 h (h1.map killX) := ⟨by rw [List.length_map]; exact k.le, fun a o z a3 e q => kill_get (k.keep a o z a3 e (.inl rfl)) (q.elim (fun z => by cases z) id), k.sub, k.new⟩
theorem Fm.toHot (f : Fm hot nc nS X F h ρ σ Ls) : Fm true nc nS X F h ρ σ Ls := ⟨f.len, f.sl, f.nd, f.dj, f.ok, f.le, f.fb, fun z => by cases z⟩
end
end Vp
set_option Elab.async false
set_option linter.all false
set_option maxRecDepth 100000
set_option maxHeartbeats 1000000
/-! Vp T7: statements keep what the plain run says. -/
namespace Vp
open PySem Mp Cf
section
variable {ns : List Int} {Γ : Gam} {k : Calls} {kv : Cl} {bt : Nat → Nat} {wf : Nat} {nc : Nat} {X : FP}
theorem mid_of {hot : Bool} {F : FP} {h : Hq} {ρ : Mp.Env} {σ : Sv} {Ls : Nat → List Nat} {p : Nat} (fm : Fm hot nc h.length X F h ρ σ Ls) (t : Sto ns h p) : Mid hot nc h.length X ns F h ρ σ Ls h.length p := ⟨fm, t, Nat.le_refl _, t.len, Nat.le_refl _⟩
theorem exc_end {hot : Bool} {F F1 : FP} {h h1 : Hq} {ρ : Mp.Env} {σ : Sv} {Ls : Nat → List Nat} {p p1 b : Nat} {Q : QF} {c : Nat} {w : W} (s : Step hot h.length F F1 h h1) (ln : nc ≤ h.length) (fm : Fm hot nc h.length X F h ρ σ Ls) (t : Sto ns h1 p1) (pb : p1 ≤ p + b) (fb : FB F1 h1) (z : ∃ d, kX σ Q c d ∧ isSc d = true ∧ w = scW d) :
    GoS hot nc X ns F h p b (some (.exc c w ρ, h1)) Q := by
  obtain ⟨d, q, hd, ew⟩ := z
  exact ⟨_, h1, p1, F1, rfl, s.kps ln, t, pb, fb, d, σ, Ls, q, hd, ew, (fm.step s (Nat.le_refl _) fb).up s.le (Nat.le_refl _)⟩
theorem frz_go {hot : Bool} {h : Hq} {ρ : Mp.Env} {p b : Nat} {Q : QF} (t : Sto ns h p) : ∀ (is : List Nat) {σ : Sv} {Ls : Nat → List Nat} {F : FP}, Fm hot nc h.length X F h ρ σ Ls → Q (.nx (frz σ is)) → GoS hot nc X ns F h p b (some (.nx ρ, h)) Q
  | [], σ, Ls, F, fm, q => .nx t fm q
  | i :: is, σ, Ls, F, fm, q => by
    have f1 := fm.frz1 i
    obtain ⟨f, h', p', F', e, kp, t', pb, fb, z⟩ := frz_go (b := b) t is f1 q
    refine ⟨f, h', p', F', e, ⟨kp.le, fun a o z => kp.keep a o (z.imp id .inl), fun a z => kp.sub a (.inl z), fun a z => ?_⟩, t', pb, fb, z⟩
    rcases kp.new a z with (z | z) | z
    · exact .inl z
    · exact .inr (fm.ok i a z).2.2.2
    · exact .inr z
theorem isExc_noexc {d : D} (h : isExc d = false) : ∀ c x, d ≠ .exc c x := fun c x z => by rw [z] at h; cases h
mutual
theorem exS_go (C : ClOk ns bt k kv) : ∀ (s : S) (hot : Bool), BkOk ns nc X hot (wS Γ wf kv hot s) (exS Γ wf k s) (bS bt wf s)
  | .asg i e, hot, σ, Q, ρ, h, F, Ls, p, q, fm, t, hp, ln => by
    unfold wS at q
    rw [exS]
    unfold bS at hp ⊢
    have M := mid_of fm t
    cases he : popOf e with
    | none =>
      rw [he] at q
      exact GoS.lft (b2 := 0) fm ln (evE_go C e hot σ _ _ ρ h F Ls p _ q M hp) fun F1 h1 p1 w s t1 pb fb f1 ⟨v, qv, rv⟩ => put_ok t1 f1 rv (Nat.le_refl _) M.c ln qv
    | some o =>
      rw [he] at q
      have ee : e = .mth .pop o .nil := by
        unfold popOf at he
        split at he
        · cases he; rfl
        · cases he
      subst ee
      rw [evE]
      have hb : bE bt (.mth .pop o .nil) = bE bt o := by simp only [bE, bEs, Nat.add_zero]
      rw [hb] at hp ⊢
      obtain ⟨e1, h1, p1, F1, r1, s, t1, pb, fb, z⟩ := evE_go C o hot σ _ _ ρ h F Ls p _ q M hp
      rw [r1]
      cases e1 with
      | exc c w => exact exc_end s ln fm t1 (by omega) fb z
      | ok wo =>
        obtain ⟨v, qv, rv⟩ := z
        have f1 := fm.step s (Nat.le_refl _) fb
        obtain ⟨u, h2, hpre, hpop, g⟩ := pop_ok' (b := 0) t1 (f1.up s.le (Nat.le_refl _)) rv t1.len (Nat.le_trans ln s.le) qv
        have g := (g.after (s.kps ln) pb : GoS hot nc X ns F h p (bE bt o + 0) _ Q)
        have : Mp.lft (Mp.bnd (some (Er.ok wo, h1)) fun x h => if mthPre .pop x h = true then Mp.bnd (evEs Γ k .nil ρ h) fun vs h => mthV .pop x vs h else none) ρ (fun v h => some (.nx (ρ.set i (some v)), h)) = some (.nx (ρ.set i (some u)), h2) := by
          show Mp.lft (if mthPre .pop wo h1 = true then Mp.bnd (evEs Γ k .nil ρ h1) fun vs h => mthV .pop wo vs h else none) ρ _ = _
          rw [if_pos hpre, evEs]
          show Mp.lft (mthV .pop wo [] h1) ρ _ = _
          rw [hpop]
          rfl
        rw [this]
        exact g
  | .asc i e, hot, σ, Q, ρ, h, F, Ls, p, q, fm, t, hp, ln => by
    unfold wS at q
    rw [exS]
    unfold bS at hp ⊢
    have M := mid_of fm t
    exact GoS.lft (b2 := 0) fm ln (evE_go C e hot σ _ _ ρ h F Ls p _ q M hp) fun F1 h1 p1 w s t1 pb fb f1 ⟨v, qv, rv⟩ => put_ok t1 f1 rv (Nat.le_refl _) M.c ln qv
  | .unp is e, hot, σ, Q, ρ, h, F, Ls, p, q, fm, t, hp, ln => by
    unfold wS at q
    rw [exS]
    unfold bS at hp ⊢
    have M := mid_of fm t
    refine GoS.lft (b2 := 0) fm ln (evE_go C e hot σ _ _ ρ h F Ls p _ q M hp) fun F1 h1 p1 w s t1 pb fb f1 ⟨v, qv, rv⟩ => ?_
    obtain ⟨xs, ρ', e1, e2, g⟩ := unp_ok (b := 0) t1 f1 rv (Nat.le_refl _) M.c ln qv
    rw [e1]
    dsimp only
    rw [e2]
    exact g
  | .sto o i e, hot, σ, Q, ρ, h, F, Ls, p, q, fm, t, hp, ln => by
    unfold wS at q
    rw [exS]
    unfold bS at hp ⊢
    have M := mid_of fm t
    obtain ⟨e1, h1, p1, F1, r1, s, t1, pb, fb, z⟩ := evE_go C e hot σ _ _ ρ h F Ls p _ q M (by omega)
    rw [r1]
    cases e1 with
    | exc c w => exact exc_end s ln fm t1 (by omega) fb z
    | ok w =>
      obtain ⟨v, qv, rv⟩ := z
      have f1 := fm.step s (Nat.le_refl _) fb
      have M1 := M.next s (Nat.le_refl _) t1 fb
      obtain ⟨e2, h2, p2, F2, r2, s2, t2, pb2, fb2, z⟩ := evE_go C o hot σ _ _ ρ h1 F1 Ls p1 _ qv M1 (by omega)
      rw [lft_ok, r2]
      have s12 := s.trans (s2.low s.le)
      cases e2 with
      | exc c w' => exact exc_end s12 ln fm t2 (by omega) fb2 z
      | ok wo =>
        obtain ⟨vo, qo, ro⟩ := z
        have f2 := f1.step s2 s.le fb2
        have M2 := M1.next s2 M1.l t2 fb2
        obtain ⟨e3, h3, p3, F3, r3, s3, t3, pb3, fb3, z⟩ := evE_go C i hot σ _ _ ρ h2 F2 Ls p2 _ qo M2 (by omega)
        rw [lft_ok, r3]
        have s123 := s12.trans (s3.low (Nat.le_trans s.le s2.le))
        cases e3 with
        | exc c w' => exact exc_end s123 ln fm t3 (by omega) fb3 z
        | ok wi =>
          obtain ⟨vi, qi, ri⟩ := z
          have f3 := f2.step s3 (Nat.le_trans s.le s2.le) fb3
          have rv3 := (rv.step f1 s2 s.le (Nat.le_refl _) M.c).step f2 s3 (Nat.le_trans s.le s2.le) s2.le M.c
          have ro3 := ro.step f2 s3 (Nat.le_trans s.le s2.le) (Nat.le_refl _) M1.c
          obtain ⟨h4, e4, g⟩ := store_ok' (b := 0) t3 f3 ro3 ri (rv3.up (Nat.le_refl _) (Nat.le_trans s2.le s3.le)) (Nat.le_refl _) M.c ln qi
          show GoS _ _ _ _ _ _ _ _ (match setV wo wi w h3 with | some h' => some (.nx ρ, h') | none => none) _
          rw [e4]
          have := g.after (p := p) (b2 := bE bt e + (bE bt o + bE bt i)) (s123.kps ln) (by omega)
          exact this
  | .aug i o e, hot, σ, Q, ρ, h, F, Ls, p, q, fm, t, hp, ln => by
    unfold wS at q
    rw [exS]
    unfold bS at hp ⊢
    have M := mid_of fm t
    cases es : σ[i]? with
    | none => rw [es] at q; exact q.elim
    | some sl => cases sl with
      | none => rw [es] at q; exact q.elim
      | some dg =>
        obtain ⟨d, g⟩ := dg
        rw [es] at q
        obtain ⟨sd, q⟩ := q
        obtain ⟨w0, e0, o0⟩ := fm.sl i d g es
        rw [e0]
        dsimp only
        have ew0 : w0 = scW d := (Rd_sc sd).mp (o0.tt (isExc_sc sd))
        refine GoS.lft (b2 := 0) fm ln (evE_go C e hot σ _ _ ρ h F Ls p _ q M hp) fun F1 h1 p1 w s t1 pb fb f1 ⟨v, qv, rv⟩ => ?_
        unfold kAug2 at qv
        cases ea : vAug o (sc d) v with
        | none => rw [ea] at qv; exact qv.elim
        | some r =>
          rw [ea] at qv
          obtain ⟨a1, a2⟩ := aug_ok (x := sc d) ew0 sd rv ea
          rw [a1]
          exact .nx t1 (f1.frs ((Rd_sc a2).mpr rfl)) qv
  | .exp e, hot, σ, Q, ρ, h, F, Ls, p, q, fm, t, hp, ln => by
    unfold wS at q
    rw [exS]
    unfold bS at hp ⊢
    have M := mid_of fm t
    cases ha : appOf e with
    | some oe =>
      obtain ⟨o, x⟩ := oe
      rw [ha] at q
      have ee : e = .mth .append o (.cons x .nil) := by
        unfold appOf at ha
        split at ha
        · cases ha; rfl
        · cases ha
      subst ee
      rw [evE]
      have hb : bE bt (.mth .append o (.cons x .nil)) = bE bt o + bE bt x := by simp only [bE, bEs, Nat.add_zero]
      rw [hb] at hp ⊢
      obtain ⟨e1, h1, p1, F1, r1, s, t1, pb, fb, z⟩ := evE_go C o hot σ _ _ ρ h F Ls p _ q M (by omega)
      rw [r1]
      cases e1 with
      | exc c w => exact exc_end s ln fm t1 (by omega) fb z
      | ok wo =>
        obtain ⟨vo, qo, ro⟩ := z
        have f1 := fm.step s (Nat.le_refl _) fb
        have M1 := M.next s (Nat.le_refl _) t1 fb
        unfold kApp1 at qo
        split at qo
        · rename_i xs eo
          obtain ⟨a, ws, ea, hat, hk, ra⟩ := ro.obj eo
          have hpre : mthPre .append wo h1 = true := by rw [ea]; exact pre_append hat
          obtain ⟨e2, h2, p2, F2, r2, s2, t2, pb2, fb2, z⟩ := evE_go C x hot σ _ _ ρ h1 F1 Ls p1 _ qo M1 (by omega)
          have s12 := s.trans (s2.low s.le)
          have run : Mp.lft (Mp.bnd (some (Er.ok wo, h1)) fun x_1 h => if mthPre .append x_1 h = true then Mp.bnd (evEs Γ k (.cons x .nil) ρ h) fun vs h => mthV .append x_1 vs h else none) ρ (fun _ h => some (.nx ρ, h)) =
              Mp.lft (Mp.bnd (evE Γ k x ρ h1) fun w h => mthV .append wo [w] h) ρ (fun _ h => some (.nx ρ, h)) := by
            show Mp.lft (if mthPre .append wo h1 = true then Mp.bnd (evEs Γ k (.cons x .nil) ρ h1) fun vs h => mthV .append wo vs h else none) ρ _ = _
            rw [if_pos hpre, evEs]
            cases hx : evE Γ k x ρ h1 with
            | none => rfl
            | some rr =>
              obtain ⟨er, hr⟩ := rr
              cases er with
              | exc c w => rfl
              | ok w =>
                show Mp.lft (Mp.bnd (Mp.bnd (evEs Γ k .nil ρ hr) fun vs h => Mp.ret (w :: vs) h) fun vs h => mthV .append wo vs h) ρ _ = _
                rw [evEs]
                rfl
          rw [run, r2]
          cases e2 with
          | exc c w' => exact exc_end s12 ln fm t2 (by omega) fb2 z
          | ok w =>
            obtain ⟨v, qv, rv⟩ := z
            have f2 := f1.step s2 s.le fb2
            obtain ⟨h3, e3, g⟩ := append_ok' (b := 0) t2 f2 (ro.step f1 s2 s.le (Nat.le_refl _) M.c) rv s.le M1.c (Nat.le_trans ln s.le) qv
            show GoS _ _ _ _ _ _ _ _ (Mp.lft (mthV .append wo [w] h2) ρ fun _ h => some (.nx ρ, h)) _
            rw [e3]
            have := g.after (p := p) (b2 := bE bt o + bE bt x) (s12.kps ln) (by omega)
            exact this
        · exact qo.elim
    | none =>
      rw [ha] at q
      dsimp only at q
      cases he : popOf e with
      | none =>
        rw [he] at q
        exact GoS.lft (b2 := 0) fm ln (evE_go C e hot σ _ _ ρ h F Ls p _ q M hp) fun F1 h1 p1 w s t1 pb fb f1 ⟨v, qv, rv⟩ => .nx t1 f1 qv
      | some o =>
        rw [he] at q
        have ee : e = .mth .pop o .nil := by
          unfold popOf at he
          split at he
          · cases he; rfl
          · cases he
        subst ee
        rw [evE]
        have hb : bE bt (.mth .pop o .nil) = bE bt o := by simp only [bE, bEs, Nat.add_zero]
        rw [hb] at hp ⊢
        obtain ⟨e1, h1, p1, F1, r1, s, t1, pb, fb, z⟩ := evE_go C o hot σ _ _ ρ h F Ls p _ q M hp
        rw [r1]
        cases e1 with
        | exc c w => exact exc_end s ln fm t1 (by omega) fb z
        | ok wo =>
          obtain ⟨v, qv, rv⟩ := z
          have f1 := fm.step s (Nat.le_refl _) fb
          obtain ⟨u, h2, hpre, hpop, g⟩ := pop_ok' (b := 0) t1 (f1.up s.le (Nat.le_refl _)) rv t1.len (Nat.le_trans ln s.le) qv
          have g := (g.after (s.kps ln) pb : GoS hot nc X ns F h p (bE bt o + 0) _ Q)
          have : Mp.lft (Mp.bnd (some (Er.ok wo, h1)) fun x h => if mthPre .pop x h = true then Mp.bnd (evEs Γ k .nil ρ h) fun vs h => mthV .pop x vs h else none) ρ (fun _ h => some (.nx ρ, h)) = some (.nx ρ, h2) := by
            show Mp.lft (if mthPre .pop wo h1 = true then Mp.bnd (evEs Γ k .nil ρ h1) fun vs h => mthV .pop wo vs h else none) ρ _ = _
            rw [if_pos hpre, evEs]
            show Mp.lft (mthV .pop wo [] h1) ρ _ = _
            rw [hpop]
            rfl
          rw [this]
          exact g
  | .ite c a b, hot, σ, Q, ρ, h, F, Ls, p, q, fm, t, hp, ln => by
    unfold wS at q
    rw [exS]
    unfold bS at hp ⊢
    have M := mid_of fm t
    refine GoS.lft fm ln (evT_go C c hot σ _ _ ρ h F Ls p _ q M (by omega)) fun F1 h1 p1 tb s t1 pb fb f1 qb => ?_
    have f1 := f1.up s.le (Nat.le_refl _)
    cases tb with
    | true => exact (exSs_go C a hot σ Q ρ h1 F1 Ls p1 qb f1 t1 (by omega) (Nat.le_trans ln s.le)).cap (by omega)
    | false => exact (exSs_go C b hot σ Q ρ h1 F1 Ls p1 qb f1 t1 (by omega) (Nat.le_trans ln s.le)).cap (by omega)
  | .whl c b, hot, σ, Q, ρ, h, F, Ls, p, q, fm, t, hp, ln => by
    unfold wS at q
    rw [exS]
    unfold bS at hp ⊢
    exact whl_go (exSs_go C b hot) (fun σ Q Xq ρ h F Ls p q fm t hp ln => evT_go C c hot σ Q Xq ρ h F Ls p _ q (mid_of fm t) hp) wf σ ρ h F Ls p fm t hp ln q
  | .for i s b, hot, σ, Q, ρ, h, F, Ls, p, q, fm, t, hp, ln => by
    unfold wS at q
    rw [exS]
    unfold bS at hp ⊢
    have M := mid_of fm t
    have bk := exSs_go C b hot
    have lb : ∀ n, n ≤ LB → n * bSs bt wf b ≤ LB * bSs bt wf b := fun n hn => Nat.mul_le_mul_right _ hn
    cases s with
    | any e =>
      rw [evS]
      unfold bS0 at hp ⊢
      obtain ⟨e1, h1, p1, F1, r1, s, t1, pb, fb, z⟩ := evE_go C e hot σ _ _ ρ h F Ls p _ q M (by omega)
      rw [r1]
      cases e1 with
      | exc c w => exact exc_end s ln fm t1 (by omega) fb z
      | ok w =>
        obtain ⟨v, qv, rv⟩ := z
        have f1 := fm.step s (Nat.le_refl _) fb
        have M1 := M.at s (Nat.le_refl _) t1 fb
        have fin : ∀ (F2 : FP) (σ2 : Sv) (Ls2 : Nat → List Nat) (kd : Kd) (xs : List D), (kd = .lst ∨ kd = .tup) → v.d = .nd kd xs → KpS hot nc X F1 F2 h1 h1 → FB F2 h1 → Rd F2 h1 v.d w → Fm hot nc h1.length X F2 h1 ρ σ2 Ls2 → wFor i (wSs Γ wf kv hot b) xs σ2 Q →
            GoS hot nc X ns F h p (bE bt e + LB * bSs bt wf b) (Mp.lft (walkOf w h1) ρ fun w h => forL w.1 i (fun ρ h => exSs Γ wf k b ρ h) w.2 ρ h) Q := by
          intro F2 σ2 Ls2 kd xs hkd ev kp2 fb2 rd f2 qq
          rw [ev] at rd
          have rd' := rd
          unfold Rd at rd
          obtain ⟨a, ws, ew, fa, ha, hk, ra⟩ := rd
          subst ew
          have ewk : walkOf (.ref a) h1 = ret (some (a, obOf kd ws), ws) h1 := by
            rcases hkd with z | z <;> subst z
            · exact walk_lst ha
            · exact walk_tup ha
          rw [ewk]
          have hl : xs.length ≤ LB := by rw [← ra.len]; exact Nat.le_trans hk.le line_LB
          have := lb _ hl
          have g := for_go (Q := Q) (i := i) (g := some (a, obOf kd ws)) bk (.inr ⟨a, kd, ws, rfl, fa, (fb2 a fa).2, ha⟩) fb2 xs ws σ2 ρ h1 F2 Ls2 p1 ra .refl f2 t1 (by omega) (Nat.le_trans ln s.le) qq
          exact ((g.cap (b := LB * bSs bt wf b) this).after ((s.kps ln).trans kp2) pb)
        show GoS _ _ _ _ _ _ _ _ (Mp.lft (walkOf w h1) ρ fun w h => forL w.1 i (fun ρ h => exSs Γ wf k b ρ h) w.2 ρ h) _
        unfold kForA at qv
        cases hs : v.s with
        | p j q' =>
          rw [hs] at qv
          dsimp only at qv
          have f2 := (f1.frz1 j).up s.le (Nat.le_refl _)
          have kp2 : KpS hot nc X F1 (fun a => F1 a ∨ a ∈ Ls j) h1 h1 := ⟨Nat.le_refl _, fun _ _ _ _ e _ => e, fun _ => .inl, fun a z => z.imp id (f1.ok j a · |>.2.2.2)⟩
          have rd : ∀ kd xs, v.d = .nd kd xs → Rd (fun a => F1 a ∨ a ∈ Ls j) h1 v.d w := fun kd xs ev => by
            obtain ⟨_, rv⟩ := rv
            rw [hs] at rv
            obtain ⟨d0, g0, w0, a1, a2, a3, a4, a5, a6, a7, a8, a9⟩ := rv
            exact Pth.rd (a3.re a9) a4
          cases ev : v.d with
          | nd kd xs =>
            rw [ev] at qv
            cases kd with
            | lst => exact fin _ _ _ .lst xs (.inl rfl) ev kp2 f2.fb (rd _ _ ev) f2 qv
            | tup => exact fin _ _ _ .tup xs (.inr rfl) ev kp2 f2.fb (rd _ _ ev) f2 qv
            | _ => exact qv.elim
          | _ => rw [ev] at qv; exact qv.elim
        | t ts =>
          rw [hs] at qv
          cases ts with
          | cons _ _ => exact qv.elim
          | nil =>
            dsimp only at qv
            obtain ⟨rv0, rv1⟩ := rv
            have rv : VR hot h.length h1.length F1 h1 ρ σ Ls v w := ⟨rv0, rv1⟩
            rw [hs] at rv1
            obtain ⟨L, o, nd, kk⟩ := rv1
            have kk : ∀ a ∈ L, h.length ≤ a ∧ a < h1.length := fun a ha => (kk a ha).2.elim id fun ⟨i, z, _⟩ => by cases z
            have c4 := M.c
            have f2 := (f1.frzL (N := L) fun a ha => by have := kk a ha; omega).up s.le (Nat.le_refl _)
            have kp2 : KpS hot nc X F1 (fun a => F1 a ∨ a ∈ L) h1 h1 := ⟨Nat.le_refl _, fun _ _ _ _ e _ => e, fun _ => .inl, fun a z => z.imp id fun z => .inl (Nat.le_trans ln (kk a z).1)⟩
            cases ev : v.d with
            | nd kd xs =>
              rw [ev] at qv
              have rd : Rd (fun a => F1 a ∨ a ∈ L) h1 v.d w := o.re (by rw [ev]; rfl)
              cases kd with
              | lst => exact fin _ _ _ .lst xs (.inl rfl) ev kp2 f2.fb rd f2 qv
              | tup => exact fin _ _ _ .tup xs (.inr rfl) ev kp2 f2.fb rd f2 qv
              | _ => exact qv.elim
            | str z =>
              rw [ev] at qv
              rw [str_of rv ev]
              unfold seqC at qv
              dsimp only at qv
              split at qv
              · rename_i hz
                have hl : (z.cps.toList.map fun c => D.str ⟨#[c]⟩).length ≤ LB := by
                  rw [List.length_map, Array.length_toList]
                  exact Nat.le_trans hz line_LB
                have := lb _ hl
                have g := for_go (Q := Q) (i := i) (g := none) bk (.inl rfl) fb _ _ σ ρ h1 F1 Ls p1 (chars_rd z.cps.toList) .refl (f1.up s.le (Nat.le_refl _)) t1 (by omega) (Nat.le_trans ln s.le) qv
                exact ((g.cap (b := LB * bSs bt wf b) this).after (s.kps ln) pb)
              · exact qv.elim
            | _ => rw [ev] at qv; exact qv.elim
    | rng e =>
      rw [evS]
      unfold bS0 at hp ⊢
      obtain ⟨e1, h1, p1, F1, r1, s, t1, pb, fb, z⟩ := evE_go C e hot σ _ _ ρ h F Ls p _ q M (by omega)
      rw [r1]
      cases e1 with
      | exc c w => exact exc_end s ln fm t1 (by omega) fb z
      | ok w =>
        obtain ⟨v, qv, rv⟩ := z
        have f1 := (fm.step s (Nat.le_refl _) fb).up s.le (Nat.le_refl _)
        unfold kForR at qv
        split at qv
        · rename_i j ev
          rw [int_of rv ev]
          show GoS _ _ _ _ _ _ _ _ (Mp.lft (if rngOk j = true then ret (none, rngL 0 j) h1 else none) ρ fun w h => forL w.1 i (fun ρ h => exSs Γ wf k b ρ h) w.2 ρ h) _
          rw [if_pos qv.1]
          obtain ⟨i1, i2, i3⟩ := rng_items (hot := hot) (lo := 0) (F := F1) (h := h1) (i := 0) (j := j) (by rw [qv.1]; rfl)
          have := lb _ i3
          have g := for_go (Q := Q) (i := i) (g := none) bk (.inl rfl) fb _ _ σ ρ h1 F1 Ls p1 i1 .refl f1 t1 (by omega) (Nat.le_trans ln s.le) qv.2
          exact ((g.cap (b := LB * bSs bt wf b) this).after (s.kps ln) pb)
        · exact qv.elim
    | rng2 a c =>
      rw [evS]
      unfold bS0 at hp ⊢
      obtain ⟨e1, h1, p1, F1, r1, s, t1, pb, fb, z⟩ := evE_go C a hot σ _ _ ρ h F Ls p _ q M (by omega)
      rw [r1]
      cases e1 with
      | exc c w => exact exc_end s ln fm t1 (by omega) fb z
      | ok w =>
        obtain ⟨v, qv, rv⟩ := z
        have f1 := fm.step s (Nat.le_refl _) fb
        have M1 := M.next s (Nat.le_refl _) t1 fb
        obtain ⟨e2, h2, p2, F2, r2, s2, t2, pb2, fb2, z⟩ := evE_go C c hot σ _ _ ρ h1 F1 Ls p1 _ qv M1 (by omega)
        have s12 := s.trans (s2.low s.le)
        show GoS _ _ _ _ _ _ _ _ (Mp.lft (Mp.bnd (evE Γ k c ρ h1) fun u h => match w, u with | .int i, .int j => if rngOk i && rngOk j then ret (none, rngL i j) h else none | _, _ => none) ρ fun w h => forL w.1 i (fun ρ h => exSs Γ wf k b ρ h) w.2 ρ h) _
        rw [r2]
        cases e2 with
        | exc c' w' => exact exc_end s12 ln fm t2 (by omega) fb2 z
        | ok u =>
          obtain ⟨vu, qu, ru⟩ := z
          have f2 := (f1.step s2 s.le fb2).up (Nat.le_trans s.le s2.le) (Nat.le_refl _)
          unfold kForR22 at qu
          split at qu
          · rename_i i1' j1' ev eu
            rw [int_of rv ev, int_of ru eu]
            show GoS _ _ _ _ _ _ _ _ (Mp.lft (if rngOk i1' && rngOk j1' then ret (none, rngL i1' j1') h2 else none) ρ fun w h => forL w.1 i (fun ρ h => exSs Γ wf k b ρ h) w.2 ρ h) _
            rw [if_pos qu.1]
            obtain ⟨i1, i2, i3⟩ := rng_items (hot := hot) (lo := 0) (F := F2) (h := h2) (i := i1') (j := j1') qu.1
            have := lb _ i3
            have g := for_go (Q := Q) (i := i) (g := none) bk (.inl rfl) fb2 _ _ σ ρ h2 F2 Ls p2 i1 .refl f2 t2 (by omega) (Nat.le_trans ln (Nat.le_trans s.le s2.le)) qu.2
            have := ((g.cap (b := LB * bSs bt wf b) this).after (p := p) (b2 := bE bt a + bE bt c) (s12.kps ln) (by omega))
            exact this
          · exact qu.elim
  | .ret e, hot, σ, Q, ρ, h, F, Ls, p, q, fm, t, hp, ln => by
    unfold wS at q
    rw [exS]
    unfold bS at hp ⊢
    have M := mid_of fm t
    exact GoS.lft (b2 := 0) fm ln (evE_go C e hot σ _ _ ρ h F Ls p _ q M hp) fun F1 h1 p1 w s t1 pb fb f1 ⟨v, qv, rv⟩ => ret_ok t1 f1 rv (Nat.le_refl _) M.c ln qv
  | .ret0, hot, σ, Q, ρ, h, F, Ls, p, q, fm, t, hp, ln => by
    unfold wS at q
    rw [exS]
    exact ⟨_, h, p, F, rfl, .refl, t, by omega, fm.fb, .non, .fr, [], q, .fr (by unfold Rd; rfl), rfl, List.nodup_nil, fun a ha => by cases ha⟩
  | .rse c e, hot, σ, Q, ρ, h, F, Ls, p, q, fm, t, hp, ln => by
    unfold wS at q
    rw [exS]
    unfold bS at hp ⊢
    have M := mid_of fm t
    exact GoS.lft (b2 := 0) fm ln (evE_go C e hot σ _ _ ρ h F Ls p _ q M hp) fun F1 h1 p1 w s t1 pb fb f1 ⟨v, qv, rv⟩ =>
      ⟨_, h1, p1, F1, rfl, .refl, t1, by omega, fb, v.d, σ, Ls, qv.2, qv.1, rv.scal qv.1, f1.up s.le (Nat.le_refl _)⟩
  | .try b c i hb, hot, σ, Q, ρ, h, F, Ls, p, q, fm, t, hp, ln => by
    unfold wS at q
    rw [exS]
    unfold bS at hp ⊢
    obtain ⟨fl, h1, p1, F1, e, kp, t1, pb, fb, z⟩ := exSs_go C b hot σ _ ρ h F Ls p q fm t (by omega) ln
    rw [e]
    cases fl with
    | nx ρ' => exact ⟨_, h1, p1, F1, rfl, kp, t1, by omega, fb, z⟩
    | brk ρ' => exact ⟨_, h1, p1, F1, rfl, kp, t1, by omega, fb, z⟩
    | ct ρ' => exact ⟨_, h1, p1, F1, rfl, kp, t1, by omega, fb, z⟩
    | ret w => exact ⟨_, h1, p1, F1, rfl, kp, t1, by omega, fb, z⟩
    | exc c' w ρ' =>
      obtain ⟨d, σ', Ls', ⟨hc, qq⟩, hd, ew, fm'⟩ := z
      dsimp only
      rw [if_pos hc]
      split at qq
      · rename_i hsub
        rw [if_pos hsub]
        obtain ⟨hh, _, qq⟩ := qq
        subst hh
        have ln1 := Nat.le_trans ln kp.le
        have l4 := t1.len
        have sP : Step true h1.length F1 F1 h1 (h1 ++ [.exc c' w]) := .push _
        have f2 := ((fm'.toHot.step sP (Nat.le_refl _) (fb.push _)).up sP.le (Nat.le_refl _)).put (i := i) (w := .ref h1.length) (g := .fr) (L := []) (d := .exc c' d) (Nat.le_refl _) (Nat.le_refl _)
          ⟨rfl, rfl, hd, h1.length, by omega, rfl, by rw [← ew]; exact get_new1 _ _⟩ (fun _ => rfl) List.nodup_nil (fun a ha => by cases ha) (fun a ha => by cases ha)
        obtain ⟨fl2, h2, p2, F2, e2, kp2, t2, pb2, fb2, z⟩ := exSs_go C hb true _ _ (ρ'.set i (some (.ref h1.length))) (h1 ++ [.exc c' w]) F1 _ p1 qq f2 (t1.app _) (by omega) (Nat.le_trans ln1 sP.le)
        rw [e2]
        have kpt : KpS false nc X F F2 h (h2.map killX) := by
          have k1 : KpS false nc X F1 F2 h1 (h2.map killX) := KpS.kill ((sP.kps ln1).trans kp2)
          exact kp.trans k1
        cases fl2 with
        | brk ρ2 => obtain ⟨_, _, qz, _⟩ := z; exact qz.elim
        | ct ρ2 => obtain ⟨_, _, qz, _⟩ := z; exact qz.elim
        | exc c3 w3 ρ2 => obtain ⟨_, _, _, qz, _⟩ := z; exact qz.elim
        | ret w2 =>
          obtain ⟨d2, g2, L2, qz, o2, ed2, nd2, kk2⟩ := z
          exact ⟨.ret w2, h2.map killX, p2, F2, rfl, kpt, t2.kill, by omega, fb2.kill, d2, g2, L2, qz, o2.kill ed2, ed2, nd2, fun a ha => by rw [List.length_map]; exact kk2 a ha⟩
        | nx ρ2 =>
          obtain ⟨σ2, Ls2, ⟨nX, qz⟩, f3⟩ := z
          refine ⟨.nx (ρ2.set i none), h2.map killX, p2, F2, rfl, kpt, t2.kill, by omega, fb2.kill, σ2.set i none, upL Ls2 i [], qz, ?_⟩
          have f4 := f3.non i
          refine ⟨by rw [List.length_set, List.length_set]; exact f3.len, fun j dj g e => ?_, f4.nd, f4.dj, fun j a ha => by rw [List.length_map]; exact f4.ok j a ha, Nat.le_refl _, fb2.kill, fun _ => nX⟩
          obtain ⟨w4, e4, o4⟩ := f4.sl j dj g e
          have hj : j ≠ i := fun z => by
            subst z
            rcases set_get e with ⟨_, z⟩ | ⟨z, _⟩
            · cases z
            · exact z rfl
          exact ⟨w4, by rw [List.getElem?_set_ne (Ne.symm hj)]; exact e4, o4.kill (noX_get nX e)⟩
      · rename_i hsub
        rw [if_neg hsub]
        exact ⟨.exc c' w ρ', h1, p1, F1, rfl, kp, t1, by omega, fb, d, σ', Ls', qq, hd, ew, fm'⟩
  | .brk, hot, σ, Q, ρ, h, F, Ls, p, q, fm, t, hp, ln => by
    unfold wS at q
    rw [exS]
    exact ⟨_, h, p, F, rfl, .refl, t, by omega, fm.fb, σ, Ls, q, fm⟩
  | .cnt, hot, σ, Q, ρ, h, F, Ls, p, q, fm, t, hp, ln => by
    unfold wS at q
    rw [exS]
    exact ⟨_, h, p, F, rfl, .refl, t, by omega, fm.fb, σ, Ls, q, fm⟩
  | .pas, hot, σ, Q, ρ, h, F, Ls, p, q, fm, t, hp, ln => by
    unfold wS at q
    rw [exS]
    exact .nx t fm q
  | .frz is, hot, σ, Q, ρ, h, F, Ls, p, q, fm, t, hp, ln => by
    unfold wS at q
    rw [exS]
    exact frz_go t is fm q
theorem exSs_go (C : ClOk ns bt k kv) : ∀ (s : Ss) (hot : Bool), BkOk ns nc X hot (wSs Γ wf kv hot s) (exSs Γ wf k s) (bSs bt wf s)
  | .nil, hot, σ, Q, ρ, h, F, Ls, p, q, fm, t, hp, ln => by
    unfold wSs at q
    rw [exSs]
    exact .nx t fm q
  | .cons s r, hot, σ, Q, ρ, h, F, Ls, p, q, fm, t, hp, ln => by
    unfold wSs at q
    rw [exSs]
    unfold bSs at hp ⊢
    exact GoS.sq (exS_go C s hot σ _ ρ h F Ls p q fm t (by omega) ln) (exSs_go C r hot) hp ln
end
end
end Vp
set_option Elab.async false
set_option linter.all false
set_option maxRecDepth 100000
set_option maxHeartbeats 1000000
/-! Vp T8: defs and the law keep what the plain run says. -/
namespace Vp
open PySem Mp Cf
/-- bounds on draws, def by def -/
structure Bnd (Γ : Gam) (wf : Nat) (bt : Nat → Nat) : Prop where
  take : 1 ≤ bt 5
  fn : ∀ f d, Γ.fn f = some d → ¬ (f = 2 ∨ f = 3 ∨ f = 4) → f ≠ 5 → bSs bt wf d.body ≤ bt f
section
variable {ns : List Int} {Γ : Gam} {bt : Nat → Nat} {wf : Nat}
theorem AL.rel {hot : Bool} {F : FP} {h : Hq} : ∀ {ds : List D} {us : List W}, AL hot F h ds us → us.length = ds.length ∧ ∀ (i : Nat) (d : D), ds[i]? = some d → ∃ u, us[i]? = some u ∧ (isExc d = true → hot = true) ∧ Own F h .fr d u []
  | [], us, r => by unfold AL at r; subst r; exact ⟨rfl, fun i d e => by simp at e⟩
  | d :: ds, us, r => by
    unfold AL at r
    obtain ⟨u, vs, e, r1, r2, r3⟩ := r
    subst e
    obtain ⟨l, k⟩ := AL.rel r3
    refine ⟨by rw [List.length_cons, l, List.length_cons], fun i d' e => ?_⟩
    cases i with
    | zero => simp at e; subst e; exact ⟨u, rfl, r1, r2⟩
    | succ i => exact k i d' (by simpa using e)
theorem start_fm {hot : Bool} {F : FP} {h : Hq} {ds : List D} {us : List W} {n : Nat} (a : AL hot F h ds us) (fb : FB F h) : Fm hot h.length h.length (fun _ => False) F h (Mp.start n us) (startV n ds) (fun _ => []) := by
  obtain ⟨l, k⟩ := a.rel
  have gs : ∀ (i : Nat) (d : D) (g : Fg), (startV n ds)[i]? = some (some (d, g)) → g = Fg.fr ∧ ds[i]? = some d := fun i d g e => by
    unfold startV at e
    by_cases hi : i < ds.length
    · rw [List.getElem?_append_left (by rw [List.length_map]; exact hi), List.getElem?_map] at e
      cases hd : ds[i]? with
      | none => rw [hd] at e; cases e
      | some d' => rw [hd] at e; cases e; exact ⟨rfl, rfl⟩
    · rw [List.getElem?_append_right (by rw [List.length_map]; omega)] at e
      have := List.mem_of_getElem? e
      cases (List.mem_replicate.mp this).2
  refine ⟨?_, fun i d g e => ?_, fun _ => List.nodup_nil, fun _ _ a ha => (by cases ha), fun _ a ha => (by cases ha), Nat.le_refl _, fb, fun hh => ?_⟩
  · unfold startV Mp.start
    simp [l]
  · obtain ⟨rfl, ed⟩ := gs i d g e
    obtain ⟨u, hu, _, o⟩ := k i d ed
    refine ⟨u, ?_, o⟩
    unfold Mp.start
    have hi := (List.getElem?_eq_some_iff.mp hu).1
    rw [List.getElem?_append_left (by rw [List.length_map]; exact hi), List.getElem?_map, hu]
    rfl
  · unfold noX
    rw [List.all_eq_true]
    intro s hs
    obtain ⟨i, hi⟩ := List.getElem?_of_mem hs
    cases s with
    | none => rfl
    | some dg =>
      obtain ⟨d, g⟩ := dg
      obtain ⟨_, ed⟩ := gs i d g hi
      obtain ⟨_, _, x, _⟩ := k i d ed
      cases d <;> first | rfl | (have := x rfl; rw [hh] at this; cases this)
theorem draw_ok (P : Pre Γ) {n : Nat} {hot : Bool} {ds : List D} {us : List W} {K : Rz → Prop} {h : Hq} {F : FP} {p b : Nat} (q : drawQ ds K) (a : AL hot F h ds us) (t : Sto ns h p) (hp : p + 1 ≤ Mx) (fb : FB F h) (hb : 1 ≤ b) :
    Go hot h.length ns F h p b (call Γ wf (n + 2) 5 us h) (fun F' h' w => ∃ d g L, K (.ok d g) ∧ Own F' h' g d w L ∧ isExc d = false ∧ L.Nodup ∧ ∀ a ∈ L, ¬ F' a ∧ h.length ≤ a ∧ a < h'.length) (fun c d => K (.exc c d)) := by
  unfold drawQ at q
  split at q
  · rename_i c
    obtain ⟨c1, c2, q⟩ := q
    unfold AL at a
    obtain ⟨u, us', e, _, o1, a⟩ := a
    unfold AL at a
    obtain ⟨u2, us2, e2, _, o2, a⟩ := a
    unfold AL at a
    subst a; subst e2; subst e
    have h1 : u = .ref 3 := by have := (o1.fr' rfl).2; unfold Rd at this; exact this
    have h2 : u2 = .int c := by have := (o2.fr' rfl).2; unfold Rd at this; exact this
    subst h1; subst h2
    have fin : ∀ v, 0 ≤ v → v < c → ∀ (h' : Hq), ∃ d g L, K (.ok d g) ∧ Own F h' g d (.int v) L ∧ isExc d = false ∧ L.Nodup ∧ ∀ a ∈ L, ¬ F a ∧ h.length ≤ a ∧ a < h'.length := fun v v0 v1 h' =>
      ⟨.int v, .fr, [], q v v0 v1, .fr (by unfold Rd; rfl), rfl, List.nodup_nil, fun a ha => by cases ha⟩
    by_cases hc : c < 2
    · refine ⟨.ok (.int 0), h, p, F, ?_, .refl, t, by omega, fb, fin 0 (by omega) (by omega) h⟩
      rw [call_s P.take rfl]
      simp [d_law_take, b_law_take, Mp.start, hc]
    · obtain ⟨s, e, eh, i⟩ := t
      subst eh
      obtain ⟨s', j, v, e1, i', _, v0, v1⟩ := take_big (wf := wf) (n := n) (e := e) P i (by
        have : (p : Int) ≤ (Mx : Nat) := by omega
        exact Int.le_trans this (by decide +kernel)) (by omega) c2
      refine ⟨.ok (.int v), B ns s' ++ (e ++ j), p + 1, F, e1, ⟨?_, fun a o a3 ea _ => ?_, fun _ z => z, fun _ z => .inl z⟩, ⟨s', e ++ j, rfl, i'⟩, by omega, fun a z => ⟨?_, (fb a z).2⟩, fin v v0 v1 _⟩
      · simp [B]
      · by_cases h4 : a < 4
        · have : a = 0 ∨ a = 1 ∨ a = 2 := by omega
          rcases this with z | z | z <;> subst z <;> exact ea
        · rw [← List.append_assoc]
          have : (B ns s ++ e)[a]? = (B ns s' ++ e)[a]? := by
            rw [List.getElem?_append_right (by show 4 ≤ a; omega), List.getElem?_append_right (by show 4 ≤ a; omega)]
            rfl
          rw [this] at ea
          rw [List.getElem?_append_left (List.getElem?_eq_some_iff.mp ea).1]
          exact ea
      · have := (fb a z).1
        simp [B] at this ⊢
        omega
  · exact q.elim
/-- every def -/
theorem call_go (P : Pre Γ) (B : Bnd Γ wf bt) : ∀ n, ClOk ns bt (call Γ wf n) (wCall Γ wf n)
  | 0 => fun hot f ds K h us F p q a t hp fb => q.elim
  | n + 1 => fun hot f ds K h us F p q a t hp fb => by
    unfold wCall at q
    split at q
    · rename_i h5
      subst h5
      obtain ⟨n1, q⟩ := q
      obtain ⟨m, rfl⟩ : ∃ m, n = m + 1 := ⟨n - 1, by omega⟩
      have := B.take
      exact draw_ok P q a t (by omega) fb this
    rename_i h5
    split at q
    · exact q.elim
    rename_i h234
    cases hf : Γ.fn f with
    | none => rw [hf] at q; exact q.elim
    | some d =>
      rw [hf] at q
      obtain ⟨hl, q⟩ := q
      have bb := B.fn f d hf h234 h5
      have el := a.rel.1
      rw [call_s hf (by rw [el]; exact hl)]
      obtain ⟨fl, h1, p1, F1, e, kp, t1, pb, fb1, z⟩ := exSs_go (nc := h.length) (X := fun _ => False) (call_go P B n) d.body hot _ _ (Mp.start d.n us) h F _ p q (start_fm a fb) t (by omega) (Nat.le_refl _)
      have st : Step hot h.length F F1 h h1 := ⟨kp.le, fun a o a3 e' x => kp.keep a o (.inl ⟨(List.getElem?_eq_some_iff.mp e').1, id⟩) a3 e' x, kp.sub, fun a z => (kp.new a z).imp id fun z => z.elim (fun z => ⟨z, (fb1 a (by assumption)).1⟩) False.elim⟩
      rw [e]
      cases fl with
      | nx ρ' =>
        obtain ⟨σ', Ls', q, _⟩ := z
        exact ⟨.ok .non, h1, p1, F1, rfl, st, t1, by omega, fb1, .non, .fr, [], q, .fr (by unfold Rd; rfl), rfl, List.nodup_nil, fun a ha => by cases ha⟩
      | brk ρ' => obtain ⟨_, _, q, _⟩ := z; exact q.elim
      | ct ρ' => obtain ⟨_, _, q, _⟩ := z; exact q.elim
      | ret w =>
        obtain ⟨d', g, L, q, o, ed, nd, kk⟩ := z
        exact ⟨.ok w, h1, p1, F1, rfl, st, t1, by omega, fb1, d', g, L, q, o, ed, nd, fun a ha => ⟨(kk a ha).1, (kk a ha).2.2.2.elim id False.elim, (kk a ha).2.1⟩⟩
      | exc c w ρ' =>
        obtain ⟨d', σ', Ls', q, hd, ew, _⟩ := z
        exact ⟨.exc c w, h1, p1, F1, rfl, st, t1, by omega, fb1, d', q, hd, ew⟩
theorem store_go (P : Pre Γ) {n : Nat} (hl : ns.length ≤ 63) : ∃ s, call Γ wf (n + 1) 3 [.ref 0] [.frl (ns.map W.int)] = some (.ok (.ref 3), B ns s) ∧ Inv ns s 0 := by
  rw [call_s P.store rfl]
  have ct : ∀ h : Hq, h[0]? = some (.frl (ns.map W.int)) → cutW (.ref 0) none (some 63) h = ret (.ref h.length) (h ++ [.lst (ns.map W.int)]) := fun h hh => by
    unfold cutW
    dsimp only
    rw [hh]
    have : cutL (ns.map W.int) none (some 63) = ns.map W.int := by
      unfold cutL
      have a : HT.sIx (ns.map W.int).length 0 none = 0 := rfl
      have b : HT.sIx (ns.map W.int).length (ns.map W.int).length (some 63) = ns.length := by
        rw [List.length_map]
        show HT.sIx ns.length ns.length (some 63) = ns.length
        exact (HT.sIx_nat ns.length ns.length 63).trans (by omega)
      rw [a, b, List.drop_zero, Nat.sub_zero, List.take_of_length_le (by rw [List.length_map]; exact Nat.le_refl _)]
    show alloc (.lst (cutL (ns.map W.int) none (some 63))) h = _
    rw [this]
    rfl
  have cp := compL_ok (g := some (1, .lst (ns.map W.int))) (t := Mp.Ct Γ (call Γ wf n) [some (.ref 0), none, none] .no 2) (el := Mp.Ce Γ (call Γ wf n) [some (.ref 0), none, none] (.fn .int (.cons (.var 2) .nil)) 2) (p := fun _ => true) (f := id) [.frl (ns.map W.int), .lst (ns.map W.int)] (ns.map W.int) [] (fun acc => stays_at rfl)
    (fun x hx acc => by simp [Ct_ap]) (fun x hx _ acc => by
      obtain ⟨i, _, rfl⟩ := List.mem_map.mp hx
      simp [Ce_ap]) (by rw [List.length_map]; exact Nat.le_trans (by simpa using hl) (by decide))
  have ef : ((ns.map W.int).filter fun _ => true).map id = ns.map W.int := by rw [List.map_id, List.filter_eq_self.mpr fun _ _ => rfl]
  rw [ef] at cp
  have w := walk_lst (h := [.frl (ns.map W.int), .lst (ns.map W.int)]) (a := 1) (xs := ns.map W.int) rfl
  have k6 : ∀ a b c d e f h, Mp.kLst [a, b, c, d, e, f] h = ret (.ref h.length) (h ++ [.lst [a, b, c, d, e, f]]) := fun a b c d e f h => kLst_ok (by show 6 ≤ line; decide)
  have c0 := ct [.frl (ns.map W.int)] rfl
  refine ⟨⟨0, 3, 0, 0, 0⟩, ?_, ⟨hl, Int.le_refl _, by show (0 : Int) ≤ ns.length; omega, Int.le_refl _, by decide +kernel, Int.le_refl _, Int.le_refl _⟩⟩
  simp at cp
  simp [d_law_store, b_law_store, Mp.start, c0, w, cp, k6, B, Cf.sto]
/-- the law -/
theorem law_top (P : Pre Γ) (hB : Bnd Γ wf bt) {n li : Nat} {d : FnD} {rest : Ss} (hf : Γ.fn li = some d) (ha : d.ar = 1) (hn : d.n = (d.n - 2) + 2) (hb : d.body = .cons (.asg 1 (.call 3 (.cons (.var 0) .nil))) rest) (hm : bSs bt wf rest ≤ Mx) (hl : ns.length ≤ 63)
    (q : wSs Γ wf (wCall Γ wf (n + 1)) false rest (none :: some (.sto, .fr) :: List.replicate (d.n - 2) none) (endV fun r => ∃ g, r = .ok (.bl true) g)) : ∃ h', call Γ wf (n + 1 + 1) li [.ref 0] [.frl (ns.map W.int)] = some (.ok (.bl true), h') := by
  rw [call_s hf (show [W.ref 0].length = d.ar from ha.symm)]
  obtain ⟨s, e3, i3⟩ := store_go (wf := wf) (n := n) (ns := ns) P hl
  have e1 : exSs Γ wf (call Γ wf (n + 1)) d.body (Mp.start d.n [.ref 0]) [.frl (ns.map W.int)] = exSs Γ wf (call Γ wf (n + 1)) rest (some (.ref 0) :: some (.ref 3) :: List.replicate (d.n - 2) none) (B ns s) := by
    rw [hb, hn]
    simp [Mp.start, e3, List.replicate_succ]
  rw [e1]
  have fm : Fm false (B ns s).length (B ns s).length (fun _ => False) (fun _ => False) (B ns s) (some (.ref 0) :: some (.ref 3) :: List.replicate (d.n - 2) none) (none :: some (D.sto, Fg.fr) :: List.replicate (d.n - 2) none) (fun _ => []) := by
    have gs : ∀ (i : Nat) (d' : D) (g : Fg), (none :: some (D.sto, Fg.fr) :: List.replicate (d.n - 2) none : Sv)[i]? = some (some (d', g)) → i = 1 ∧ d' = .sto ∧ g = .fr := fun i d' g e => by
      cases i with
      | zero => simp at e
      | succ i => cases i with
        | zero => simp at e; exact ⟨rfl, e.1.symm, e.2.symm⟩
        | succ i =>
          have : (List.replicate (d.n - 2) none : Sv)[i]? = some (some (d', g)) := by simpa using e
          cases (List.mem_replicate.mp (List.mem_of_getElem? this)).2
    refine ⟨by simp, fun i d' g e => ?_, fun _ => List.nodup_nil, fun _ _ a ha => (by cases ha), fun _ a ha => (by cases ha), Nat.le_refl _, fun _ z => z.elim, fun _ => ?_⟩
    · obtain ⟨rfl, rfl, rfl⟩ := gs i d' g e
      exact ⟨.ref 3, rfl, .fr (by unfold Rd; rfl)⟩
    · unfold noX
      rw [List.all_eq_true]
      intro s' hs
      obtain ⟨i, hi⟩ := List.getElem?_of_mem hs
      cases s' with
      | none => rfl
      | some dg =>
        obtain ⟨d', g⟩ := dg
        obtain ⟨_, rfl, _⟩ := gs i d' g hi
        rfl
  obtain ⟨fl, h1, p1, F1, e, kp, t1, pb, fb1, z⟩ := exSs_go (nc := (B ns s).length) (X := fun _ => False) (ns := ns) (call_go P hB (n + 1)) rest false _ _ _ (B ns s) _ _ 0 q fm ⟨s, [], (List.append_nil _).symm, i3⟩ (by omega) (Nat.le_refl _)
  refine ⟨h1, ?_⟩
  rw [e]
  cases fl with
  | nx ρ' => obtain ⟨_, _, ⟨_, q⟩, _⟩ := z; cases q
  | brk ρ' => obtain ⟨_, _, q, _⟩ := z; exact q.elim
  | ct ρ' => obtain ⟨_, _, q, _⟩ := z; exact q.elim
  | exc c w ρ' => obtain ⟨_, _, _, ⟨_, q⟩, _⟩ := z; cases q
  | ret w =>
    obtain ⟨d', g, L, ⟨g', q⟩, o, _⟩ := z
    cases q
    have := o.tt rfl
    unfold Rd at this
    rw [this]
    rfl
end
end Vp
set_option Elab.async false
set_option linter.all false
set_option maxRecDepth 100000
/-! Vp B: rules for simp: the plain run, step by step. -/
namespace Vp
open PySem Mp
section
variable {Γ : Gam} {k : Cl} {hot : Bool} {σ : Sv} {Q : QV} {X : QX} {g g' : Fg} {s s' : Src} {wf : Nat}
@[simp] theorem lineV : line = 16777216 := rfl
@[simp] theorem oQ_ite {α : Type} (c : Prop) [Decidable c] (o : Option α) (Q : α → Prop) : oQ (if c then o else none) Q = (c ∧ oQ o Q) := by
  by_cases h : c <;> simp [h]
@[simp] theorem rdv_fr (i : Nat) (d : D) : rdv i d .fr = sc d := by unfold rdv; split <;> rfl
@[simp] theorem rdv_int (i : Nat) (n : Int) (g : Fg) : rdv i (.int n) g = sc (.int n) := rfl
@[simp] theorem rdv_str (i : Nat) (n : Str) (g : Fg) : rdv i (.str n) g = sc (.str n) := rfl
@[simp] theorem rdv_bl (i : Nat) (n : Bool) (g : Fg) : rdv i (.bl n) g = sc (.bl n) := rfl
@[simp] theorem rdv_non (i : Nat) (g : Fg) : rdv i .non g = sc .non := rfl
@[simp] theorem rdv_sto (i : Nat) (g : Fg) : rdv i .sto g = sc .sto := rfl
@[simp] theorem rdv_dp (i : Nat) (k : Kd) (xs : List D) : rdv i (.nd k xs) .dp = ⟨.nd k xs, .dp, .p i []⟩ := rfl
@[simp] theorem rdv_rt (i : Nat) (k : Kd) (xs : List D) : rdv i (.nd k xs) .rt = ⟨.nd k xs, .rt, .p i []⟩ := rfl
@[simp] theorem isSc_int (n : Int) : isSc (.int n) = true := rfl
@[simp] theorem isSc_str (n : Str) : isSc (.str n) = true := rfl
@[simp] theorem isSc_bl (n : Bool) : isSc (.bl n) = true := rfl
@[simp] theorem isSc_non : isSc .non = true := rfl
@[simp] theorem isSc_sto : isSc .sto = true := rfl
@[simp] theorem isSc_cls (c : Nat) : isSc (.cls c) = true := rfl
@[simp] theorem isSc_ty (c : String) : isSc (.ty c) = true := rfl
@[simp] theorem isSc_nd (k : Kd) (xs : List D) : isSc (.nd k xs) = false := rfl
@[simp] theorem isSc_exc (c : Nat) (x : D) : isSc (.exc c x) = false := rfl
@[simp] theorem isSc_hole : isSc .hole = false := rfl
theorem all_sc {α : Type} {f : α → D} (h : ∀ a, isSc (f a) = true) (l : List α) : (l.map f).all isSc = true := by
  rw [List.all_map]; exact List.all_eq_true.mpr fun a _ => h a
@[simp] theorem all_str (l : List Str) : (l.map D.str).all isSc = true := all_sc (fun _ => rfl) l
@[simp] theorem all_int' (l : List Int) : (l.map D.int).all isSc = true := all_sc (fun _ => rfl) l
@[simp] theorem all_bl (l : List Bool) : (l.map D.bl).all isSc = true := all_sc (fun _ => rfl) l
@[simp] theorem ofW_int (n : Int) : ofW (.int n) = some (.int n) := rfl
@[simp] theorem ofW_str (n : Str) : ofW (.str n) = some (.str n) := rfl
@[simp] theorem ofW_bl (n : Bool) : ofW (.bl n) = some (.bl n) := rfl
@[simp] theorem ofW_non : ofW .non = some .non := rfl
theorem sub_sc (v : Val) (j : Nat) {x : D} (h : isSc x = true) : sub v j x = sc x := if_pos h
@[simp] theorem sub_int (v : Val) (j : Nat) (n : Int) : sub v j (.int n) = sc (.int n) := rfl
@[simp] theorem sub_str (v : Val) (j : Nat) (n : Str) : sub v j (.str n) = sc (.str n) := rfl
@[simp] theorem sub_bl (v : Val) (j : Nat) (n : Bool) : sub v j (.bl n) = sc (.bl n) := rfl
@[simp] theorem sub_non (v : Val) (j : Nat) : sub v j .non = sc .non := rfl
@[simp] theorem sub_fr (d : D) (s : Src) (j : Nat) (x : D) : sub ⟨d, .fr, s⟩ j x = sc x := by unfold sub; split <;> rfl
@[simp] theorem sub_rt (d : D) (s : Src) (j : Nat) (x : D) : sub ⟨d, .rt, s⟩ j x = sc x := by unfold sub; split <;> rfl
@[simp] theorem sub_dp_p (d : D) (i : Nat) (q : List Nat) (j : Nat) (k : Kd) (xs : List D) : sub ⟨d, .dp, .p i q⟩ j (.nd k xs) = ⟨.nd k xs, .dp, .p i (q ++ [j])⟩ := rfl
@[simp] theorem sub_dp_t (d : D) (ts : List Nat) (j : Nat) (k : Kd) (xs : List D) : sub ⟨d, .dp, .t ts⟩ j (.nd k xs) = ⟨.nd k xs, .dp, .t ts⟩ := rfl
/-! ### parts -/
theorem st1_sc {d : D} (h : isSc d = true) : st1 ⟨d, g, s⟩ = some (true, []) := if_pos h
@[simp] theorem st1_int (n : Int) : st1 ⟨.int n, g, s⟩ = some (true, []) := rfl
@[simp] theorem st1_str (n : Str) : st1 ⟨.str n, g, s⟩ = some (true, []) := rfl
@[simp] theorem st1_bl (n : Bool) : st1 ⟨.bl n, g, s⟩ = some (true, []) := rfl
@[simp] theorem st1_non : st1 ⟨.non, g, s⟩ = some (true, []) := rfl
@[simp] theorem st1_fr' (k : Kd) (xs : List D) : st1 ⟨.nd k xs, .fr, s⟩ = some (false, []) := rfl
@[simp] theorem st1_rt (k : Kd) (xs : List D) (ts : List Nat) : st1 ⟨.nd k xs, .rt, .t ts⟩ = some (false, ts) := rfl
@[simp] theorem st1_dp' (k : Kd) (xs : List D) (ts : List Nat) : st1 ⟨.nd k xs, .dp, .t ts⟩ = some (true, ts) := rfl
@[simp] theorem st1_rtp (k : Kd) (xs : List D) (i : Nat) : st1 ⟨.nd k xs, .rt, .p i []⟩ = some (false, [i]) := rfl
@[simp] theorem st1_dpp (k : Kd) (xs : List D) (i : Nat) : st1 ⟨.nd k xs, .dp, .p i []⟩ = some (true, [i]) := rfl
@[simp] theorem stL_nil : stL [] = some (true, []) := rfl
def stC : Option (Bool × List Nat) → Option (Bool × List Nat) → Option (Bool × List Nat)
  | some (b, ts), some (c, us) => some (b && c, ts ++ us)
  | _, _ => none
@[simp] theorem stC_some (b c : Bool) (ts us : List Nat) : stC (some (b, ts)) (some (c, us)) = some (b && c, ts ++ us) := rfl
@[simp] theorem stL_cons' (v : Val) (vs : List Val) : stL (v :: vs) = stC (st1 v) (stL vs) := by
  unfold stC
  rw [stL]
  all_goals
    cases st1 v with
    | none => rfl
    | some a => cases stL vs with
      | none => rfl
      | some b => rfl
def mkF (k : Kd) (ds : List D) : Option (Bool × List Nat) → Option Val
  | some (true, ts) => if ts.Nodup then some ⟨.nd k ds, .dp, .t ts⟩ else none
  | some (false, []) => some ⟨.nd k ds, .rt, .t []⟩
  | _ => none
@[simp] theorem mk_eq (k : Kd) (vs : List Val) : mk k vs = mkF k (vs.map (·.d)) (stL vs) := by
  unfold mk mkF
  rfl
@[simp] theorem mkF_t (k : Kd) (ds : List D) (ts : List Nat) : mkF k ds (some (true, ts)) = if ts.Nodup then some ⟨.nd k ds, .dp, .t ts⟩ else none := rfl
@[simp] theorem mkF_f (k : Kd) (ds : List D) : mkF k ds (some (false, [])) = some ⟨.nd k ds, .rt, .t []⟩ := rfl
@[simp] theorem bF_t : bF true = .dp := rfl
@[simp] theorem bF_f : bF false = .rt := rfl
theorem cpy_sc {v : Val} {xs : List D} (h : xs.all isSc = true) : cpy v xs = some true := if_pos h
/-! ### operators -/
@[simp] theorem vBin_add (a b : Val) : vBin .add a b = vAdd a b := rfl
@[simp] theorem vBin_mul (a b : Val) : vBin .mul a b = vMul a b := rfl
@[simp] theorem vAdd_int (i j : Int) : vAdd ⟨.int i, g, s⟩ ⟨.int j, g', s'⟩ = some (sc (.int (i + j))) := rfl
@[simp] theorem vSub_int (i j : Int) : vBin .sub ⟨.int i, g, s⟩ ⟨.int j, g', s'⟩ = some (sc (.int (i - j))) := rfl
@[simp] theorem vMul_int (i j : Int) : vMul ⟨.int i, g, s⟩ ⟨.int j, g', s'⟩ = if i.natAbs.log2 + j.natAbs.log2 < 1000000 then some (sc (.int (i * j))) else none := rfl
@[simp] theorem vFdiv_int (i j : Int) : vBin .fdiv ⟨.int i, g, s⟩ ⟨.int j, g', s'⟩ = if 0 < j ∧ j.natAbs.log2 < 9000 then some (sc (.int (i / j))) else none := rfl
@[simp] theorem vMod_int (i j : Int) : vBin .mod ⟨.int i, g, s⟩ ⟨.int j, g', s'⟩ = if 0 < j then some (sc (.int (i % j))) else none := rfl
@[simp] theorem vAdd_str (x y : Str) : vAdd ⟨.str x, g, s⟩ ⟨.str y, g', s'⟩ = if x.length + y.length ≤ line then some (sc (.str (x ++ y))) else none := rfl
@[simp] theorem vMul_str (x : Str) (n : Int) : vMul ⟨.str x, g, s⟩ ⟨.int n, g', s'⟩ = if -1000000 ≤ n ∧ n ≤ 1000000 ∧ x.length * n.toNat ≤ line then some (sc (.str (repS x n))) else none := rfl
def catF (k : Kd) (zs : List D) : Option Bool → Option Bool → Option Val
  | some p, some q => some (nw (.nd k zs) (bF (p && q)))
  | _, _ => none
@[simp] theorem catF_some (k : Kd) (zs : List D) (p q : Bool) : catF k zs (some p) (some q) = some (nw (.nd k zs) (bF (p && q))) := rfl
@[simp] theorem vAdd_lst (xs ys : List D) : vAdd ⟨.nd .lst xs, g, s⟩ ⟨.nd .lst ys, g', s'⟩ = if xs.length + ys.length ≤ line then catF .lst (xs ++ ys) (cpy ⟨.nd .lst xs, g, s⟩ xs) (cpy ⟨.nd .lst ys, g', s'⟩ ys) else none := by
  unfold vAdd
  dsimp only
  split
  · cases cpy ⟨.nd .lst xs, g, s⟩ xs <;> cases cpy ⟨.nd .lst ys, g', s'⟩ ys <;> rfl
  · rfl
@[simp] theorem vAug_int (i j : Int) : vAug .add ⟨.int i, g, s⟩ ⟨.int j, g', s'⟩ = some (sc (.int (i + j))) := rfl
@[simp] theorem vAug_sub (i j : Int) : vAug .sub ⟨.int i, g, s⟩ ⟨.int j, g', s'⟩ = some (sc (.int (i - j))) := rfl
@[simp] theorem vAug_str (x y : Str) : vAug .add ⟨.str x, g, s⟩ ⟨.str y, g', s'⟩ = if x.length + y.length ≤ line then some (sc (.str (x ++ y))) else none := rfl
/-! ### comparisons -/
@[simp] theorem cmp_eq (x y : D) : cmpD .eq x y = eqD x y := rfl
@[simp] theorem cmp_ne (x y : D) : cmpD .ne x y = (eqD x y).map (!·) := rfl
@[simp] theorem cmp_isin (x y : D) : cmpD .isin x y = inD x y := rfl
@[simp] theorem cmp_nin (x y : D) : cmpD .nin x y = (inD x y).map (!·) := rfl
@[simp] theorem eqD_int (i j : Int) : eqD (.int i) (.int j) = some (decide (i = j)) := rfl
@[simp] theorem eqD_str (i j : Str) : eqD (.str i) (.str j) = some (decide (i = j)) := rfl
@[simp] theorem eqD_bl (i j : Bool) : eqD (.bl i) (.bl j) = some (i == j) := rfl
@[simp] theorem eqD_str_int (i : Str) (j : Int) : eqD (.str i) (.int j) = some false := rfl
@[simp] theorem eqD_int_str (i : Int) (j : Str) : eqD (.int i) (.str j) = some false := rfl
@[simp] theorem eqD_non_int (j : Int) : eqD .non (.int j) = some false := rfl
@[simp] theorem eqD_non_str (j : Str) : eqD .non (.str j) = some false := rfl
@[simp] theorem eqD_int_non (j : Int) : eqD (.int j) .non = some false := rfl
@[simp] theorem eqD_str_non (j : Str) : eqD (.str j) .non = some false := rfl
@[simp] theorem eqD_non : eqD .non .non = some true := rfl
@[simp] theorem lt_int (i j : Int) : cmpD .lt (.int i) (.int j) = some (decide (i < j)) := rfl
@[simp] theorem le_int (i j : Int) : cmpD .le (.int i) (.int j) = some (decide (i ≤ j)) := rfl
@[simp] theorem gt_int (i j : Int) : cmpD .gt (.int i) (.int j) = some (decide (j < i)) := rfl
@[simp] theorem ge_int (i j : Int) : cmpD .ge (.int i) (.int j) = some (decide (j ≤ i)) := rfl
@[simp] theorem lt_str (i j : Str) : cmpD .lt (.str i) (.str j) = some (ltS i j) := rfl
@[simp] theorem le_str (i j : Str) : cmpD .le (.str i) (.str j) = some (!ltS j i) := rfl
@[simp] theorem gt_str (i j : Str) : cmpD .gt (.str i) (.str j) = some (ltS j i) := rfl
@[simp] theorem ge_str (i j : Str) : cmpD .ge (.str i) (.str j) = some (!ltS i j) := rfl
@[simp] theorem in_str (a b : Str) : inD (.str a) (.str b) = some (hasS a b) := rfl
theorem flat_strs (l : List Str) : (l.map D.str).all flatD = true := by
  rw [List.all_map]; exact List.all_eq_true.mpr fun a _ => rfl
theorem flat_ints (l : List Int) : (l.map D.int).all flatD = true := by
  rw [List.all_map]; exact List.all_eq_true.mpr fun a _ => rfl
theorem any_strs (x : Str) : ∀ l : List Str, ((l.map D.str).any fun y => eqFD y (.str x)) = l.contains x
  | [] => rfl
  | y :: l => by
    rw [List.map_cons, List.any_cons, any_strs x l, List.contains_cons]
    show ((y == x) || _) = ((x == y) || _)
    rw [Bool.beq_comm]
theorem any_ints (x : Int) : ∀ l : List Int, ((l.map D.int).any fun y => eqFD y (.int x)) = l.contains x
  | [] => rfl
  | y :: l => by
    rw [List.map_cons, List.any_cons, any_ints x l, List.contains_cons]
    show ((y == x) || _) = ((x == y) || _)
    rw [Bool.beq_comm]
@[simp] theorem in_strs (x : Str) (l : List Str) : inD (.str x) (.nd .lst (l.map D.str)) = some (l.contains x) := by
  unfold inD
  dsimp only
  rw [flat_strs, any_strs]
  rfl
@[simp] theorem in_strs_t (x : Str) (l : List Str) : inD (.str x) (.nd .tup (l.map D.str)) = some (l.contains x) := by
  unfold inD
  dsimp only
  rw [flat_strs, any_strs]
  rfl
@[simp] theorem in_ints (x : Int) (l : List Int) : inD (.int x) (.nd .lst (l.map D.int)) = some (l.contains x) := by
  unfold inD
  dsimp only
  rw [flat_ints, any_ints]
  rfl
@[simp] theorem tru_bl' (b : Bool) : truD (.bl b) = some b := rfl
@[simp] theorem tru_non : truD .non = some false := rfl
@[simp] theorem tru_int' (i : Int) : truD (.int i) = some (i != 0) := rfl
@[simp] theorem tru_lst (xs : List D) : truD (.nd .lst xs) = some (!xs.isEmpty) := rfl
@[simp] theorem tru_tup (xs : List D) : truD (.nd .tup xs) = some (!xs.isEmpty) := rfl
@[simp] theorem tru_str (x : Str) : truD (.str x) = if x.length ≤ line then some ((x.length : Int) != 0) else none := rfl
@[simp] theorem isNon_non : isNon .non = some true := rfl
@[simp] theorem isNon_int (i : Int) : isNon (.int i) = some false := rfl
@[simp] theorem isNon_str (i : Str) : isNon (.str i) = some false := rfl
@[simp] theorem isNon_bl (i : Bool) : isNon (.bl i) = some false := rfl
@[simp] theorem isNon_nd (k : Kd) (xs : List D) : isNon (.nd k xs) = some false := rfl
/-! ### items -/
theorem vIx_str (z : Str) (i : Int) : vIx ⟨.str z, g, s⟩ ⟨.int i, g', s'⟩ = if z.length ≤ line then (L2.atI z.cps.toList i).map fun c => sc (.str ⟨#[c]⟩) else none := rfl
theorem vIx_lst' (x : Val) (xs : List D) (i : Int) (e : x.d = .nd .lst xs) : vIx x ⟨.int i, g', s'⟩ = (L2.ixN xs.length i).bind fun j => xs[j]?.map (sub x j) := by
  unfold vIx
  dsimp only
  rw [e]
theorem ixN_nat {n j : Nat} (h : j < n) : L2.ixN n (j : Int) = some j := by
  unfold L2.ixN
  rw [if_pos (by omega), if_pos (by omega)]
  simp
theorem ixN_pos {n : Nat} {i : Int} (h0 : 0 ≤ i) (h : i < n) : L2.ixN n i = some i.toNat := by
  unfold L2.ixN
  rw [if_pos h0, if_pos h]
theorem ixN_neg {n : Nat} {i : Int} (h0 : i < 0) (h : -(n : Int) ≤ i) : L2.ixN n i = some (i + n).toNat := by
  unfold L2.ixN
  rw [if_neg (by omega), if_pos h]
/-- the item at a place that is known -/
theorem vIx_at {kd : Kd} {xs : List D} {i : Int} {j : Nat} {x : D} (hk : kd = .lst ∨ kd = .tup) (e : L2.ixN xs.length i = some j) (hx : xs[j]? = some x) : vIx ⟨.nd kd xs, g, s⟩ ⟨.int i, g', s'⟩ = some (sub ⟨.nd kd xs, g, s⟩ j x) := by
  rcases hk with h | h <;> subst h <;> (unfold vIx; dsimp only; rw [e, Option.bind_some, hx]; rfl)
@[simp] theorem vIx_0 (x : D) (xs : List D) : vIx ⟨.nd .lst (x :: xs), g, s⟩ ⟨.int 0, g', s'⟩ = some (sub ⟨.nd .lst (x :: xs), g, s⟩ 0 x) := vIx_at (.inl rfl) (ixN_nat (j := 0) (by simp)) rfl
@[simp] theorem vIx_t0 (x : D) (xs : List D) : vIx ⟨.nd .tup (x :: xs), g, s⟩ ⟨.int 0, g', s'⟩ = some (sub ⟨.nd .tup (x :: xs), g, s⟩ 0 x) := vIx_at (.inr rfl) (ixN_nat (j := 0) (by simp)) rfl
@[simp] theorem vIx_t1 (x y : D) (xs : List D) : vIx ⟨.nd .tup (x :: y :: xs), g, s⟩ ⟨.int 1, g', s'⟩ = some (sub ⟨.nd .tup (x :: y :: xs), g, s⟩ 1 y) := vIx_at (.inr rfl) (ixN_nat (j := 1) (by simp)) rfl
@[simp] theorem vIx_t2 (x y z : D) (xs : List D) : vIx ⟨.nd .tup (x :: y :: z :: xs), g, s⟩ ⟨.int 2, g', s'⟩ = some (sub ⟨.nd .tup (x :: y :: z :: xs), g, s⟩ 2 z) := vIx_at (.inr rfl) (ixN_nat (j := 2) (by simp)) rfl
@[simp] theorem vCut_str (z : Str) (lo hi : Option Int) : vCut ⟨.str z, g, s⟩ lo hi = if z.length ≤ line then some (sc (.str (L2.cutS z lo hi))) else none := rfl
@[simp] theorem vCut_lst (xs : List D) (lo hi : Option Int) : vCut ⟨.nd .lst xs, g, s⟩ lo hi = (cpy ⟨.nd .lst xs, g, s⟩ (cutL xs lo hi)).map fun b => nw (.nd .lst (cutL xs lo hi)) (bF b) := rfl
/-! ### built-in functions -/
@[simp] theorem len_str' (z : Str) : vFn Γ .len [⟨.str z, g, s⟩] = if z.length ≤ line then some (sc (.int z.length)) else none := rfl
@[simp] theorem len_lst' (xs : List D) : vFn Γ .len [⟨.nd .lst xs, g, s⟩] = some (sc (.int xs.length)) := rfl
@[simp] theorem len_tup' (xs : List D) : vFn Γ .len [⟨.nd .tup xs, g, s⟩] = some (sc (.int xs.length)) := rfl
@[simp] theorem fn_int (i : Int) : vFn Γ .int [⟨.int i, g, s⟩] = some (sc (.int i)) := rfl
@[simp] theorem fn_int_str (z : Str) : vFn Γ .int [⟨.str z, g, s⟩] = (match PySem.intText? z with | some n => if z.length ≤ 640 then some (sc (.int n)) else none | none => none) := rfl
@[simp] theorem fn_abs (i : Int) : vFn Γ .abs [⟨.int i, g, s⟩] = some (sc (.int (if i < 0 then -i else i))) := rfl
@[simp] theorem fn_min (i j : Int) : vFn Γ .min [⟨.int i, g, s⟩, ⟨.int j, g', s'⟩] = some (sc (.int (if j < i then j else i))) := rfl
@[simp] theorem fn_max (i j : Int) : vFn Γ .max [⟨.int i, g, s⟩, ⟨.int j, g', s'⟩] = some (sc (.int (if j > i then j else i))) := rfl
@[simp] theorem fn_str_int (i : Int) : vFn Γ .str [⟨.int i, g, s⟩] = if i.natAbs.log2 < 1920 then some (sc (.str (toString i))) else none := rfl
@[simp] theorem fn_str_str (z : Str) : vFn Γ .str [⟨.str z, g, s⟩] = some (sc (.str z)) := rfl
theorem intsD_map (l : List Int) : intsD (l.map D.int) = some l := by
  induction l with
  | nil => rfl
  | cons x l ih =>
    show (intsD (l.map D.int)).map (x :: ·) = _
    rw [ih]
    rfl
theorem strsD_map (l : List Str) : strsD (l.map D.str) = some l := by
  induction l with
  | nil => rfl
  | cons x l ih =>
    show (strsD (l.map D.str)).map (x :: ·) = _
    rw [ih]
    rfl
@[simp] theorem fn_sorted (l : List Int) : vFn Γ .sorted [⟨.nd .lst (l.map D.int), g, s⟩] = some (nw (.nd .lst ((sortI l).map D.int)) .dp) := by
  show ((lstD (.nd .lst (l.map D.int))).bind intsD).map _ = _
  show (intsD (l.map D.int)).map _ = _
  rw [intsD_map]
  rfl
@[simp] theorem fn_list (xs : List D) : vFn Γ .list [⟨.nd .lst xs, g, s⟩] = (cpy ⟨.nd .lst xs, g, s⟩ xs).map fun b => nw (.nd .lst xs) (bF b) := rfl
@[simp] theorem fn_list_t (xs : List D) : vFn Γ .list [⟨.nd .tup xs, g, s⟩] = (cpy ⟨.nd .tup xs, g, s⟩ xs).map fun b => nw (.nd .lst xs) (bF b) := rfl
@[simp] theorem fn_isi (x t : Val) : vFn Γ .isi [x, t] = (isiD Γ x.d t.d).map fun b => sc (.bl b) := rfl
@[simp] theorem vLrg_int (i j : Int) : vLrg ⟨.int i, g, s⟩ ⟨.int j, g', s'⟩ = if (rngOk i && rngOk j && decide ((j - i).toNat ≤ line)) = true then some (nw (.nd .lst (rngD i j)) .dp) else none := rfl
/-! ### methods -/
@[simp] theorem m_upper (z : Str) : vMth .upper ⟨.str z, g, s⟩ [] = if z.length ≤ 5592405 then some (sc (.str (Txt.upper z))) else none := rfl
@[simp] theorem m_split (z b : Str) : vMth .split ⟨.str z, g, s⟩ [⟨.str b, g', s'⟩] = if (b.length == 0) = false ∧ z.length + 2 ≤ line then some (nw (.nd .lst ((Txt.split z b).map .str)) .dp) else none := rfl
@[simp] theorem m_join (z : Str) (l : List Str) : vMth .join ⟨.str z, g, s⟩ [⟨.nd .lst (l.map D.str), g', s'⟩] = if (l.map (·.length)).sum + l.length * z.length ≤ 16777216 then some (sc (.str (Txt.join z l))) else none := by
  unfold vMth
  dsimp only
  rw [show (seqD (.nd .lst (l.map D.str))).bind strsD = some l from strsD_map l]
@[simp] theorem m_strip (z : Str) : vMth .strip ⟨.str z, g, s⟩ [] = if z.length ≤ line then some (sc (.str (Txt.strip z))) else none := rfl
@[simp] theorem m_starts (z b : Str) : vMth .startswith ⟨.str z, g, s⟩ [⟨.str b, g', s'⟩] = some (sc (.bl (Txt.startswith z b))) := rfl
@[simp] theorem m_find (z b : Str) : vMth .find ⟨.str z, g, s⟩ [⟨.str b, g', s'⟩] = some (sc (.int (Txt.find z b))) := rfl
@[simp] theorem vAttr_exc (c : Nat) (d : D) : vAttr Γ ⟨.exc c d, g, s⟩ = if (Γ.hc c && Γ.exc c) = true ∧ isSc d = true then some (sc d) else none := rfl
/-! ### the run -/
@[simp] theorem varQ_some (i : Nat) (d : D) (g : Fg) : varQ i Q (some (some (d, g))) = Q (rdv i d g) := rfl
@[simp] theorem cstQ_some (w : W) : cstQ Q (some w) = oQ (ofW w) fun d => Q (sc d) := rfl
@[simp] theorem kBin1_ap (wb : W1) (o : BOp) (x : Val) : kBin1 wb o Q X x = wb (kBin2 o x Q) X := rfl
@[simp] theorem kBin2_ap (o : BOp) (x y : Val) : kBin2 o x Q y = oQ (vBin o x y) Q := rfl
@[simp] theorem kNeg_ap (i : Int) : kNeg Q ⟨.int i, g, s⟩ = Q (sc (.int (-i))) := rfl
def kSb (Q : QV) (b : Bool) : Prop := Q (sc (.bl b))
@[simp] theorem kSb_ap (b : Bool) : kSb Q b = Q (sc (.bl b)) := rfl
@[simp] theorem kCmp1_ap (wb : W1) (o : COp) (x : Val) : kCmp1 wb o Q X x = wb (kCmp2 o x Q) X := rfl
@[simp] theorem kCmp2_ap (o : COp) (x y : Val) : kCmp2 o x Q y = oQ (cmpD o x.d y.d) (kSb Q) := rfl
@[simp] theorem kIsN_ap (b : Bool) (x : Val) : kIsN b Q x = oQ (isNon x.d) fun c => Q (sc (.bl (b == c))) := rfl
@[simp] theorem kChn1_ap (wb wc : W1) (o p : COp) (x : Val) : kChn1 wb wc o p Q X x = wb (kChn2 wc o p x Q X) X := rfl
@[simp] theorem kChn2_ap (wc : W1) (o p : COp) (x y : Val) : kChn2 wc o p x Q X y = oQ (cmpD o x.d y.d) (kChn3 wc p y Q X) := rfl
@[simp] theorem kChn3_t (wc : W1) (p : COp) (y : Val) : kChn3 wc p y Q X true = wc (kCmp2 p y Q) X := rfl
@[simp] theorem kChn3_f (wc : W1) (p : COp) (y : Val) : kChn3 wc p y Q X false = Q (sc (.bl false)) := rfl
@[simp] theorem kNot_ap (b : Bool) : kNot Q ⟨.bl b, g, s⟩ = Q (sc (.bl (!b))) := rfl
@[simp] theorem kAnd_t (wb : W1) : kAnd wb Q X ⟨.bl true, g, s⟩ = wb Q X := rfl
@[simp] theorem kAnd_f (wb : W1) : kAnd wb Q X ⟨.bl false, g, s⟩ = Q (sc (.bl false)) := rfl
@[simp] theorem kOr_t (wb : W1) : kOr wb Q X ⟨.bl true, g, s⟩ = Q (sc (.bl true)) := rfl
@[simp] theorem kOr_f (wb : W1) : kOr wb Q X ⟨.bl false, g, s⟩ = wb Q X := rfl
@[simp] theorem kIte_t (wa wb : W1) : kIte wa wb Q X true = wa Q X := rfl
@[simp] theorem kIte_f (wa wb : W1) : kIte wa wb Q X false = wb Q X := rfl
@[simp] theorem kCall_ap (f : Nat) (vs : List Val) : kCall k hot f Q X vs = k hot f (vs.map (·.d)) (resQ (brw vs) Q X) := rfl
@[simp] theorem resQ_int (b : Bool) (i : Int) (g : Fg) : resQ b Q X (.ok (.int i) g) = Q (sc (.int i)) := rfl
@[simp] theorem resQ_str (b : Bool) (i : Str) (g : Fg) : resQ b Q X (.ok (.str i) g) = Q (sc (.str i)) := rfl
@[simp] theorem resQ_bl (b : Bool) (i : Bool) (g : Fg) : resQ b Q X (.ok (.bl i) g) = Q (sc (.bl i)) := rfl
@[simp] theorem resQ_non (b : Bool) (g : Fg) : resQ b Q X (.ok .non g) = Q (sc .non) := rfl
@[simp] theorem resQ_dp (b : Bool) (k : Kd) (xs : List D) : resQ b Q X (.ok (.nd k xs) .dp) = Q (nw (.nd k xs) .dp) := rfl
@[simp] theorem resQ_rt (b : Bool) (k : Kd) (xs : List D) : resQ b Q X (.ok (.nd k xs) .rt) = (b = false ∧ Q (nw (.nd k xs) .rt)) := rfl
@[simp] theorem resQ_fr (b : Bool) (k : Kd) (xs : List D) : resQ b Q X (.ok (.nd k xs) .fr) = (b = false ∧ Q (sc (.nd k xs))) := rfl
@[simp] theorem resQ_exc (b : Bool) (c : Nat) (d : D) : resQ b Q X (.exc c d) = X c d := rfl
@[simp] theorem brw_nil : brw [] = false := rfl
@[simp] theorem brw_t (d : D) (g : Fg) (ts : List Nat) (vs : List Val) : brw (⟨d, g, .t ts⟩ :: vs) = (!ts.isEmpty || brw vs) := rfl
@[simp] theorem brw_p (d : D) (g : Fg) (i : Nat) (q : List Nat) (vs : List Val) : brw (⟨d, g, .p i q⟩ :: vs) = true := rfl
@[simp] theorem kFn_ap (b : Fn) (vs : List Val) : kFn Γ b Q vs = oQ (vFn Γ b vs) Q := rfl
@[simp] theorem kMth2_ap (m : Mt) (o : Val) (vs : List Val) : kMth2 m o Q vs = oQ (vMth m o vs) Q := rfl
@[simp] theorem mStr1 : mStr .upper = true ∧ mStr .split = true ∧ mStr .join = true ∧ mStr .strip = true ∧ mStr .startswith = true ∧ mStr .find = true := ⟨rfl, rfl, rfl, rfl, rfl, rfl⟩
@[simp] theorem kMth_ap (wes : WL) (m : Mt) (z : Str) : kMth wes m Q X ⟨.str z, g, s⟩ = (mStr m = true ∧ wes (kMth2 m ⟨.str z, g, s⟩ Q) X) := rfl
@[simp] theorem kAttr_ap (x : Val) : kAttr Γ Q x = oQ (vAttr Γ x) Q := rfl
@[simp] theorem kLrg_ap (x y : Val) : kLrg x Q y = oQ (vLrg x y) Q := rfl
@[simp] theorem kLrg1_ap (wb : W1) (x : Val) : kLrg1 wb Q X x = wb (kLrg x Q) X := rfl
@[simp] theorem kIx_ap (wi : W1) (x : Val) : kIx wi Q X x = wi (kIx2 x Q) X := rfl
@[simp] theorem kIx2_ap (x i : Val) : kIx2 x Q i = oQ (vIx x i) Q := rfl
@[simp] theorem kCut1_ap (wlo whi : WO) (x : Val) : kCut1 wlo whi Q X x = wlo (kCut2 whi x Q X) X := rfl
@[simp] theorem kCut2_ap (whi : WO) (x : Val) (lo : Option Int) : kCut2 whi x Q X lo = whi (kCut3 x lo Q) X := rfl
@[simp] theorem kCut3_ap (x : Val) (lo hi : Option Int) : kCut3 x lo Q hi = oQ (vCut x lo hi) Q := rfl
@[simp] theorem kMk_ap (kd : Kd) (vs : List Val) : kMk kd Q vs = (vs.length ≤ line ∧ oQ (mk kd vs) Q) := rfl
@[simp] theorem kItms_ap (Q : List D → Prop) (v : Val) : kItms Q v = oQ (itms v) Q := rfl
@[simp] theorem kRng_ap (Q : List D → Prop) (j : Int) : kRng Q ⟨.int j, g, s⟩ = (rngOk j = true ∧ Q (rngD 0 j)) := rfl
@[simp] theorem kRng22_ap (Q : List D → Prop) (i j : Int) : kRng22 ⟨.int i, g, s⟩ Q ⟨.int j, g', s'⟩ = ((rngOk i && rngOk j) = true ∧ Q (rngD i j)) := rfl
@[simp] theorem kRng2_ap (wb : W1) (Q : List D → Prop) (v : Val) : kRng2 wb Q X v = wb (kRng22 v Q) X := rfl
section
variable {Q : Bool → Prop}
@[simp] theorem kNotT_ap (b : Bool) : kNotT Q b = Q (!b) := rfl
@[simp] theorem kAndT_t (wb : WB) : kAndT wb Q X true = wb Q X := rfl
@[simp] theorem kAndT_f (wb : WB) : kAndT wb Q X false = Q false := rfl
@[simp] theorem kOrT_t (wb : WB) : kOrT wb Q X true = Q true := rfl
@[simp] theorem kOrT_f (wb : WB) : kOrT wb Q X false = wb Q X := rfl
@[simp] theorem kCmpT1_ap (wb : W1) (o : COp) (x : Val) : kCmpT1 wb o Q X x = wb (kCmpT2 o x Q) X := rfl
@[simp] theorem kCmpT2_ap (o : COp) (x y : Val) : kCmpT2 o x Q y = oQ (cmpD o x.d y.d) Q := rfl
@[simp] theorem kIsNT_ap (b : Bool) (x : Val) : kIsNT b Q x = oQ (isNon x.d) fun c => Q (b == c) := rfl
@[simp] theorem kChnT1_ap (wb wc : W1) (o p : COp) (x : Val) : kChnT1 wb wc o p Q X x = wb (kChnT2 wc o p x Q X) X := rfl
@[simp] theorem kChnT2_ap (wc : W1) (o p : COp) (x y : Val) : kChnT2 wc o p x Q X y = oQ (cmpD o x.d y.d) (kChnT3 wc p y Q X) := rfl
@[simp] theorem kChnT3_t (wc : W1) (p : COp) (y : Val) : kChnT3 wc p y Q X true = wc (kCmpT2 p y Q) X := rfl
@[simp] theorem kChnT3_f (wc : W1) (p : COp) (y : Val) : kChnT3 wc p y Q X false = Q false := rfl
@[simp] theorem kTru_ap (x : Val) : kTru Q x = oQ (truD x.d) Q := rfl
@[simp] theorem varT_some (i : Nat) (d : D) (g : Fg) : varT i Q (some (some (d, g))) = oQ (truD d) Q := rfl
@[simp] theorem kTrue_ap : kTrue Q = Q true := rfl
end
@[simp] theorem kEs1_ap (wes : WL) (Q : List Val → Prop) (v : Val) : kEs1 wes Q X v = wes (kEs2 v Q) X := rfl
@[simp] theorem kEs2_ap (Q : List Val → Prop) (v : Val) (vs : List Val) : kEs2 v Q vs = Q (v :: vs) := rfl
@[simp] theorem kO_ap (Q : Option Int → Prop) (i : Int) : kO Q ⟨.int i, g, s⟩ = Q (some i) := rfl
@[simp] theorem kComp_ap (wt : D → WB) (we : D → W1) (xs : List D) : kComp wt we Q xs = wCo wt we xs [] true Q := rfl
end
section
variable {Γ : Gam} {k : Cl} {hot : Bool} {σ : Sv} {Q : QF} {g g' : Fg} {s s' : Src} {wf : Nat}
@[simp] theorem kX_ap (c : Nat) (d : D) : kX σ Q c d = Q (.exc c d σ) := rfl
@[simp] theorem wPut_int (i : Nat) (n : Int) : wPut i σ Q ⟨.int n, g, s⟩ = Q (.nx (σ.set i (some (.int n, .fr)))) := rfl
@[simp] theorem wPut_str (i : Nat) (n : Str) : wPut i σ Q ⟨.str n, g, s⟩ = Q (.nx (σ.set i (some (.str n, .fr)))) := rfl
@[simp] theorem wPut_bl (i : Nat) (n : Bool) : wPut i σ Q ⟨.bl n, g, s⟩ = Q (.nx (σ.set i (some (.bl n, .fr)))) := rfl
@[simp] theorem wPut_non (i : Nat) : wPut i σ Q ⟨.non, g, s⟩ = Q (.nx (σ.set i (some (.non, .fr)))) := rfl
theorem wPut_sc {d : D} (i : Nat) (h : isSc d = true) : wPut i σ Q ⟨d, g, s⟩ = Q (.nx (σ.set i (some (d, .fr)))) := if_pos h
@[simp] theorem wPut_fr (i : Nat) (k : Kd) (xs : List D) : wPut i σ Q ⟨.nd k xs, .fr, s⟩ = Q (.nx (σ.set i (some (.nd k xs, .fr)))) := rfl
@[simp] theorem wPut_dp (i : Nat) (k : Kd) (xs : List D) (ts : List Nat) : wPut i σ Q ⟨.nd k xs, .dp, .t ts⟩ = Q (.nx ((clr σ ts).set i (some (.nd k xs, .dp)))) := rfl
@[simp] theorem wPut_rt (i : Nat) (k : Kd) (xs : List D) (ts : List Nat) : wPut i σ Q ⟨.nd k xs, .rt, .t ts⟩ = Q (.nx ((clr σ ts).set i (some (.nd k xs, .rt)))) := rfl
@[simp] theorem wPut_dpp (i j : Nat) (k : Kd) (xs : List D) (q : List Nat) : wPut i σ Q ⟨.nd k xs, .dp, .p j q⟩ = oQ (tak σ j q) fun σ' => Q (.nx (σ'.set i (some (.nd k xs, .dp)))) := rfl
@[simp] theorem wPut_rtp (i j : Nat) (k : Kd) (xs : List D) (q : List Nat) : wPut i σ Q ⟨.nd k xs, .rt, .p j q⟩ = oQ (tak σ j q) fun σ' => Q (.nx (σ'.set i (some (.nd k xs, .rt)))) := rfl
@[simp] theorem clr_nil : clr σ [] = σ := rfl
@[simp] theorem clr_cons (i : Nat) (is : List Nat) : clr σ (i :: is) = clr (σ.set i none) is := rfl
@[simp] theorem tak_nil (j : Nat) : tak σ j [] = some (σ.set j none) := rfl
def takF (σ : Sv) (j : Nat) (q : List Nat) : Option Sl → Option Sv
  | some (some (d, .dp)) => some (σ.set j (some (putP d q .hole, .dp)))
  | _ => none
@[simp] theorem tak_cons (j i : Nat) (q : List Nat) : tak σ j (i :: q) = takF σ j (i :: q) σ[j]? := by
  unfold tak takF
  rfl
@[simp] theorem takF_dp (j : Nat) (q : List Nat) (d : D) : takF σ j q (some (some (d, .dp))) = some (σ.set j (some (putP d q .hole, .dp))) := rfl
@[simp] theorem putP_nil (d x : D) : putP d [] x = x := by cases d <;> rfl
@[simp] theorem putP_cons (k : Kd) (xs : List D) (j : Nat) (q : List Nat) (x : D) : putP (.nd k xs) (j :: q) x = .nd k (xs.set j (putP (xs.getD j .hole) q x)) := rfl
@[simp] theorem frz_nil : frz σ [] = σ := rfl
@[simp] theorem frz_cons (i : Nat) (is : List Nat) : frz σ (i :: is) = frz (frz1 σ i) is := rfl
def frz1F (σ : Sv) (i : Nat) : Option Sl → Sv
  | some (some (d, _)) => σ.set i (some (d, .fr))
  | _ => σ
@[simp] theorem frz1_eq (i : Nat) : frz1 σ i = frz1F σ i σ[i]? := by
  unfold frz1 frz1F
  rfl
@[simp] theorem frz1F_some (i : Nat) (d : D) (g : Fg) : frz1F σ i (some (some (d, g))) = σ.set i (some (d, .fr)) := rfl
def updF (σ : Sv) (j : Nat) (q : List Nat) (x : D) (b : Bool) (ts : List Nat) : Option Sl → Option Sv
  | some (some (d, .dp)) => if j ∈ ts then none else if b = true then some ((clr σ ts).set j (some (putP d q x, .dp))) else (match q, ts with
    | [], [] => some (σ.set j (some (x, .rt)))
    | _, _ => none)
  | some (some (_, .rt)) => (match q, ts with
    | [], [] => some (σ.set j (some (x, .rt)))
    | _, _ => none)
  | _ => none
@[simp] theorem upd_eq (j : Nat) (q : List Nat) (x : D) (b : Bool) (ts : List Nat) : upd σ j q x b ts = updF σ j q x b ts σ[j]? := by
  unfold upd updF
  rfl
@[simp] theorem updF_dp (j : Nat) (q : List Nat) (x d : D) (ts : List Nat) : updF σ j q x true ts (some (some (d, .dp))) = if j ∈ ts then none else some ((clr σ ts).set j (some (putP d q x, .dp))) := rfl
@[simp] theorem updF_dpf (j : Nat) (x d : D) : updF σ j [] x false [] (some (some (d, .dp))) = some (σ.set j (some (x, .rt))) := rfl
@[simp] theorem updF_rt (j : Nat) (x d : D) (b : Bool) : updF σ j [] x b [] (some (some (d, .rt))) = some (σ.set j (some (x, .rt))) := rfl
@[simp] theorem kApp1_ap (we : W1) (xs : List D) : kApp1 we σ Q ⟨.nd .lst xs, g, s⟩ = we (kApp2 σ ⟨.nd .lst xs, g, s⟩ Q) (kX σ Q) := rfl
def appF (σ : Sv) (Q : QF) (g : Fg) (j : Nat) (q : List Nat) (xs : List D) (d : D) : Option (Bool × List Nat) → Prop
  | some (b, ts) => g ≠ .fr ∧ xs.length < line ∧ oQ (upd σ j q (.nd .lst (xs ++ [d])) b ts) fun σ' => Q (.nx σ')
  | none => False
@[simp] theorem kApp2_ap (xs : List D) (j : Nat) (q : List Nat) (v : Val) : kApp2 σ ⟨.nd .lst xs, g, .p j q⟩ Q v = appF σ Q g j q xs v.d (st1 v) := by
  unfold kApp2 appF
  dsimp only
  cases st1 v <;> rfl
@[simp] theorem appF_some (j : Nat) (q : List Nat) (xs : List D) (d : D) (b : Bool) (ts : List Nat) : appF σ Q g j q xs d (some (b, ts)) = (g ≠ .fr ∧ xs.length < line ∧ oQ (upd σ j q (.nd .lst (xs ++ [d])) b ts) fun σ' => Q (.nx σ')) := rfl
@[simp] theorem kPop_some (xs : List D) (y : D) (j i : Nat) (q : List Nat) : kPop (some i) σ Q ⟨.nd .lst (xs ++ [y]), g, .p j q⟩ = (g ≠ .fr ∧ oQ (upd σ j q (.nd .lst xs) true []) fun σ' => isHole y = false ∧ Q (.nx (σ'.set i (some (y, if isSc y = true ∨ g ≠ .dp then .fr else .dp))))) := by
  unfold kPop
  have e : (xs ++ [y])[(xs ++ [y]).length - 1]? = some y := by
    rw [List.length_append, List.getElem?_append_right (by simp)]
    simp
  dsimp only
  rw [e]
  simp only [List.dropLast_concat]
@[simp] theorem isHole_nd (k : Kd) (xs : List D) : isHole (.nd k xs) = false := rfl
@[simp] theorem isHole_int (i : Int) : isHole (.int i) = false := rfl
@[simp] theorem isHole_str (i : Str) : isHole (.str i) = false := rfl
@[simp] theorem kSto1_ap (wo wi : W1) (v : Val) : kSto1 wo wi σ Q v = wo (kSto2 wi σ v Q) (kX σ Q) := rfl
@[simp] theorem kSto2_ap (wi : W1) (v o : Val) : kSto2 wi σ v Q o = wi (kSto3 σ v o Q) (kX σ Q) := rfl
def stoF (σ : Sv) (Q : QF) (g : Fg) (j : Nat) (q : List Nat) (xs : List D) (n : Int) (d : D) : Option (Bool × List Nat) → Prop
  | some (b, ts) => g ≠ .fr ∧ oQ (L2.ixN xs.length n) fun m => oQ (upd σ j q (.nd .lst (xs.set m d)) b ts) fun σ' => Q (.nx σ')
  | none => False
@[simp] theorem kSto3_ap (xs : List D) (j : Nat) (q : List Nat) (v : Val) (n : Int) : kSto3 σ v ⟨.nd .lst xs, g, .p j q⟩ Q ⟨.int n, g', s'⟩ = stoF σ Q g j q xs n v.d (st1 v) := by
  unfold kSto3 stoF
  dsimp only
  cases st1 v <;> rfl
@[simp] theorem stoF_some (j : Nat) (q : List Nat) (xs : List D) (n : Int) (d : D) (b : Bool) (ts : List Nat) : stoF σ Q g j q xs n d (some (b, ts)) = (g ≠ .fr ∧ oQ (L2.ixN xs.length n) fun m => oQ (upd σ j q (.nd .lst (xs.set m d)) b ts) fun σ' => Q (.nx σ')) := rfl
@[simp] theorem augQ_some (we : W1) (i : Nat) (o : BOp) (d : D) (g : Fg) : augQ we i o σ Q (some (some (d, g))) = (isSc d = true ∧ we (kAug2 i o (sc d) σ Q) (kX σ Q)) := rfl
@[simp] theorem kAug2_ap (i : Nat) (o : BOp) (x y : Val) : kAug2 i o x σ Q y = oQ (vAug o x y) fun v => Q (.nx (σ.set i (some (v.d, .fr)))) := rfl
@[simp] theorem kExp_ap (v : Val) : kExp σ Q v = Q (.nx σ) := rfl
@[simp] theorem kIf_t (wa wb : WS) : kIf wa wb σ Q true = wa σ Q := rfl
@[simp] theorem kIf_f (wa wb : WS) : kIf wa wb σ Q false = wb σ Q := rfl
@[simp] theorem kForA_p (i : Nat) (wb : WS) (xs : List D) (g : Fg) (j : Nat) (q : List Nat) : kForA i wb σ Q ⟨.nd .lst xs, g, .p j q⟩ = wFor i wb xs (frz1 σ j) Q := rfl
@[simp] theorem kForA_pt (i : Nat) (wb : WS) (xs : List D) (g : Fg) (j : Nat) (q : List Nat) : kForA i wb σ Q ⟨.nd .tup xs, g, .p j q⟩ = wFor i wb xs (frz1 σ j) Q := rfl
@[simp] theorem kForA_t (i : Nat) (wb : WS) (xs : List D) (g : Fg) : kForA i wb σ Q ⟨.nd .lst xs, g, .t []⟩ = wFor i wb xs σ Q := rfl
@[simp] theorem kForA_tt (i : Nat) (wb : WS) (xs : List D) (g : Fg) : kForA i wb σ Q ⟨.nd .tup xs, g, .t []⟩ = wFor i wb xs σ Q := rfl
@[simp] theorem kForA_s (i : Nat) (wb : WS) (z : Str) (g : Fg) : kForA i wb σ Q ⟨.str z, g, .t []⟩ = (z.length ≤ line ∧ wFor i wb (z.cps.toList.map fun c => D.str ⟨#[c]⟩) σ Q) := by
  show (oQ (if z.length ≤ line then some _ else none) _) = _
  rw [oQ_ite]
  rfl
@[simp] theorem kForR_ap (i : Nat) (wb : WS) (j : Int) : kForR i wb σ Q ⟨.int j, g, s⟩ = (rngOk j = true ∧ wFor i wb (rngD 0 j) σ Q) := rfl
@[simp] theorem kForR22_ap (i : Nat) (wb : WS) (a b : Int) : kForR22 i wb σ ⟨.int a, g, s⟩ Q ⟨.int b, g', s'⟩ = ((rngOk a && rngOk b) = true ∧ wFor i wb (rngD a b) σ Q) := rfl
@[simp] theorem kForR2_ap (w2 : W1) (i : Nat) (wb : WS) (v : Val) : kForR2 w2 i wb σ Q v = w2 (kForR22 i wb σ v Q) (kX σ Q) := rfl
theorem kRet_sc {d : D} (h : isSc d = true) : kRet Q ⟨d, g, s⟩ = Q (.ret d .fr) := if_pos h
@[simp] theorem kRet_int (n : Int) : kRet Q ⟨.int n, g, s⟩ = Q (.ret (.int n) .fr) := rfl
@[simp] theorem kRet_str (n : Str) : kRet Q ⟨.str n, g, s⟩ = Q (.ret (.str n) .fr) := rfl
@[simp] theorem kRet_bl (n : Bool) : kRet Q ⟨.bl n, g, s⟩ = Q (.ret (.bl n) .fr) := rfl
@[simp] theorem kRet_non : kRet Q ⟨.non, g, s⟩ = Q (.ret .non .fr) := rfl
@[simp] theorem kRet_nd (k : Kd) (xs : List D) : kRet Q ⟨.nd k xs, g, s⟩ = Q (.ret (.nd k xs) g) := rfl
@[simp] theorem kRse_ap (c : Nat) (v : Val) : kRse c σ Q v = (isSc v.d = true ∧ Q (.exc c v.d σ)) := rfl
@[simp] theorem tryE_nx (i : Nat) : tryE i Q (.nx σ) = (noX (σ.set i none) = true ∧ Q (.nx (σ.set i none))) := rfl
@[simp] theorem tryE_ret (i : Nat) (d : D) : tryE i Q (.ret d g) = Q (.ret d g) := rfl
@[simp] theorem tryF_nx (wh : WS) (c i : Nat) : tryF Γ hot wh c i Q (.nx σ) = Q (.nx σ) := rfl
@[simp] theorem tryF_ret (wh : WS) (c i : Nat) (d : D) : tryF Γ hot wh c i Q (.ret d g) = Q (.ret d g) := rfl
@[simp] theorem tryF_exc (wh : WS) (c i c' : Nat) (d : D) : tryF Γ hot wh c i Q (.exc c' d σ) = ((Γ.hc c' && Γ.exc c') = true ∧ (if Γ.sub c' c = true then hot = false ∧ isSc d = true ∧ wh (σ.set i (some (.exc c' d, .fr))) (tryE i Q) else Q (.exc c' d σ))) := rfl
@[simp] theorem sqF_nx (wr : WS) : sqF wr Q (.nx σ) = wr σ Q := rfl
@[simp] theorem sqF_ret (wr : WS) (d : D) : sqF wr Q (.ret d g) = Q (.ret d g) := rfl
@[simp] theorem sqF_brk (wr : WS) : sqF wr Q (.brk σ) = Q (.brk σ) := rfl
@[simp] theorem sqF_ct (wr : WS) : sqF wr Q (.ct σ) = Q (.ct σ) := rfl
@[simp] theorem sqF_exc (wr : WS) (c : Nat) (d : D) : sqF wr Q (.exc c d σ) = Q (.exc c d σ) := rfl
def asgF (Γ : Gam) (k : Cl) (hot : Bool) (i : Nat) (e : E) (σ : Sv) (Q : QF) : Option E → Prop
  | some o => wE Γ k hot o σ (kPop (some i) σ Q) (kX σ Q)
  | none => wE Γ k hot e σ (wPut i σ Q) (kX σ Q)
@[simp] theorem asgF_n (i : Nat) (e : E) : asgF Γ k hot i e σ Q none = wE Γ k hot e σ (wPut i σ Q) (kX σ Q) := rfl
@[simp] theorem asgF_s (i : Nat) (e o : E) : asgF Γ k hot i e σ Q (some o) = wE Γ k hot o σ (kPop (some i) σ Q) (kX σ Q) := rfl
@[simp] theorem wS_asg (i : Nat) (e : E) : wS Γ wf k hot (.asg i e) σ Q = asgF Γ k hot i e σ Q (popOf e) := by
  unfold wS asgF
  cases popOf e <;> rfl
def expF (Γ : Gam) (k : Cl) (hot : Bool) (e : E) (σ : Sv) (Q : QF) : Option (E × E) → Option E → Prop
  | some (o, x), _ => wE Γ k hot o σ (kApp1 (wE Γ k hot x σ) σ Q) (kX σ Q)
  | none, some o => wE Γ k hot o σ (kPop none σ Q) (kX σ Q)
  | none, none => wE Γ k hot e σ (kExp σ Q) (kX σ Q)
@[simp] theorem expF_a (e o x : E) (p : Option E) : expF Γ k hot e σ Q (some (o, x)) p = wE Γ k hot o σ (kApp1 (wE Γ k hot x σ) σ Q) (kX σ Q) := rfl
@[simp] theorem expF_p (e o : E) : expF Γ k hot e σ Q none (some o) = wE Γ k hot o σ (kPop none σ Q) (kX σ Q) := rfl
@[simp] theorem expF_n (e : E) : expF Γ k hot e σ Q none none = wE Γ k hot e σ (kExp σ Q) (kX σ Q) := rfl
@[simp] theorem wS_exp (e : E) : wS Γ wf k hot (.exp e) σ Q = expF Γ k hot e σ Q (appOf e) (popOf e) := by
  unfold wS expF
  cases appOf e with
  | some x => rfl
  | none => cases popOf e <;> rfl
@[simp] theorem wS_asc (i : Nat) (e : E) : wS Γ wf k hot (.asc i e) σ Q = wE Γ k hot e σ (wPut i σ Q) (kX σ Q) := by rw [wS]
@[simp] theorem wS_unp (is : List Nat) (e : E) : wS Γ wf k hot (.unp is e) σ Q = wE Γ k hot e σ (kUnp is σ Q) (kX σ Q) := by rw [wS]
@[simp] theorem wS_sto (o i e : E) : wS Γ wf k hot (.sto o i e) σ Q = wE Γ k hot e σ (kSto1 (wE Γ k hot o σ) (wE Γ k hot i σ) σ Q) (kX σ Q) := by rw [wS]
@[simp] theorem wS_aug (i : Nat) (o : BOp) (e : E) : wS Γ wf k hot (.aug i o e) σ Q = augQ (wE Γ k hot e σ) i o σ Q σ[i]? := by rw [wS]
@[simp] theorem wS_ite (c : E) (a b : Ss) : wS Γ wf k hot (.ite c a b) σ Q = wT Γ k hot c σ (kIf (wSs Γ wf k hot a) (wSs Γ wf k hot b) σ Q) (kX σ Q) := by rw [wS]
@[simp] theorem wS_whl (c : E) (b : Ss) : wS Γ wf k hot (.whl c b) σ Q = wWhl (wT Γ k hot c) (wSs Γ wf k hot b) wf σ Q := by rw [wS]
@[simp] theorem wS_forA (i : Nat) (e : E) (b : Ss) : wS Γ wf k hot (.for i (.any e) b) σ Q = wE Γ k hot e σ (kForA i (wSs Γ wf k hot b) σ Q) (kX σ Q) := by rw [wS]
@[simp] theorem wS_forR (i : Nat) (e : E) (b : Ss) : wS Γ wf k hot (.for i (.rng e) b) σ Q = wE Γ k hot e σ (kForR i (wSs Γ wf k hot b) σ Q) (kX σ Q) := by rw [wS]
@[simp] theorem wS_forR2 (i : Nat) (a c : E) (b : Ss) : wS Γ wf k hot (.for i (.rng2 a c) b) σ Q = wE Γ k hot a σ (kForR2 (wE Γ k hot c σ) i (wSs Γ wf k hot b) σ Q) (kX σ Q) := by rw [wS]
@[simp] theorem wS_ret (e : E) : wS Γ wf k hot (.ret e) σ Q = wE Γ k hot e σ (kRet Q) (kX σ Q) := by rw [wS]
@[simp] theorem wS_ret0 : wS Γ wf k hot .ret0 σ Q = Q (.ret .non .fr) := by rw [wS]
@[simp] theorem wS_rse (c : Nat) (e : E) : wS Γ wf k hot (.rse c e) σ Q = wE Γ k hot e σ (kRse c σ Q) (kX σ Q) := by rw [wS]
@[simp] theorem wS_try (b : Ss) (c i : Nat) (hb : Ss) : wS Γ wf k hot (.try b c i hb) σ Q = wSs Γ wf k hot b σ (tryF Γ hot (wSs Γ wf k true hb) c i Q) := by rw [wS]
@[simp] theorem wS_brk : wS Γ wf k hot .brk σ Q = Q (.brk σ) := by rw [wS]
@[simp] theorem wS_cnt : wS Γ wf k hot .cnt σ Q = Q (.ct σ) := by rw [wS]
@[simp] theorem wS_pas : wS Γ wf k hot .pas σ Q = Q (.nx σ) := by rw [wS]
@[simp] theorem wS_frz (is : List Nat) : wS Γ wf k hot (.frz is) σ Q = Q (.nx (frz σ is)) := by rw [wS]
@[simp] theorem wSs_nil : wSs Γ wf k hot .nil σ Q = Q (.nx σ) := by rw [wSs]
@[simp] theorem wSs_cons (s : S) (r : Ss) : wSs Γ wf k hot (.cons s r) σ Q = wS Γ wf k hot s σ (sqF (wSs Γ wf k hot r) Q) := by rw [wSs]
@[simp] theorem endV_nx (K : Rz → Prop) : endV K (.nx σ) = K (.ok .non .fr) := rfl
@[simp] theorem endV_ret (K : Rz → Prop) (d : D) : endV K (.ret d g) = K (.ok d g) := rfl
@[simp] theorem endV_exc (K : Rz → Prop) (c : Nat) (d : D) : endV K (.exc c d σ) = K (.exc c d) := rfl
/-- a call of a def of the text -/
theorem wcall {n f : Nat} {ds : List D} {K : Rz → Prop} {d : FnD} (hf : Γ.fn f = some d) (hl : ds.length = d.ar) (h5 : f ≠ 5) (h2 : ¬ (f = 2 ∨ f = 3 ∨ f = 4)) : wCall Γ wf (n + 1) hot f ds K = wSs Γ wf (wCall Γ wf n) hot d.body (startV d.n ds) (endV K) := by
  rw [wCall, if_neg h5, if_neg h2, hf]
  simp [hl]
/-- a draw -/
@[simp] theorem wtake {n : Nat} {c : Int} {K : Rz → Prop} : wCall Γ wf (n + 2) hot 5 [.sto, .int c] K = (1 ≤ c ∧ c ≤ 4000000000 ∧ ∀ v : Int, 0 ≤ v → v < c → K (.ok (.int v) .fr)) := by
  rw [wCall, if_pos rfl]
  simp [drawQ]
end
end Vp
set_option Elab.async false
set_option linter.all false
set_option maxRecDepth 100000
/-! Vp C: defs as instances; loops; drawn items. -/
namespace Vp
open PySem Mp
/-- the def f is d -/
class Fn (Γ : Gam) (f : Nat) (d : outParam FnD) : Prop where
  eq : Γ.fn f = some d
class Gl (Γ : Gam) (g : Nat) (w : outParam W) : Prop where
  eq : Γ.glob g = some w
section
variable {Γ : Gam} {k : Cl} {hot : Bool} {σ : Sv} {Q : QV} {X : QX} {g g' : Fg} {s s' : Src} {wf n : Nat}
theorem wc {f : Nat} {d : FnD} [h : Fn Γ f d] {ds : List D} {K : Rz → Prop} (q : wSs Γ wf (wCall Γ wf n) hot d.body (startV d.n ds) (endV K)) (hl : ds.length = d.ar := by rfl) (h5 : f ≠ 5 := by decide) (h2 : ¬ (f = 2 ∨ f = 3 ∨ f = 4) := by decide) : wCall Γ wf (n + 1) hot f ds K := by
  rw [wcall h.eq hl h5 h2]
  exact q
@[simp] theorem glob_eq {i : Nat} {w : W} [h : Gl Γ i w] : Γ.glob i = some w := h.eq
/-- an item of a written row at a drawn place -/
theorem ix_mem {xs : List D} {i : Int} (h0 : 0 ≤ i) (h1 : i < xs.length) (hs : xs.all isSc = true) (hq : ∀ x ∈ xs, Q (sc x)) : oQ (vIx ⟨.nd .lst xs, g, s⟩ ⟨.int i, g', s'⟩) Q := by
  have hl : i.toNat < xs.length := by omega
  rw [vIx_at (.inl rfl) (ixN_pos h0 h1) (List.getElem?_eq_getElem hl), sub_sc _ _ (List.all_eq_true.mp hs _ (List.getElem_mem hl))]
  exact hq _ (List.getElem_mem hl)
/-- a sign at a drawn place -/
theorem ix_chr {z : Str} {i : Int} (h0 : 0 ≤ i) (h1 : i < z.length) (hl : z.length ≤ line) (hq : ∀ c, c ∈ z.cps.toList → Q (sc (.str ⟨#[c]⟩))) : oQ (vIx ⟨.str z, g, s⟩ ⟨.int i, g', s'⟩) Q := by
  have hi : i.toNat < z.cps.toList.length := by rw [Array.length_toList]; show i.toNat < z.length; omega
  rw [vIx_str, if_pos hl]
  have : L2.atI z.cps.toList i = some z.cps.toList[i.toNat] := by
    unfold L2.atI
    rw [ixN_pos h0 (by rw [Array.length_toList]; exact h1)]
    exact List.getElem?_eq_getElem hi
  rw [this]
  exact hq _ (List.getElem_mem hi)
/-- a for by what holds ahead of the items that are left -/
theorem wFor_inv {i : Nat} {wb : WS} {Q : QF} (I : List D → Sv → Prop) (step : ∀ x xs σ (Q' : QF), I (x :: xs) σ → (∀ σ', I xs σ' → Q' (.nx σ')) → (∀ σ', I xs σ' → Q' (.ct σ')) → (∀ σ', Q (.nx σ') → Q' (.brk σ')) → (∀ d g, Q (.ret d g) → Q' (.ret d g)) → (∀ c d σ', Q (.exc c d σ') → Q' (.exc c d σ')) → wb (σ.set i (some (x, .fr))) Q')
    (fin : ∀ σ, I [] σ → Q (.nx σ)) : ∀ xs σ, I xs σ → wFor i wb xs σ Q
  | [], σ, h => fin σ h
  | x :: xs, σ, h => by
    unfold wFor
    exact step x xs σ _ h (fun σ' h' => wFor_inv I step fin xs σ' h') (fun σ' h' => wFor_inv I step fin xs σ' h') (fun σ' q => q) (fun d g q => q) (fun c d σ' q => q)
/-- a for whose turns only come and go: what holds ahead of the items that are left -/
theorem wFor_do {i : Nat} {wb : WS} {Q : QF} (I : List D → Sv → Prop) (step : ∀ x xs σ (Q' : QF), I (x :: xs) σ → (∀ σ', I xs σ' → Q' (.nx σ')) → (∀ σ', I xs σ' → Q' (.ct σ')) → wb (σ.set i (some (x, .fr))) Q')
    (fin : ∀ σ, I [] σ → Q (.nx σ)) (xs : List D) (σ : Sv) (h : I xs σ) : wFor i wb xs σ Q := wFor_inv I (fun x xs σ Q' h a b _ _ _ => step x xs σ Q' h a b) fin xs σ h
@[simp] theorem wFor_nil (i : Nat) (wb : WS) (σ : Sv) (Q : QF) : wFor i wb [] σ Q = Q (.nx σ) := rfl
/-- behind a turn -/
def turnF (i : Nat) (wb : WS) (xs : List D) (Q : QF) : QF
  | .nx σ' => wFor i wb xs σ' Q
  | .ct σ' => wFor i wb xs σ' Q
  | .brk σ' => Q (.nx σ')
  | f => Q f
@[simp] theorem turnF_nx (i : Nat) (wb : WS) (xs : List D) (Q : QF) (σ : Sv) : turnF i wb xs Q (.nx σ) = wFor i wb xs σ Q := rfl
@[simp] theorem turnF_ct (i : Nat) (wb : WS) (xs : List D) (Q : QF) (σ : Sv) : turnF i wb xs Q (.ct σ) = wFor i wb xs σ Q := rfl
@[simp] theorem turnF_brk (i : Nat) (wb : WS) (xs : List D) (Q : QF) (σ : Sv) : turnF i wb xs Q (.brk σ) = Q (.nx σ) := rfl
@[simp] theorem turnF_ret (i : Nat) (wb : WS) (xs : List D) (Q : QF) (d : D) (g : Fg) : turnF i wb xs Q (.ret d g) = Q (.ret d g) := rfl
@[simp] theorem turnF_exc (i : Nat) (wb : WS) (xs : List D) (Q : QF) (c : Nat) (d : D) (σ : Sv) : turnF i wb xs Q (.exc c d σ) = Q (.exc c d σ) := rfl
theorem wFor_cons (i : Nat) (wb : WS) (x : D) (xs : List D) (σ : Sv) (Q : QF) : wFor i wb (x :: xs) σ Q = wb (σ.set i (some (x, .fr))) (turnF i wb xs Q) := by
  rw [wFor]
  congr 1
/-- one turn; what comes behind it by a name -/
theorem wFor_turn {i : Nat} {wb : WS} {x : D} {xs : List D} {σ : Sv} {Q : QF} (h : ∀ T : QF, T = turnF i wb xs Q → wb (σ.set i (some (x, .fr))) T) : wFor i wb (x :: xs) σ Q := by
  rw [wFor_cons]
  exact h _ rfl
theorem rngD_len (i j : Int) : (rngD i j).length = (j - i).toNat := by unfold rngD; rw [List.length_map, List.length_range]
theorem rngD_nil {i j : Int} (b : j ≤ i) : rngD i j = [] := by
  unfold rngD
  rw [show (j - i).toNat = 0 by omega]
  rfl
theorem rngD_cons {i j : Int} (b : i < j) : rngD i j = .int i :: rngD (i + 1) j := by
  unfold rngD
  rw [show (j - i).toNat = (j - (i + 1)).toNat + 1 by omega, List.range_succ_eq_map, List.map_cons, List.map_map]
  refine congr (congrArg List.cons (by simp)) (List.map_congr_left fun x _ => ?_)
  show D.int _ = D.int _
  congr 1
  simp only [Nat.succ_eq_add_one]
  omega
theorem rngOk_of {i : Int} (h0 : -1000000000 ≤ i) (h1 : i ≤ 1000000000) : rngOk i = true := decide_eq_true ⟨h0, h1⟩
/-- a comprehension that draws: what holds of each new item -/
theorem wCo_all {wt : D → WB} {we : D → W1} (P : D → Prop) (dp : ∀ d, P d → isSc d = true) (ht : ∀ x Qb, Qb true → wt x Qb fun _ _ => False) : ∀ (xs acc : List D), (∀ x ∈ xs, ∀ Qv : QV, (∀ d, P d → Qv (sc d)) → we x Qv fun _ _ => False) → (∀ d ∈ acc, P d) → acc.length + xs.length ≤ line →
    (∀ ys, (∀ d ∈ ys, P d) → ys.length = acc.length + xs.length → Q (nw (.nd .lst ys) .dp)) → wCo wt we xs acc true Q
  | [], acc, _, ha, _, q => by
    unfold wCo
    exact q acc ha rfl
  | x :: xs, acc, he, ha, hl, q => by
    unfold wCo
    refine ht x _ (he x List.mem_cons_self _ fun d hd => ?_)
    rw [st1_sc (dp d hd)]
    simp only [List.length_cons] at hl
    refine ⟨by omega, wCo_all P dp ht xs (acc ++ [d]) (fun y hy => he y (List.mem_cons_of_mem _ hy)) (fun y hy => ?_) (by simp only [List.length_append, List.length_cons, List.length_nil]; omega) fun ys h1 h2 => q ys h1 (by simp at h2; simp; omega)⟩
    rcases List.mem_append.mp hy with z | z
    · exact ha y z
    · rw [List.mem_singleton.mp z]; exact hd
/-- a comprehension that draws nothing -/
theorem wCo_map {wt : D → WB} {we : D → W1} {α : Type} (e : α → D) (p : α → Bool) (f : α → Val) (c : Bool) :
    ∀ (xs : List α) (acc : List D) (b : Bool), (∀ x ∈ xs, ∀ Qb, Qb (p x) → wt (e x) Qb fun _ _ => False) → (∀ x ∈ xs, p x = true → ∀ Qv : QV, Qv (f x) → we (e x) Qv fun _ _ => False) → (∀ x ∈ xs, p x = true → st1 (f x) = some (c, [])) → acc.length + xs.length ≤ line → (acc ≠ [] → b = c) → (acc = [] → b = true) →
      Q (nw (.nd .lst (acc ++ ((xs.filter p).map fun x => (f x).d))) (bF (c || (acc.isEmpty && (xs.filter p).isEmpty)))) → wCo wt we (xs.map e) acc b Q
  | [], acc, b, _, _, _, hl, hb, hb2, q => by
    unfold wCo
    simp at q
    have : b = (c || acc.isEmpty) := by
      cases acc with
      | nil => rw [hb2 rfl]; simp
      | cons x l => rw [hb (by simp)]; simp
    rw [this]
    exact q
  | x :: xs, acc, b, ht, he, hs, hl, hb, hb2, q => by
    rw [List.map_cons]
    unfold wCo
    simp only [List.length_cons] at hl
    have ht' := fun y (hy : y ∈ xs) => ht y (List.mem_cons_of_mem _ hy)
    have he' := fun y (hy : y ∈ xs) => he y (List.mem_cons_of_mem _ hy)
    have hs' := fun y (hy : y ∈ xs) => hs y (List.mem_cons_of_mem _ hy)
    refine ht x List.mem_cons_self _ ?_
    cases hp : p x with
    | false =>
      refine wCo_map e p f c xs acc b ht' he' hs' (by omega) hb hb2 ?_
      rw [List.filter_cons_of_neg (by rw [hp]; exact Bool.false_ne_true)] at q
      exact q
    | true =>
      refine he x List.mem_cons_self hp _ ?_
      rw [hs x List.mem_cons_self hp]
      refine ⟨by omega, wCo_map e p f c xs (acc ++ [(f x).d]) (b && c) ht' he' hs' (by simp only [List.length_append, List.length_cons, List.length_nil]; omega) (fun _ => ?_) (fun z => by simp at z) ?_⟩
      · by_cases ha : acc = []
        · rw [hb2 ha]; rfl
        · rw [hb ha]; cases c <;> rfl
      · rw [List.filter_cons_of_pos hp] at q
        have e1 : (acc ++ [(f x).d]).isEmpty = false := by cases acc <;> rfl
        rw [e1]
        simp at q ⊢
        exact q
/-- .. from nothing, of plain values -/
theorem wCo_sc {wt : D → WB} {we : D → W1} {α : Type} (e : α → D) (p : α → Bool) (f : α → D) (xs : List α) (ht : ∀ x ∈ xs, ∀ Qb, Qb (p x) → wt (e x) Qb fun _ _ => False) (he : ∀ x ∈ xs, p x = true → ∀ Qv : QV, Qv (sc (f x)) → we (e x) Qv fun _ _ => False) (hs : ∀ x, isSc (f x) = true) (hl : xs.length ≤ line)
    (q : Q (nw (.nd .lst ((xs.filter p).map f)) .dp)) : wCo wt we (xs.map e) [] true Q :=
  wCo_map e p (fun x => sc (f x)) true xs [] true ht he (fun x _ _ => st1_sc (hs x)) (by simpa using hl) (fun z => (z rfl).elim) (fun _ => rfl) (by simpa using q)
end
end Vp
set_option maxRecDepth 100000
namespace Cf
open Mp
/-! 23 word_rows(text): 0 text 1 rows 2 number 3 line 4 words -/
def N_word_rows : List PySem.Str := [PySem.Str.ofString "text", PySem.Str.ofString "rows", PySem.Str.ofString "number", PySem.Str.ofString "line", PySem.Str.ofString "words"]
def b_word_rows_1 : Ss :=
  (.cons (.aug 2 .add (.cst (.int (1))))
   (.cons (.ite (.cmp .eq (.var 3) (.cst (.str (PySem.Str.ofString ""))))
    (.cons .cnt
     .nil)
    .nil)
   (.cons (.asg 4 (.mth .split (.var 3) (.cons (.cst (.str (PySem.Str.ofString " "))) .nil)))
   (.cons (.ite (.cmp .isin (.cst (.str (PySem.Str.ofString ""))) (.var 4))
    (.cons (.rse 14 (.var 2))
     .nil)
    .nil)
   (.cons (.exp (.mth .append (.var 1) (.cons (.tup (.cons (.var 2) (.cons (.var 4) .nil))) .nil)))
   .nil)))))
def b_word_rows : Ss :=
  (.cons (.asg 1 (.lst .nil))
   (.cons (.asg 2 (.cst (.int (0))))
   (.cons (.for 3 (.any (.mth .split (.var 0) (.cons (.cst (.str (PySem.Str.ofString "\n"))) .nil))) b_word_rows_1)
   (.cons (.ret (.var 1))
   .nil))))
def d_word_rows : FnD := ⟨1, 5, b_word_rows⟩
/-! 24 are_digits(text): 0 text 1 sign -/
def N_are_digits : List PySem.Str := [PySem.Str.ofString "text", PySem.Str.ofString "sign"]
def b_are_digits_1 : Ss :=
  (.cons (.ite (.cmp .nin (.var 1) (.glob 3))
    (.cons (.ret (.cst (.bl false)))
     .nil)
    .nil)
   .nil)
def b_are_digits : Ss :=
  (.cons (.ite (.or (.cmp .lt (.fn .len (.cons (.var 0) .nil)) (.cst (.int (1)))) (.cmp .gt (.fn .len (.cons (.var 0) .nil)) (.glob 4)))
    (.cons (.ret (.cst (.bl false)))
     .nil)
    .nil)
   (.cons (.for 1 (.any (.var 0)) b_are_digits_1)
   (.cons (.ret (.or (.cmp .eq (.var 0) (.cst (.str (PySem.Str.ofString "0")))) (.cmp .ne (.ix (.var 0) (.cst (.int (0)))) (.cst (.str (PySem.Str.ofString "0"))))))
   .nil)))
def d_are_digits : FnD := ⟨1, 2, b_are_digits⟩
/-! 25 read_number(word, least, most): 0 word 1 least 2 most 3 negative 4 digits 5 number -/
def N_read_number : List PySem.Str := [PySem.Str.ofString "word", PySem.Str.ofString "least", PySem.Str.ofString "most", PySem.Str.ofString "negative", PySem.Str.ofString "digits", PySem.Str.ofString "number"]
def b_read_number : Ss :=
  (.cons (.asg 3 (.mth .startswith (.var 0) (.cons (.cst (.str (PySem.Str.ofString "-"))) .nil)))
   (.cons (.asg 4 (.ite (.var 3) (.cut (.var 0) (.yes (.cst (.int (1)))) .no) (.var 0)))
   (.cons (.ite (.not (.call 24 (.cons (.var 4) .nil)))
    (.cons (.ret (.cst W.non))
     .nil)
    .nil)
   (.cons (.ite (.and (.var 3) (.cmp .eq (.var 4) (.cst (.str (PySem.Str.ofString "0")))))
    (.cons (.ret (.cst W.non))
     .nil)
    .nil)
   (.cons (.asg 5 (.ite (.var 3) (.neg (.fn .int (.cons (.var 4) .nil))) (.fn .int (.cons (.var 4) .nil))))
   (.cons (.ite (.or (.cmp .lt (.var 5) (.var 1)) (.cmp .gt (.var 5) (.var 2)))
    (.cons (.ret (.cst W.non))
     .nil)
    .nil)
   (.cons (.ret (.var 5))
   .nil)))))))
def d_read_number : FnD := ⟨3, 6, b_read_number⟩
/-! 26 _law_whole(store): 0 store 1 kind -/
def N_law_whole : List PySem.Str := [PySem.Str.ofString "store", PySem.Str.ofString "kind"]
def b_law_whole : Ss :=
  (.cons (.asg 1 (.call 5 (.cons (.var 0) (.cons (.cst (.int (9))) .nil))))
   (.cons (.ite (.cmp .lt (.var 1) (.cst (.int (5))))
    (.cons (.ret (.ix (.lst (.cons (.cst (.int (0))) (.cons (.neg (.cst (.int (1)))) (.cons (.cst (.int (1))) (.cons (.cst (.int (1000000))) (.cons (.neg (.cst (.int (1000000)))) .nil)))))) (.var 1)))
     .nil)
    .nil)
   (.cons (.ite (.cmp .eq (.var 1) (.cst (.int (5))))
    (.cons (.ret (.bin .sub (.call 5 (.cons (.var 0) (.cons (.cst (.int (2000001))) .nil))) (.cst (.int (1000000)))))
     .nil)
    .nil)
   (.cons (.ret (.bin .sub (.call 5 (.cons (.var 0) (.cons (.cst (.int (60))) .nil))) (.cst (.int (20)))))
   .nil))))
def d_law_whole : FnD := ⟨1, 2, b_law_whole⟩
/-! 27 _law_word(store): 0 store 1 signs 2 text 3 k -/
def N_law_word : List PySem.Str := [PySem.Str.ofString "store", PySem.Str.ofString "signs", PySem.Str.ofString "text", PySem.Str.ofString "k"]
def b_law_word_1 : Ss :=
  (.cons (.asg 2 (.bin .add (.var 2) (.ix (.var 1) (.call 5 (.cons (.var 0) (.cons (.cst (.int (93))) .nil))))))
   .nil)
def b_law_word : Ss :=
  (.cons (.asg 1 (.cst (.str (PySem.Str.ofString "!\"#$&'()*+,-./0123456789:;<=>?@ABCDEFGHIJKLMNOPQRSTUVWXYZ[\\]^_`"))))
   (.cons (.asg 1 (.bin .add (.var 1) (.cst (.str (PySem.Str.ofString "abcdefghijklmnopqrstuvwxyz{|}~")))))
   (.cons (.ite (.call 6 (.cons (.var 0) (.cons (.cst (.int (2))) .nil)))
    (.cons (.ret (.call 12 (.cons (.var 0) .nil)))
     .nil)
    .nil)
   (.cons (.asg 2 (.cst (.str (PySem.Str.ofString ""))))
   (.cons (.for 3 (.rng (.bin .add (.cst (.int (1))) (.call 5 (.cons (.var 0) (.cons (.cst (.int (8))) .nil))))) b_law_word_1)
   (.cons (.ret (.var 2))
   .nil))))))
def d_law_word : FnD := ⟨1, 4, b_law_word⟩
/-! 28 _law_numeral(store): 0 store 1 wrong 2 kind 3 value 4 text 5 at -/
def N_law_numeral : List PySem.Str := [PySem.Str.ofString "store", PySem.Str.ofString "wrong", PySem.Str.ofString "kind", PySem.Str.ofString "value", PySem.Str.ofString "text", PySem.Str.ofString "at"]
def b_law_numeral : Ss :=
  (.cons (.asg 1 (.lst (.cons (.cst (.str (PySem.Str.ofString ""))) (.cons (.cst (.str (PySem.Str.ofString "-"))) (.cons (.cst (.str (PySem.Str.ofString "-0"))) (.cons (.cst (.str (PySem.Str.ofString "+1"))) (.cons (.cst (.str (PySem.Str.ofString "01"))) (.cons (.cst (.str (PySem.Str.ofString "-01"))) (.cons (.cst (.str (PySem.Str.ofString "00"))) (.cons (.cst (.str (PySem.Str.ofString "1000000"))) (.cons (.cst (.str (PySem.Str.ofString "-1000000"))) (.cons (.cst (.str (PySem.Str.ofString "0999999"))) (.cons (.cst (.str (PySem.Str.ofString "--1"))) (.cons (.cst (.str (PySem.Str.ofString "1-"))) (.cons (.cst (.str (PySem.Str.ofString "1a"))) .nil)))))))))))))))
   (.cons (.asg 2 (.call 5 (.cons (.var 0) (.cons (.cst (.int (6))) .nil))))
   (.cons (.asg 3 (.call 26 (.cons (.var 0) .nil)))
   (.cons (.asg 3 (.fn .max (.cons (.neg (.cst (.int (999999)))) (.cons (.fn .min (.cons (.cst (.int (999999))) (.cons (.var 3) .nil))) .nil))))
   (.cons (.ite (.cmp .lt (.var 2) (.cst (.int (3))))
    (.cons (.ret (.fn .str (.cons (.var 3) .nil)))
     .nil)
    .nil)
   (.cons (.ite (.cmp .lt (.var 2) (.cst (.int (5))))
    (.cons (.ret (.ix (.var 1) (.call 5 (.cons (.var 0) (.cons (.cst (.int (13))) .nil)))))
     .nil)
    .nil)
   (.cons (.asg 4 (.fn .str (.cons (.var 3) .nil)))
   (.cons (.asg 5 (.call 5 (.cons (.var 0) (.cons (.bin .add (.fn .len (.cons (.var 4) .nil)) (.cst (.int (1)))) .nil))))
   (.cons (.ret (.bin .add (.bin .add (.cut (.var 4) .no (.yes (.var 5))) (.ix (.cst (.str (PySem.Str.ofString "0-+a.9"))) (.call 5 (.cons (.var 0) (.cons (.cst (.int (6))) .nil))))) (.cut (.var 4) (.yes (.var 5)) .no)))
   .nil)))))))))
def d_law_numeral : FnD := ⟨1, 6, b_law_numeral⟩
/-! 29 _law_read_numeral(word): 0 word 1 digits 2 value 3 sign -/
def N_law_read_numeral : List PySem.Str := [PySem.Str.ofString "word", PySem.Str.ofString "digits", PySem.Str.ofString "value", PySem.Str.ofString "sign"]
def b_law_read_numeral_1 : Ss :=
  (.cons (.ite (.cmp .nin (.var 3) (.cst (.str (PySem.Str.ofString "0123456789"))))
    (.cons (.ret (.lst .nil))
     .nil)
    .nil)
   (.cons (.asg 2 (.bin .add (.bin .mul (.var 2) (.cst (.int (10)))) (.mth .find (.cst (.str (PySem.Str.ofString "0123456789"))) (.cons (.var 3) .nil))))
   .nil))
def b_law_read_numeral : Ss :=
  (.cons (.asg 1 (.var 0))
   (.cons (.ite (.cmp .eq (.cut (.var 0) .no (.yes (.cst (.int (1))))) (.cst (.str (PySem.Str.ofString "-"))))
    (.cons (.asg 1 (.cut (.var 0) (.yes (.cst (.int (1)))) .no))
     .nil)
    .nil)
   (.cons (.ite (.or (.cmp .lt (.fn .len (.cons (.var 1) .nil)) (.cst (.int (1)))) (.cmp .gt (.fn .len (.cons (.var 1) .nil)) (.cst (.int (6)))))
    (.cons (.ret (.lst .nil))
     .nil)
    .nil)
   (.cons (.asg 2 (.cst (.int (0))))
   (.cons (.for 3 (.any (.var 1)) b_law_read_numeral_1)
   (.cons (.ite (.and (.cmp .gt (.fn .len (.cons (.var 1) .nil)) (.cst (.int (1)))) (.cmp .eq (.ix (.var 1) (.cst (.int (0)))) (.cst (.str (PySem.Str.ofString "0")))))
    (.cons (.ret (.lst .nil))
     .nil)
    .nil)
   (.cons (.ite (.cmp .ne (.cut (.var 0) .no (.yes (.cst (.int (1))))) (.cst (.str (PySem.Str.ofString "-"))))
    (.cons (.ret (.lst (.cons (.var 2) .nil)))
     .nil)
    .nil)
   (.cons (.ite (.cmp .eq (.var 2) (.cst (.int (0))))
    (.cons (.ret (.lst .nil))
     .nil)
    .nil)
   (.cons (.ret (.lst (.cons (.bin .sub (.cst (.int (0))) (.var 2)) .nil)))
   .nil)))))))))
def d_law_read_numeral : FnD := ⟨1, 4, b_law_read_numeral⟩
/-! 30 _law_spoil_line(store, piece): 0 store 1 piece 2 kind 3 words 4 at -/
def N_law_spoil_line : List PySem.Str := [PySem.Str.ofString "store", PySem.Str.ofString "piece", PySem.Str.ofString "kind", PySem.Str.ofString "words", PySem.Str.ofString "at"]
def b_law_spoil_line : Ss :=
  (.cons (.asg 2 (.call 5 (.cons (.var 0) (.cons (.cst (.int (4))) .nil))))
   (.cons (.ite (.cmp .eq (.var 2) (.cst (.int (0))))
    (.cons (.ret (.bin .add (.cst (.str (PySem.Str.ofString " "))) (.var 1)))
     .nil)
    .nil)
   (.cons (.ite (.cmp .eq (.var 2) (.cst (.int (1))))
    (.cons (.ret (.bin .add (.var 1) (.cst (.str (PySem.Str.ofString " ")))))
     .nil)
    .nil)
   (.cons (.ite (.cmp .eq (.var 2) (.cst (.int (2))))
    (.cons (.ret (.bin .mul (.cst (.str (PySem.Str.ofString " "))) (.bin .add (.cst (.int (1))) (.call 5 (.cons (.var 0) (.cons (.cst (.int (3))) .nil))))))
     .nil)
    .nil)
   (.cons (.asg 3 (.mth .split (.var 1) (.cons (.cst (.str (PySem.Str.ofString " "))) .nil)))
   (.cons (.ite (.cmp .lt (.fn .len (.cons (.var 3) .nil)) (.cst (.int (2))))
    (.cons (.ret (.bin .add (.bin .add (.var 1) (.cst (.str (PySem.Str.ofString "  ")))) (.var 1)))
     .nil)
    .nil)
   (.cons (.asg 4 (.bin .add (.cst (.int (1))) (.call 5 (.cons (.var 0) (.cons (.bin .sub (.fn .len (.cons (.var 3) .nil)) (.cst (.int (1)))) .nil)))))
   (.cons (.ret (.bin .add (.bin .add (.mth .join (.cst (.str (PySem.Str.ofString " "))) (.cons (.cut (.var 3) .no (.yes (.var 4))) .nil)) (.cst (.str (PySem.Str.ofString "  ")))) (.mth .join (.cst (.str (PySem.Str.ofString " "))) (.cons (.cut (.var 3) (.yes (.var 4)) .no) .nil))))
   .nil))))))))
def d_law_spoil_line : FnD := ⟨2, 5, b_law_spoil_line⟩
/-! 31 _law_bads(store, count): 0 store 1 count 2 bads 3 k -/
def N_law_bads : List PySem.Str := [PySem.Str.ofString "store", PySem.Str.ofString "count", PySem.Str.ofString "bads", PySem.Str.ofString "k"]
def b_law_bads_1 : Ss :=
  (.cons (.exp (.mth .append (.var 2) (.cons (.call 5 (.cons (.var 0) (.cons (.var 1) .nil))) .nil)))
   .nil)
def b_law_bads : Ss :=
  (.cons (.asg 2 (.lst .nil))
   (.cons (.ite (.cmp .gt (.var 1) (.cst (.int (0))))
    (.cons (.for 3 (.rng (.call 5 (.cons (.var 0) (.cons (.cst (.int (3))) .nil)))) b_law_bads_1)
     .nil)
    .nil)
   (.cons (.ret (.fn .sorted (.cons (.var 2) .nil)))
   .nil)))
def d_law_bads : FnD := ⟨2, 4, b_law_bads⟩
/-! 32 _law_built(store, count): 0 store 1 count 2 pieces 3 rows 4 fresh 5 bads 6 k 7 text 8 words 9 kind 10 j -/
def N_law_built : List PySem.Str := [PySem.Str.ofString "store", PySem.Str.ofString "count", PySem.Str.ofString "pieces", PySem.Str.ofString "rows", PySem.Str.ofString "fresh", PySem.Str.ofString "bads", PySem.Str.ofString "k", PySem.Str.ofString "text", PySem.Str.ofString "words", PySem.Str.ofString "kind", PySem.Str.ofString "j"]
def b_law_built_1 : Ss :=
  (.cons (.ite (.cmp .lt (.var 6) (.cst (.int (13))))
    (.cons (.asg 9 (.call 5 (.cons (.var 0) (.cons (.cst (.int (8))) .nil))))
     (.cons (.asc 8 (.comp 10 (.rng (.bin .add (.cst (.int (1))) (.call 5 (.cons (.var 0) (.cons (.cst (.int (6))) .nil))))) .no (.call 27 (.cons (.var 0) .nil))))
     (.cons (.ite (.cmp .eq (.var 9) (.cst (.int (0))))
      (.cons (.asg 8 (.lst (.cons (.cut (.bin .mul (.ix (.var 8) (.cst (.int (0)))) (.cst (.int (200)))) .no (.yes (.call 7 (.cons (.var 0) (.cons (.cst (.int (41))) (.cons (.cst (.int (200))) .nil)))))) .nil)))
       .nil)
      .nil)
     (.cons (.ite (.cmp .eq (.var 9) (.cst (.int (1))))
      (.cons (.asg 8 (.lst .nil))
       .nil)
      .nil)
     (.cons (.exp (.mth .append (.var 4) (.cons (.var 8) .nil)))
     .nil)))))
    .nil)
   (.cons (.asg 8 (.fn .list (.cons (.ix (.var 4) (.bin .mod (.fn .int (.cons (.var 6) .nil)) (.cst (.int (13))))) .nil)))
   (.cons (.ite (.cmp .isin (.var 6) (.var 5))
    (.cons (.exp (.mth .append (.var 2) (.cons (.call 30 (.cons (.var 0) (.cons (.mth .strip (.cut (.mth .join (.cst (.str (PySem.Str.ofString " "))) (.cons (.bin .add (.var 8) (.lst (.cons (.cst (.str (PySem.Str.ofString "a"))) .nil))) .nil)) .no (.yes (.cst (.int (50))))) .nil) .nil))) .nil)))
     .nil)
    (.cons (.exp (.mth .append (.var 2) (.cons (.mth .join (.cst (.str (PySem.Str.ofString " "))) (.cons (.var 8) .nil)) .nil)))
     (.cons (.ite (.cmp .gt (.fn .len (.cons (.var 8) .nil)) (.cst (.int (0))))
      (.cons (.exp (.mth .append (.var 3) (.cons (.tup (.cons (.bin .add (.var 6) (.cst (.int (1)))) (.cons (.var 8) .nil))) .nil)))
       .nil)
      .nil)
     .nil)))
   .nil)))
def b_law_built : Ss :=
  (.cons (.asg 2 (.lst .nil))
   (.cons (.asg 3 (.lst .nil))
   (.cons (.asg 4 (.lst .nil))
   (.cons (.asg 5 (.call 31 (.cons (.var 0) (.cons (.var 1) .nil))))
   (.cons (.for 6 (.rng (.var 1)) b_law_built_1)
   (.cons (.asg 7 (.bin .add (.mth .join (.cst (.str (PySem.Str.ofString "\n"))) (.cons (.var 2) .nil)) (.bin .mul (.cst (.str (PySem.Str.ofString "\n"))) (.call 5 (.cons (.var 0) (.cons (.cst (.int (3))) .nil))))))
   (.cons (.ite (.cmp .gt (.fn .len (.cons (.var 5) .nil)) (.cst (.int (0))))
    (.cons (.ret (.tup (.cons (.var 7) (.cons (.tup (.cons (.cst (.int (1))) (.cons (.cst (.str (PySem.Str.ofString "BadLine"))) (.cons (.bin .add (.ix (.var 5) (.cst (.int (0)))) (.cst (.int (1)))) .nil)))) .nil))))
     .nil)
    .nil)
   (.cons (.ret (.tup (.cons (.var 7) (.cons (.tup (.cons (.cst (.int (0))) (.cons (.var 3) .nil))) .nil))))
   .nil))))))))
def d_law_built : FnD := ⟨2, 11, b_law_built⟩
/-! 33 _law_read(text): 0 text 1 e -/
def N_law_read : List PySem.Str := [PySem.Str.ofString "text", PySem.Str.ofString "e"]
def b_law_read : Ss :=
  (.cons (.try
    (.cons (.ret (.tup (.cons (.cst (.int (0))) (.cons (.call 23 (.cons (.var 0) .nil)) .nil))))
     .nil) 0 1
    (.cons (.ret (.call 16 (.cons (.var 1) .nil)))
     .nil))
   .nil)
def d_law_read : FnD := ⟨1, 2, b_law_read⟩
/-! 34 _law_rows_right(text, due): 0 text 1 due 2 told 3 k 4 rows 5 words -/
def N_law_rows_right : List PySem.Str := [PySem.Str.ofString "text", PySem.Str.ofString "due", PySem.Str.ofString "told", PySem.Str.ofString "k", PySem.Str.ofString "rows", PySem.Str.ofString "words"]
def b_law_rows_right_1 : Ss :=
  (.cons (.asg 5 (.ix (.ix (.ix (.var 2) (.cst (.int (1)))) (.var 3)) (.cst (.int (1)))))
   (.cons (.exp (.mth .append (.var 5) (.cons (.cst (.str (PySem.Str.ofString "x"))) .nil)))
   .nil))
def b_law_rows_right : Ss :=
  (.cons (.asg 2 (.call 33 (.cons (.var 0) .nil)))
   (.cons (.ite (.not (.call 17 (.cons (.var 2) (.cons (.var 1) .nil))))
    (.cons (.ret (.cst (.bl false)))
     .nil)
    .nil)
   (.cons (.ite (.cmp .eq (.ix (.var 1) (.cst (.int (0)))) (.cst (.int (0))))
    (.cons (.for 3 (.rng (.fn .len (.cons (.ix (.var 2) (.cst (.int (1)))) .nil))) b_law_rows_right_1)
     (.cons (.asg 4 (.ix (.var 2) (.cst (.int (1)))))
     (.cons (.exp (.mth .append (.var 4) (.cons (.tup (.cons (.cst (.int (1))) (.cons (.lst (.cons (.cst (.str (PySem.Str.ofString "x"))) .nil)) .nil))) .nil)))
     .nil)))
    .nil)
   (.cons (.ret (.call 17 (.cons (.call 33 (.cons (.var 0) .nil)) (.cons (.var 1) .nil))))
   .nil))))
def d_law_rows_right : FnD := ⟨2, 6, b_law_rows_right⟩
/-! 35 _law_numerals(store): 0 store 1 value 2 plain 3 at 4 words 5 sign 6 k -/
def N_law_numerals : List PySem.Str := [PySem.Str.ofString "store", PySem.Str.ofString "value", PySem.Str.ofString "plain", PySem.Str.ofString "at", PySem.Str.ofString "words", PySem.Str.ofString "sign", PySem.Str.ofString "k"]
def b_law_numerals_1 : Ss :=
  (.cons (.exp (.mth .append (.var 4) (.cons (.call 28 (.cons (.var 0) .nil)) .nil)))
   .nil)
def b_law_numerals_2 : Ss :=
  (.cons (.exp (.mth .append (.var 4) (.cons (.bin .add (.bin .add (.cut (.var 2) .no (.yes (.var 3))) (.var 5)) (.cut (.var 2) (.yes (.var 3)) .no)) .nil)))
   .nil)
def b_law_numerals : Ss :=
  (.cons (.asg 1 (.call 5 (.cons (.var 0) (.cons (.ix (.lst (.cons (.cst (.int (10))) (.cons (.cst (.int (100))) (.cons (.cst (.int (1000))) (.cons (.cst (.int (10000))) (.cons (.cst (.int (100000))) (.cons (.cst (.int (1000000))) .nil))))))) (.call 5 (.cons (.var 0) (.cons (.cst (.int (6))) .nil)))) .nil))))
   (.cons (.ite (.call 6 (.cons (.var 0) (.cons (.cst (.int (4))) .nil)))
    (.cons (.asg 1 (.bin .sub (.cst (.int (999999))) (.var 1)))
     .nil)
    .nil)
   (.cons (.asg 2 (.fn .str (.cons (.var 1) .nil)))
   (.cons (.asg 3 (.call 5 (.cons (.var 0) (.cons (.bin .add (.fn .len (.cons (.var 2) .nil)) (.cst (.int (1)))) .nil))))
   (.cons (.asg 4 (.lst (.cons (.var 2) (.cons (.bin .add (.cst (.str (PySem.Str.ofString "-"))) (.var 2)) (.cons (.bin .add (.cst (.str (PySem.Str.ofString "+"))) (.var 2)) (.cons (.bin .add (.cst (.str (PySem.Str.ofString "0"))) (.var 2)) (.cons (.bin .add (.cst (.str (PySem.Str.ofString "-0"))) (.var 2)) (.cons (.bin .add (.cst (.str (PySem.Str.ofString "--"))) (.var 2)) (.cons (.bin .add (.var 2) (.cst (.str (PySem.Str.ofString "-")))) .nil)))))))))
   (.cons (.for 5 (.any (.lst (.cons (.cst (.str (PySem.Str.ofString "_"))) (.cons (.cst (.str (PySem.Str.ofString "9"))) (.cons (.cst (.str (PySem.Str.ofString "a"))) (.cons (.cst (.str (PySem.Str.ofString "."))) (.cons (.cst (.str (PySem.Str.ofString "-"))) (.cons (.cst (.str (PySem.Str.ofString "0"))) .nil)))))))) b_law_numerals_2)
   (.cons (.frz [4])
   (.cons (.asg 4 (.bin .add (.var 4) (.lst (.cons (.cst (.str (PySem.Str.ofString ""))) (.cons (.cst (.str (PySem.Str.ofString "-"))) (.cons (.cst (.str (PySem.Str.ofString "0"))) (.cons (.cst (.str (PySem.Str.ofString "-0"))) (.cons (.cst (.str (PySem.Str.ofString "00"))) (.cons (.cst (.str (PySem.Str.ofString "-1"))) (.cons (.cst (.str (PySem.Str.ofString "999999"))) (.cons (.cst (.str (PySem.Str.ofString "1000000"))) (.cons (.cst (.str (PySem.Str.ofString "-999999"))) (.cons (.cst (.str (PySem.Str.ofString "-1000000"))) (.cons (.cst (.str (PySem.Str.ofString "12345678"))) .nil))))))))))))))
   (.cons (.for 6 (.rng (.cst (.int (4)))) b_law_numerals_1)
   (.cons (.frz [4])
   (.cons (.ret (.bin .add (.var 4) (.lst (.cons (.call 27 (.cons (.var 0) .nil)) (.cons (.call 27 (.cons (.var 0) .nil)) .nil)))))
   .nil)))))))))))
def d_law_numerals : FnD := ⟨1, 7, b_law_numerals⟩
/-! 36 _law_number_right(word, low, high): 0 word 1 low 2 high 3 due 4 value -/
def N_law_number_right : List PySem.Str := [PySem.Str.ofString "word", PySem.Str.ofString "low", PySem.Str.ofString "high", PySem.Str.ofString "due", PySem.Str.ofString "value"]
def b_law_number_right : Ss :=
  (.cons (.asg 3 (.cst W.non))
   (.cons (.asg 4 (.call 29 (.cons (.var 0) .nil)))
   (.cons (.ite (.and (.cmp .gt (.fn .len (.cons (.var 4) .nil)) (.cst (.int (0)))) (.and (.cmp .le (.var 1) (.ix (.var 4) (.cst (.int (0))))) (.cmp .le (.ix (.var 4) (.cst (.int (0)))) (.var 2))))
    (.cons (.asg 3 (.ix (.var 4) (.cst (.int (0)))))
     .nil)
    .nil)
   (.cons (.ret (.call 10 (.cons (.call 25 (.cons (.var 0) (.cons (.var 1) (.cons (.var 2) .nil)))) (.cons (.var 3) .nil))))
   .nil))))
def d_law_number_right : FnD := ⟨3, 5, b_law_number_right⟩
/-! 37 _law_ends(store, word): 0 store 1 word 2 value 3 here 4 pairs 5 start -/
def N_law_ends : List PySem.Str := [PySem.Str.ofString "store", PySem.Str.ofString "word", PySem.Str.ofString "value", PySem.Str.ofString "here", PySem.Str.ofString "pairs", PySem.Str.ofString "start"]
def b_law_ends : Ss :=
  (.cons (.asg 2 (.call 29 (.cons (.var 1) .nil)))
   (.cons (.asg 3 (.cst (.int (0))))
   (.cons (.ite (.cmp .gt (.fn .len (.cons (.var 2) .nil)) (.cst (.int (0))))
    (.cons (.asg 3 (.ix (.var 2) (.cst (.int (0)))))
     .nil)
    .nil)
   (.cons (.asg 4 (.lst (.cons (.tup (.cons (.neg (.cst (.int (1000000)))) (.cons (.cst (.int (1000000))) .nil))) (.cons (.tup (.cons (.var 3) (.cons (.var 3) .nil))) (.cons (.tup (.cons (.bin .add (.var 3) (.cst (.int (1)))) (.cons (.cst (.int (1000000))) .nil))) (.cons (.tup (.cons (.neg (.cst (.int (1000000)))) (.cons (.bin .sub (.var 3) (.cst (.int (1)))) .nil))) (.cons (.tup (.cons (.bin .sub (.var 3) (.cst (.int (1)))) (.cons (.bin .add (.var 3) (.cst (.int (1)))) .nil))) .nil)))))))
   (.cons (.frz [4])
   (.cons (.asg 4 (.bin .add (.var 4) (.lst (.cons (.tup (.cons (.bin .add (.var 3) (.cst (.int (1)))) (.cons (.bin .sub (.var 3) (.cst (.int (1)))) .nil))) (.cons (.tup (.cons (.call 26 (.cons (.var 0) .nil)) (.cons (.call 26 (.cons (.var 0) .nil)) .nil))) .nil)))))
   (.cons (.asg 5 (.call 5 (.cons (.var 0) (.cons (.cst (.int (7))) .nil))))
   (.cons (.frz [4])
   (.cons (.ret (.cut (.bin .add (.var 4) (.var 4)) (.yes (.var 5)) (.yes (.bin .add (.var 5) (.cst (.int (3)))))))
   .nil)))))))))
def d_law_ends : FnD := ⟨2, 6, b_law_ends⟩
/-! 38 law(script): 0 script 1 store 2 count 3 kind 4 built 5 word 6 pair -/
def N_law_v1 : List PySem.Str := [PySem.Str.ofString "script", PySem.Str.ofString "store", PySem.Str.ofString "count", PySem.Str.ofString "kind", PySem.Str.ofString "built", PySem.Str.ofString "word", PySem.Str.ofString "pair"]
def b_law_v1_2 : Ss :=
  (.cons (.ite (.not (.call 36 (.cons (.var 5) (.cons (.ix (.var 6) (.cst (.int (0)))) (.cons (.ix (.var 6) (.cst (.int (1)))) .nil)))))
    (.cons (.ret (.cst (.bl false)))
     .nil)
    .nil)
   .nil)
def b_law_v1_1 : Ss :=
  (.cons (.for 6 (.any (.call 37 (.cons (.var 1) (.cons (.var 5) .nil)))) b_law_v1_2)
   .nil)
def b_law_v1 : Ss :=
  (.cons (.asg 1 (.call 3 (.cons (.var 0) .nil)))
   (.cons (.asg 2 (.call 7 (.cons (.var 1) (.cons (.cst (.int (0))) (.cons (.cst (.int (9))) .nil)))))
   (.cons (.asg 3 (.call 5 (.cons (.var 1) (.cons (.cst (.int (120))) .nil))))
   (.cons (.ite (.cmp .lt (.var 3) (.cst (.int (15))))
    (.cons (.asg 2 (.bin .add (.cst (.int (10))) (.call 5 (.cons (.var 1) (.cons (.cst (.int (50))) .nil)))))
     .nil)
    (.cons (.ite (.cmp .lt (.var 3) (.cst (.int (19))))
      (.cons (.asg 2 (.bin .add (.cst (.int (396))) (.call 5 (.cons (.var 1) (.cons (.cst (.int (3))) .nil)))))
       .nil)
      .nil)
     .nil))
   (.cons (.asg 4 (.call 32 (.cons (.var 1) (.cons (.var 2) .nil))))
   (.cons (.ite (.not (.call 34 (.cons (.ix (.var 4) (.cst (.int (0)))) (.cons (.ix (.var 4) (.cst (.int (1)))) .nil))))
    (.cons (.ret (.cst (.bl false)))
     .nil)
    .nil)
   (.cons (.for 5 (.any (.call 35 (.cons (.var 1) .nil))) b_law_v1_1)
   (.cons (.ret (.call 34 (.cons (.ix (.var 4) (.cst (.int (0)))) (.cons (.ix (.var 4) (.cst (.int (1)))) .nil))))
   .nil))))))))
def d_law_v1 : FnD := ⟨1, 7, b_law_v1⟩
end Cf
set_option Elab.async false
set_option linter.all false
set_option maxRecDepth 100000
set_option maxHeartbeats 400000
/-! V0: the prelude: draws, edges, names. -/
namespace Vp
open PySem Mp Cf
section
variable {Γ : Gam} {hot : Bool} {wf n : Nat} {K : Rz → Prop}
theorem hit_w [Fn Γ 6 d_law_hit] {w : Int} (h1 : 1 ≤ w) (h2 : w ≤ 4000000000) (q : ∀ b, K (.ok (.bl b) .fr)) : wCall Γ wf (n + 3) hot 6 [.sto, .int w] K := by
  refine wc ?_
  simp [d_law_hit, b_law_hit, startV, h1, h2, q]
theorem edge_w [Fn Γ 7 d_law_edge] {lo hi : Int} (h1 : lo ≤ hi) (h2 : hi - lo ≤ 3000000000) (q : ∀ i, lo ≤ i → i ≤ hi → K (.ok (.int i) .fr)) : wCall Γ wf (n + 3) hot 7 [.sto, .int lo, .int hi] K := by
  refine wc ?_
  simp [d_law_edge, b_law_edge, startV]
  intro v v0 v1
  by_cases c0 : v = 0
  · simp [c0]; exact q lo (by omega) h1
  by_cases c1 : v = 1
  · simp [c1]; exact q hi h1 (by omega)
  by_cases c2 : v = 2
  · simp [c2]; split <;> exact q _ (by omega) (by omega)
  by_cases c3 : v = 3
  · simp [c3]; split <;> exact q _ (by omega) (by omega)
  simp [c0, c1, c2, c3]
  exact ⟨by omega, by omega, fun u u0 u1 => q _ (by omega) (by omega)⟩
end
end Vp
set_option Elab.async false
set_option linter.all false
set_option maxRecDepth 100000
set_option maxHeartbeats 400000
/-! V1: same(x, x). -/
namespace Vp
open PySem Mp Cf
mutual
/-- data of lists, tuples, numbers, texts -/
def pl : D → Bool
  | .non => true | .bl _ => true | .int _ => true | .str _ => true
  | .nd .lst xs => plL xs
  | .nd .tup xs => plL xs
  | _ => false
def plL : List D → Bool
  | [] => true
  | x :: xs => pl x && plL xs
end
mutual
def sz : D → Nat
  | .nd _ xs => 1 + szL xs
  | _ => 1
def szL : List D → Nat
  | [] => 0
  | x :: xs => sz x + szL xs
end
theorem sz_pos : ∀ d, 1 ≤ sz d := fun d => by cases d <;> (unfold sz; omega)
theorem szL_app : ∀ xs ys, szL (xs ++ ys) = szL xs + szL ys
  | [], ys => by simp [szL]
  | x :: xs, ys => by simp [szL, szL_app xs ys]; omega
theorem len_szL : ∀ xs : List D, xs.length ≤ szL xs
  | [] => Nat.zero_le _
  | x :: xs => by have := sz_pos x; have := len_szL xs; simp [szL]; omega
theorem plL_iff : ∀ {xs : List D}, plL xs = true ↔ ∀ x ∈ xs, pl x = true
  | [] => by simp [plL]
  | x :: xs => by simp [plL, plL_iff (xs := xs)]
/-- a pair of the walk -/
abbrev pr (d : D) : D := .nd .tup [d, d]
theorem kit1 : L2.kitB "int" "bool" = some false ∧ L2.kitB "int" "int" = some true ∧ L2.kitB "bool" "bool" = some true ∧ L2.kitB "str" "str" = some true ∧ L2.kitB "str" "bool" = some false ∧ L2.kitB "str" "int" = some false ∧ L2.kitB "str" "list" = some false ∧ L2.kitB "str" "tuple" = some false ∧
    L2.kitB "int" "list" = some false ∧ L2.kitB "int" "tuple" = some false ∧ L2.kitB "bool" "list" = some false ∧ L2.kitB "bool" "tuple" = some false ∧ L2.kitB "NoneType" "list" = some false ∧ L2.kitB "NoneType" "tuple" = some false ∧
    L2.kitB "list" "list" = some true ∧ L2.kitB "list" "tuple" = some false ∧ L2.kitB "tuple" "list" = some false ∧ L2.kitB "tuple" "tuple" = some true ∧ L2.kitB "bool" "int" = some true := by decide +kernel
section
variable {Γ : Gam} {hot : Bool} {wf n : Nat} {K : Rz → Prop}
@[simp] theorem isi_int (i : Int) (b : String) : isiD Γ (.int i) (.ty b) = L2.kitB "int" b := rfl
@[simp] theorem isi_str (i : Str) (b : String) : isiD Γ (.str i) (.ty b) = L2.kitB "str" b := rfl
@[simp] theorem isi_bl (i : Bool) (b : String) : isiD Γ (.bl i) (.ty b) = L2.kitB "bool" b := rfl
@[simp] theorem isi_non (b : String) : isiD Γ .non (.ty b) = L2.kitB "NoneType" b := rfl
@[simp] theorem isi_lst (xs : List D) (b : String) : isiD Γ (.nd .lst xs) (.ty b) = L2.kitB "list" b := rfl
@[simp] theorem isi_tup (xs : List D) (b : String) : isiD Γ (.nd .tup xs) (.ty b) = L2.kitB "tuple" b := rfl
theorem flat_w [Fn Γ 9 d_law_same_flat] [Fn Γ 8 d_law_isnumber] {d : D} (hp : pl d = true) (hs : isSc d = true) (q : K (.ok (.bl true) .fr)) : wCall Γ wf (n + 2) hot 9 [d, d] K := by
  refine wc ?_
  cases d <;> first | (cases hp; done) | (cases hs; done) | skip
  · simp [d_law_same_flat, b_law_same_flat, startV, kit1, q]
  · simp [d_law_same_flat, b_law_same_flat, startV, kit1, q]
  · simp [d_law_same_flat, b_law_same_flat, startV, kit1]
    refine wc ?_
    simp [d_law_isnumber, b_law_isnumber, startV, kit1, q]
  · simp [d_law_same_flat, b_law_same_flat, startV, kit1, q]
theorem st1_pl {d : D} (h : pl d = true) : st1 (sc d) = some (isSc d, []) := by
  cases d with
  | nd k xs => cases k <;> first | rfl | cases h
  | _ => first | rfl | cases h
/-- the children are pushed -/
theorem push_w {k : Cl} {o4 : Sl} {t0 t1 t3 : Sl} (kd : Kd) (hk : kd = .lst ∨ kd = .tup) (xs : List D) (hx : ∀ x ∈ xs, pl x = true) (Q : QF) : ∀ (m : Nat) (j : Nat) (st : List D) (o7 : Sl), j + m = xs.length → st.length + m < 1000000 →
    (∀ o, Q (.nx [t0, t1, some (.nd .lst ((st ++ xs.drop j).map pr), .rt), t3, o4, some (.nd kd xs, .fr), some (.nd kd xs, .fr), o])) →
    wFor 7 (wSs Γ wf k hot b_law_same_2) (rngD j xs.length)
      [t0, t1, some (.nd .lst (st.map pr), .rt), t3, o4, some (.nd kd xs, .fr), some (.nd kd xs, .fr), o7] Q
  | 0, j, st, o7, e, _, q => by
    rw [rngD_nil (by omega), wFor_nil]
    have := q o7
    rw [List.drop_of_length_le (by omega), List.append_nil] at this
    exact this
  | m + 1, j, st, o7, e, hl, q => by
    have hj : j < xs.length := by omega
    have ej : xs[j]? = some xs[j] := List.getElem?_eq_getElem hj
    have hp := hx _ (List.getElem_mem hj)
    rw [rngD_cons (by omega)]
    refine wFor_turn fun T hT => ?_
    have ix : ∀ (s s' : Src) (g' : Fg), vIx ⟨.nd kd xs, .fr, s⟩ ⟨.int j, g', s'⟩ = some (sc xs[j]) := fun s s' g' => by rw [vIx_at hk (ixN_nat hj) ej, sub_fr]
    have hl2 : (st.map pr).length < 16777216 := by rw [List.length_map]; omega
    have rec_ := push_w (k := k) (o4 := o4) (t0 := t0) (t1 := t1) (t3 := t3) kd hk xs hx Q m (j + 1) (st ++ [xs[j]]) (some (.int j, .fr)) (by omega) (by simp; omega) (fun o => by
      have := q o
      rw [List.drop_eq_getElem_cons hj] at this
      simpa using this)
    rw [List.map_append] at rec_
    rw [show ((j + 1 : Nat) : Int) = (j : Int) + 1 by omega] at rec_
    cases hsc : isSc xs[j] with
    | true => simp [b_law_same_2, ix, st1_pl hp, hsc]; exact ⟨by omega, by rw [hT]; simpa using rec_⟩
    | false => simp [b_law_same_2, ix, st1_pl hp, hsc]; exact ⟨by omega, by rw [hT]; simpa using rec_⟩
/-- the turns, m nodes left -/
theorem same_go [Fn Γ 9 d_law_same_flat] [Fn Γ 8 d_law_isnumber] {t0 t1 : Sl} (r : Ss) : ∀ (m : Nat) (i : Int) (st : List D) (o3 o4 o5 o6 o7 : Sl), (∀ d ∈ st, pl d = true) → szL st = m → i + m < 200000 → 0 ≤ i → m < 900000 → K (.ok (.bl true) .fr) →
    wFor 3 (wSs Γ wf (wCall Γ wf (n + 2)) hot b_law_same_1) (rngD i 200000)
      [t0, t1, some (.nd .lst (st.map pr), .rt), o3, o4, o5, o6, o7] (sqF (wSs Γ wf (wCall Γ wf (n + 2)) hot r) (endV K)) := by
  intro m
  induction m using Nat.strongRecOn with
  | ind m ih =>
    intro i st o3 o4 o5 o6 o7 hp hm hi h0 hmm q
    rw [rngD_cons (by omega)]
    refine wFor_turn fun T hT => ?_
    rcases List.eq_nil_or_concat st with h | ⟨s', d, h⟩
    · subst h
      simp [b_law_same_1, hT, q]
    · rw [List.concat_eq_append] at h
      subst h
      have hd : pl d = true := hp d (by simp)
      have hs' : ∀ x ∈ s', pl x = true := fun x hx => hp x (List.mem_append_left _ hx)
      rw [szL_app] at hm
      have hd1 := sz_pos d
      have e1 : szL [d] = sz d := by simp [szL]
      have hne : ¬ ((s'.length : Int) + 1 = 0) := by omega
      rw [List.map_append]
      have next : ∀ (o3 o4 o5 o6 o7 : Sl) (st2 : List D), (∀ d ∈ st2, pl d = true) → szL st2 < m → _ := fun o3 o4 o5 o6 o7 st2 a b => ih (szL st2) b (i + 1) st2 o3 o4 o5 o6 o7 a rfl (by omega) (by omega) (by omega) q
      by_cases hsc : isSc d = true
      · have ge : ∀ K', K' (.ok (.bl true) .fr) → wCall Γ wf (n + 2) hot 9 [d, d] K' := fun K' z => flat_w hd hsc z
        have nn := next (some (.int i, .fr)) (some (pr d, .fr)) (some (d, .fr)) (some (d, .fr)) o7 s' hs' (by omega)
        have n6 : isiD Γ d (.ty "list") = some false ∧ isiD Γ d (.ty "tuple") = some false := by
          cases d <;> first | (cases hd; done) | (cases hsc; done) | simp [kit1]
        simp [b_law_same_1, hne, wPut_sc _ hsc, n6]
        refine ge _ ?_
        simp [hT]
        exact nn
      · cases d with
        | nd k xs =>
          have hk : k = .lst ∨ k = .tup := by cases k <;> first | exact .inl rfl | exact .inr rfl | cases hd
          have hx : ∀ x ∈ xs, pl x = true := by rcases hk with z | z <;> subst z <;> exact plL_iff.mp hd
          have es : sz (.nd k xs) = 1 + szL xs := by simp [sz]
          have nn := next (some (.int i, .fr)) (some (pr (.nd k xs), .fr)) (some (.nd k xs, .fr)) (some (.nd k xs, .fr))
          have lx := len_szL xs
          have ls := len_szL s'
          have lok : rngOk xs.length = true := rngOk_of (by omega) (by omega)
          rcases hk with z | z <;> subst z
          · simp [b_law_same_1, hne, kit1, lok]
            refine push_w .lst (.inl rfl) xs hx _ xs.length 0 s' o7 (by omega) (by omega) fun o => ?_
            simp [hT]
            have := nn o (s' ++ xs) (fun x hx' => (List.mem_append.mp hx').elim (hs' x) (hx x)) (by rw [szL_app]; omega)
            simpa using this
          · simp [b_law_same_1, hne, kit1, lok]
            refine push_w .tup (.inr rfl) xs hx _ xs.length 0 s' o7 (by omega) (by omega) fun o => ?_
            simp [hT]
            have := nn o (s' ++ xs) (fun x hx' => (List.mem_append.mp hx').elim (hs' x) (hx x)) (by rw [szL_app]; omega)
            simpa using this
        | _ => first | (exact (hsc rfl).elim) | (cases hd; done)
/-- same(x, x) -/
theorem same_w [Fn Γ 10 d_law_same] [Fn Γ 9 d_law_same_flat] [Fn Γ 8 d_law_isnumber] {d : D} (hp : pl d = true) (hs : sz d < 190000) (q : K (.ok (.bl true) .fr)) : wCall Γ wf (n + 3) hot 10 [d, d] K := by
  refine wc ?_
  have go : ∀ st : List D, (∀ d ∈ st, pl d = true) → szL st < 190000 → wFor 3 (wSs Γ wf (wCall Γ wf (n + 2)) hot b_law_same_1) (rngD 0 200000) [some (d, .fr), some (d, .fr), some (.nd .lst (st.map pr), .rt), none, none, none, none, none] (sqF (wSs Γ wf (wCall Γ wf (n + 2)) hot (.cons (.ret (.cst (.bl false))) .nil)) (endV K)) := by
    intro st h1 h2
    have a1 : (0 : Int) + (szL st : Nat) < 200000 := by omega
    have a2 : szL st < 900000 := by omega
    exact same_go _ (szL st) 0 st none none none none none h1 rfl a1 (Int.le_refl _) a2 q
  by_cases hsc : isSc d = true
  · simp [d_law_same, b_law_same, startV, st1_pl hp, hsc, show rngOk 200000 = true from rfl]
    rw [rngD_cons (by omega)]
    refine wFor_turn fun T hT => ?_
    have n6 : isiD Γ d (.ty "list") = some false ∧ isiD Γ d (.ty "tuple") = some false := by
      cases d <;> first | (cases hp; done) | (cases hsc; done) | simp [kit1]
    have pop : ∀ (σ : Sv) (Q : QF), kPop (some 4) σ Q ⟨.nd .lst [pr d], .dp, .p 2 []⟩ = _ := fun σ Q => kPop_some (σ := σ) (Q := Q) (g := .dp) [] (pr d) 2 4 []
    simp [b_law_same_1, pop, wPut_sc _ hsc, n6, hsc, sub_sc _ _ hsc]
    refine flat_w hp hsc ?_
    simp [hT]
    rw [rngD_cons (by omega)]
    refine wFor_turn fun T hT => ?_
    simp [b_law_same_1, hT, q]
  · simp [d_law_same, b_law_same, startV, st1_pl hp, hsc, show rngOk 200000 = true from rfl]
    exact go [d] (fun x hx => by rw [List.mem_singleton.mp hx]; exact hp) (by simp [szL]; omega)
end
end Vp
set_option Elab.async false
set_option linter.all false
set_option maxRecDepth 100000
set_option maxHeartbeats 400000
/-! T0: texts: splitting and joining by one sign. -/
namespace Vp
open PySem Mp
abbrev sgn (c : Nat) : Str := ⟨#[c]⟩
abbrev cs (z : Str) : List Nat := z.cps.toList
theorem cs_app (a b : Str) : cs (a ++ b) = cs a ++ cs b := by
  show (a ++ b).cps.toList = _
  rw [Str.cps_append, Array.toList_append]
theorem cs_len (a : Str) : a.length = (cs a).length := by show a.cps.size = _; rw [Array.length_toList]
theorem cs_ext {a b : Str} (h : cs a = cs b) : a = b := by
  cases a; cases b
  simp only [Str.mk.injEq]
  exact Array.toList_inj.mp h
theorem cs_empty : cs Str.empty = [] := rfl
/-- joined by c -/
def jl (c : Nat) : List (List Nat) → List Nat
  | [] => []
  | [p] => p
  | p :: q :: r => p ++ c :: jl c (q :: r)
theorem jl_cons (c : Nat) (p : List Nat) {r : List (List Nat)} (h : r ≠ []) : jl c (p :: r) = p ++ c :: jl c r := by
  cases r with
  | nil => exact (h rfl).elim
  | cons q r => rfl
theorem jl_app (c : Nat) : ∀ {ps qs : List (List Nat)}, ps ≠ [] → qs ≠ [] → jl c (ps ++ qs) = jl c ps ++ c :: jl c qs
  | [], qs, h, _ => (h rfl).elim
  | [p], qs, _, h => jl_cons c p h
  | p :: q :: r, qs, _, h => by
    show p ++ c :: jl c ((q :: r) ++ qs) = _
    rw [jl_app c (by simp) h]
    show _ = (p ++ c :: jl c (q :: r)) ++ c :: jl c qs
    simp
theorem cut_at {c : Nat} : ∀ {p q r s : List Nat}, c ∉ p → c ∉ q → p ++ c :: r = q ++ c :: s → p = q ∧ r = s
  | [], [], r, s, _, _, e => ⟨rfl, by simpa using e⟩
  | [], b :: q, r, s, _, hq, e => by simp at e; exact (hq (by rw [e.1]; exact List.mem_cons_self)).elim
  | a :: p, [], r, s, hp, _, e => by simp at e; exact (hp (by rw [e.1]; exact List.mem_cons_self)).elim
  | a :: p, b :: q, r, s, hp, hq, e => by
    simp at e
    obtain ⟨e1, e2⟩ := cut_at (fun z => hp (List.mem_cons_of_mem _ z)) (fun z => hq (List.mem_cons_of_mem _ z)) e.2
    exact ⟨by rw [e.1, e1], e2⟩
theorem jl_inj (c : Nat) : ∀ {ps qs : List (List Nat)}, ps ≠ [] → qs ≠ [] → (∀ p ∈ ps, c ∉ p) → (∀ q ∈ qs, c ∉ q) → jl c ps = jl c qs → ps = qs
  | [], _, h, _, _, _, _ => (h rfl).elim
  | _ :: _, [], _, h, _, _, _ => (h rfl).elim
  | [p], [q], _, _, _, _, e => by have : p = q := e; rw [this]
  | [p], q :: q2 :: r, _, _, hp, hq, e => by
    have e : p = q ++ c :: jl c (q2 :: r) := e
    exact (hp p List.mem_cons_self (by rw [e]; simp)).elim
  | p :: p2 :: r, [q], _, _, hp, hq, e => by
    have e : p ++ c :: jl c (p2 :: r) = q := e
    exact (hq q List.mem_cons_self (by rw [← e]; simp)).elim
  | p :: p2 :: r, q :: q2 :: s, _, _, hp, hq, e => by
    have e : p ++ c :: jl c (p2 :: r) = q ++ c :: jl c (q2 :: s) := e
    obtain ⟨e1, e2⟩ := cut_at (hp p List.mem_cons_self) (hq q List.mem_cons_self) e
    rw [e1, jl_inj c (by simp) (by simp) (fun x hx => hp x (List.mem_cons_of_mem _ hx)) (fun x hx => hq x (List.mem_cons_of_mem _ hx)) e2]
theorem cs_join (c : Nat) : ∀ ps : List Str, cs (Str.join (sgn c) ps) = jl c (ps.map cs)
  | [] => rfl
  | [p] => rfl
  | p :: q :: r => by
    show cs (p ++ sgn c ++ Str.join (sgn c) (q :: r)) = _
    rw [cs_app, cs_app, cs_join c (q :: r)]
    show cs p ++ [c] ++ jl c _ = cs p ++ c :: jl c _
    simp
theorem join_eq (z : Str) (ps : List Str) : Txt.join z ps = Str.join z ps := StrLaws.glued_eq_join z ps
theorem cs_tjoin (c : Nat) (ps : List Str) : cs (Txt.join (sgn c) ps) = jl c (ps.map cs) := by rw [join_eq, cs_join]
theorem map_cs_inj : ∀ {ps qs : List Str}, ps.map cs = qs.map cs → ps = qs
  | [], [], _ => rfl
  | [], _ :: _, e => by simp at e
  | _ :: _, [], e => by simp at e
  | p :: ps, q :: qs, e => by
    rw [List.map_cons, List.map_cons] at e
    injection e with e1 e2
    rw [cs_ext e1, map_cs_inj e2]
theorem split_ne (x : Str) (c : Nat) : Txt.split x (sgn c) ≠ [] := by
  unfold Txt.split
  split
  · simp
  · split
    · simp
    · rw [StrLaws.partsBetween_eq]
      obtain ⟨p, r, e⟩ := StrLaws.partsFrom_ne x (sgn c).length 0 (Builtin.Str.occurrences x (sgn c) 0 x.length (x.length + 1))
      rw [e]
      simp
/-- what is split was joined -/
theorem jl_split (x : Str) (c : Nat) : jl c ((Txt.split x (sgn c)).map cs) = cs x := by
  rw [← cs_join, StrLaws.join_split]
theorem split_of (x : Str) (c : Nat) {ps : List Str} (h : ps ≠ []) (hf : ∀ p ∈ ps, c ∉ cs p) (e : cs x = jl c (ps.map cs)) : Txt.split x (sgn c) = ps := by
  apply map_cs_inj
  refine jl_inj c (by simp [split_ne]) (by simp [h]) (fun p hp => ?_) (fun p hp => ?_) (by rw [jl_split, e])
  · obtain ⟨q, hq, rfl⟩ := List.mem_map.mp hp
    exact StrLaws.split_free x c q hq
  · obtain ⟨q, hq, rfl⟩ := List.mem_map.mp hp
    exact hf q hq
theorem split_join (c : Nat) {ps : List Str} (h : ps ≠ []) (hf : ∀ p ∈ ps, c ∉ cs p) : Txt.split (Txt.join (sgn c) ps) (sgn c) = ps := split_of _ c h hf (cs_tjoin c ps)
theorem split_free (x : Str) (c : Nat) {p : Str} (h : p ∈ Txt.split x (sgn c)) : c ∉ cs p := StrLaws.split_free x c p h
theorem mem_jl {c a : Nat} : ∀ {ps : List (List Nat)}, a ∈ jl c ps → a = c ∨ ∃ p ∈ ps, a ∈ p
  | [], h => by cases h
  | [p], h => .inr ⟨p, List.mem_cons_self, h⟩
  | p :: q :: r, h => by
    have h : a ∈ p ++ c :: jl c (q :: r) := h
    rcases List.mem_append.mp h with h | h
    · exact .inr ⟨p, List.mem_cons_self, h⟩
    · rcases List.mem_cons.mp h with h | h
      · exact .inl h
      · rcases mem_jl h with h | ⟨p', h1, h2⟩
        · exact .inl h
        · exact .inr ⟨p', List.mem_cons_of_mem _ h1, h2⟩
theorem jl_mem {c a : Nat} : ∀ {ps : List (List Nat)} {p : List Nat}, p ∈ ps → a ∈ p → a ∈ jl c ps
  | [], _, h, _ => by cases h
  | [q], p, h, ha => by rw [List.mem_singleton.mp h] at ha; exact ha
  | q :: q2 :: r, p, h, ha => by
    show a ∈ q ++ c :: jl c (q2 :: r)
    rcases List.mem_cons.mp h with h | h
    · rw [h] at ha; exact List.mem_append_left _ ha
    · exact List.mem_append_right _ (List.mem_cons_of_mem _ (jl_mem h ha))
theorem cs_rep (c : Nat) (n : Int) : cs (repS (sgn c) n) = List.replicate n.toNat c := by
  unfold repS
  split
  · rw [show n.toNat = 0 by omega]; rfl
  · split
    · rename_i h1 h2
      rcases Bool.or_eq_true_iff.mp h2 with q | q
      · rw [eq_of_beq q]; rfl
      · cases q
    · have key : ∀ (k : Nat) (a : Array Nat), ((List.replicate k (sgn c).cps).foldl (· ++ ·) a).toList = a.toList ++ List.replicate k c := by
        intro k
        induction k with
        | zero => intro a; simp
        | succ k ih => intro a; rw [List.replicate_succ, List.foldl_cons, ih]; simp [List.replicate_succ]
      show ((List.replicate n.toNat (sgn c).cps).foldl (· ++ ·) #[]).toList = _
      rw [key]
      rfl
theorem mem_rep {x : Str} {n : Int} {a : Nat} (h : a ∈ cs (repS x n)) : a ∈ cs x := by
  unfold repS at h
  split at h
  · cases h
  · split at h
    · exact h
    · have key : ∀ (k : Nat) (b : Array Nat), a ∈ ((List.replicate k x.cps).foldl (· ++ ·) b).toList → a ∈ b.toList ∨ a ∈ cs x := by
        intro k
        induction k with
        | zero => intro b h; exact .inl h
        | succ k ih =>
          intro b h
          rw [List.replicate_succ, List.foldl_cons] at h
          rcases ih _ h with h | h
          · rw [Array.toList_append] at h
            exact (List.mem_append.mp h).imp id id
          · exact .inr h
      rcases key _ _ h with h | h
      · cases h
      · exact h
theorem rep_len {x : Str} {n : Int} (h0 : 1 ≤ n) : (repS x n).length = x.length * n.toNat := by
  unfold repS
  rw [if_neg (by omega)]
  split
  · rename_i h2
    rcases Bool.or_eq_true_iff.mp h2 with q | q
    · rw [eq_of_beq q]; simp
    · have : x.length = 0 := eq_of_beq q
      rw [this]; simp
  · have key : ∀ (k : Nat) (a : Array Nat), ((List.replicate k x.cps).foldl (· ++ ·) a).size = a.size + x.cps.size * k := by
      intro k
      induction k with
      | zero => intro a; simp
      | succ k ih => intro a; rw [List.replicate_succ, List.foldl_cons, ih, Array.size_append, Nat.mul_succ]; omega
    show ((List.replicate n.toNat x.cps).foldl (· ++ ·) #[]).size = _
    rw [key]
    show 0 + _ = _
    rw [Nat.zero_add]
    rfl
theorem cs_cut (z : Str) (lo hi : Option Int) : cs (L2.cutS z lo hi) = (cs z |>.drop (HT.sIx z.length 0 lo)).take (HT.sIx z.length z.length hi - HT.sIx z.length 0 lo) := rfl
theorem mem_cut {z : Str} {lo hi : Option Int} {a : Nat} (h : a ∈ cs (L2.cutS z lo hi)) : a ∈ cs z := List.mem_of_mem_drop (List.mem_of_mem_take h)
theorem has_one (c : Nat) (z : Str) : hasS (sgn c) z = decide (c ∈ cs z) := StrLaws.found_one z c
end Vp
set_option Elab.async false
set_option linter.all false
set_option maxRecDepth 100000
set_option maxHeartbeats 1000000
/-! V2: names, words, numerals that are drawn. -/
namespace Vp
open PySem Mp Cf
def nice (a : Nat) : Prop := a ≠ 32 ∧ a ≠ 10
instance (a : Nat) : Decidable (nice a) := inferInstanceAs (Decidable (_ ∧ _))
def Tz (lo hi : Nat) (z : Str) : Prop := lo ≤ z.length ∧ z.length ≤ hi ∧ ∀ a ∈ cs z, nice a
theorem Tz.app1 {lo hi : Nat} {z : Str} {c : Nat} (t : Tz lo hi z) (hc : nice c) : Tz (lo + 1) (hi + 1) (z ++ sgn c) := by
  obtain ⟨a, b, k⟩ := t
  refine ⟨by rw [Str.length_append]; show _ ≤ _ + 1; omega, by rw [Str.length_append]; show _ + 1 ≤ _; omega, fun x hx => ?_⟩
  rw [cs_app] at hx
  rcases List.mem_append.mp hx with h | h
  · exact k x h
  · rw [List.mem_singleton.mp h]; exact hc
section
variable {Γ : Gam} {hot : Bool} {wf n : Nat} {K : Rz → Prop}
abbrev low36 : Str := PySem.Str.ofString "abcdefghijklmnopqrstuvwxyz0123456789"
theorem low36_len : low36.length = 36 := by decide +kernel
theorem low36_nice : ∀ c ∈ low36.cps.toList, nice c := by decide +kernel
/-- signs are put on, m turns left -/
theorem name_loop {t0 t2 t3 t4 : Sl} (Q : QF) : ∀ (m : Nat) (i j : Int) (z : Str) (o : Sl), j - i = m → Tz 1 (8 - m) z → m ≤ 7 → (∀ z o, Tz 1 8 z → Q (.nx [t0, some (.str low36, .fr), t2, t3, t4, some (.str z, .fr), o])) → t0 = some (.sto, .fr) →
    wFor 6 (wSs Γ wf (wCall Γ wf (n + 2)) hot b_law_name_1) (rngD i j) [t0, some (.str low36, .fr), t2, t3, t4, some (.str z, .fr), o] Q
  | 0, i, j, z, o, e, hz, _, q, _ => by rw [rngD_nil (by omega), wFor_nil]; exact q z o hz
  | m + 1, i, j, z, o, e, hz, hm, q, h0 => by
    subst h0
    rw [rngD_cons (by omega)]
    refine wFor_turn fun T hT => ?_
    simp [b_law_name_1]
    intro v v0 v1
    have L := low36_len
    refine ix_chr v0 (by rw [L]; exact v1) (by rw [L]; decide) fun c hc => ?_
    have := hz.2.1
    simp
    refine ⟨by show z.length + 1 ≤ _; omega, ?_⟩
    simp [hT]
    refine name_loop Q m (i + 1) j (z ++ sgn c) (some (.int i, .fr)) (by omega) ?_ (by omega) q rfl
    have h := hz.app1 (low36_nice c hc)
    exact ⟨by have := h.1; omega, by have := h.2.1; omega, h.2.2⟩
abbrev wordsN : List Str := [PySem.Str.ofString "room", PySem.Str.ofString "thing", PySem.Str.ofString "at", PySem.Str.ofString "way", PySem.Str.ofString "place", PySem.Str.ofString "arrow", PySem.Str.ofString "p10", PySem.Str.ofString "p2", PySem.Str.ofString "t0", PySem.Str.ofString "none"]
theorem wordsN_ok : ∀ z ∈ wordsN, Tz 1 8 z := by
  intro z hz
  simp only [wordsN, List.mem_cons, List.not_mem_nil, or_false] at hz
  rcases hz with h | h | h | h | h | h | h | h | h | h <;> subst h <;> exact ⟨by decide +kernel, by decide +kernel, by decide +kernel⟩
theorem name_w [Fn Γ 12 d_law_name] (q : ∀ z, Tz 1 8 z → K (.ok (.str z) .fr)) : wCall Γ wf (n + 3) hot 12 [.sto] K := by
  refine wc ?_
  have L := low36_len
  simp [d_law_name, b_law_name, startV]
  intro k k0 k1
  have body : ∀ (s : Int), 1 ≤ s → s ≤ 8 → ∀ v : Int, 0 ≤ v → v < 26 → ∀ (t2 t3 : Sl), oQ (vIx ⟨.str low36, .fr, .t []⟩ ⟨.int v, .fr, .t []⟩) (wPut 5 [some (.sto, .fr), some (.str low36, .fr), t2, t3, some (.int s, .fr), none, none] (sqF (wSs Γ wf (wCall Γ wf (n + 2)) hot (.cons (.for 6 (.rng (.bin .sub (.var 4) (.cst (.int (1))))) b_law_name_1) (.cons (.ret (.var 5)) .nil))) (endV K))) := by
    intro s s0 s1 v v0 v1 t2 t3
    refine ix_chr v0 (by rw [L]; omega) (by rw [L]; decide) fun c hc => ?_
    simp [rngOk_of (show -1000000000 ≤ s - 1 by omega) (by omega)]
    have h1 : Tz 1 1 (sgn c) := ⟨Nat.le_refl _, Nat.le_refl _, fun a ha => by rw [List.mem_singleton.mp ha]; exact low36_nice c hc⟩
    refine name_loop _ (s - 1).toNat 0 (s - 1) (sgn c) none (by omega) ⟨h1.1, by have := h1.2.1; omega, h1.2.2⟩ (by omega) (fun z o hz => ?_) rfl
    simp
    exact q z hz
  by_cases c0 : k = 0
  · simp [c0]
    intro v v0 v1
    refine ix_mem v0 v1 rfl fun x hx => ?_
    obtain ⟨z, hz, rfl⟩ : ∃ z ∈ wordsN, x = .str z := by
      have : x ∈ wordsN.map D.str := hx
      obtain ⟨z, hz, e⟩ := List.mem_map.mp this
      exact ⟨z, hz, e.symm⟩
    simp
    exact q z (wordsN_ok z hz)
  · simp [c0]
    intro u u0 u1
    by_cases c1 : k = 1
    · simp [c1]
      exact fun v v0 v1 => body 8 (by decide) (by decide) v v0 v1 _ _
    · by_cases c2 : k = 2
      · simp [c2]
        exact fun v v0 v1 => body 1 (by decide) (by decide) v v0 v1 _ _
      · simp [c1, c2]
        exact fun v v0 v1 => body (1 + u) (by omega) (by omega) v v0 v1 _ _
theorem whole_w [Fn Γ 26 d_law_whole] (q : ∀ i, -1000000 ≤ i → i ≤ 1000000 → K (.ok (.int i) .fr)) : wCall Γ wf (n + 3) hot 26 [.sto] K := by
  refine wc ?_
  simp [d_law_whole, b_law_whole, startV]
  intro k k0 k1
  by_cases c5 : k < 5
  · simp [c5]
    refine ix_mem k0 c5 rfl fun x hx => ?_
    simp only [List.mem_cons, List.not_mem_nil, or_false] at hx
    rcases hx with h | h | h | h | h <;> subst h <;> simp <;> exact q _ (by decide) (by decide)
  · by_cases c6 : k = 5
    · simp [c5, c6]
      exact fun v v0 v1 => q _ (by omega) (by omega)
    · simp [c5, c6]
      exact fun v v0 v1 => q _ (by omega) (by omega)
abbrev sgA : Str := PySem.Str.ofString "!\"#$&'()*+,-./0123456789:;<=>?@ABCDEFGHIJKLMNOPQRSTUVWXYZ[\\]^_`"
abbrev sgB : Str := PySem.Str.ofString "abcdefghijklmnopqrstuvwxyz{|}~"
theorem sgAB_len : (sgA ++ sgB).length = 93 := by decide +kernel
theorem sgAB_nice : ∀ c ∈ (sgA ++ sgB).cps.toList, nice c := by decide +kernel
theorem word_loop {t0 : Sl} (Q : QF) : ∀ (m : Nat) (i j : Int) (z : Str) (o : Sl), j - i = m → Tz (if m = 0 then 1 else 0) (8 - m) z → m ≤ 8 → (∀ z o, Tz 1 8 z → Q (.nx [t0, some (.str (sgA ++ sgB), .fr), some (.str z, .fr), o])) → t0 = some (.sto, .fr) →
    wFor 3 (wSs Γ wf (wCall Γ wf (n + 2)) hot b_law_word_1) (rngD i j) [t0, some (.str (sgA ++ sgB), .fr), some (.str z, .fr), o] Q
  | 0, i, j, z, o, e, hz, _, q, _ => by rw [rngD_nil (by omega), wFor_nil]; exact q z o hz
  | m + 1, i, j, z, o, e, hz, hm, q, h0 => by
    subst h0
    rw [rngD_cons (by omega)]
    refine wFor_turn fun T hT => ?_
    simp [b_law_word_1]
    intro v v0 v1
    have L := sgAB_len
    refine ix_chr v0 (by rw [L]; exact v1) (by rw [L]; decide) fun c hc => ?_
    have := hz.2.1
    simp
    refine ⟨by show z.length + 1 ≤ _; omega, ?_⟩
    simp [hT]
    refine word_loop Q m (i + 1) j (z ++ sgn c) (some (.int i, .fr)) (by omega) ?_ (by omega) q rfl
    have h := hz.app1 (sgAB_nice c hc)
    exact ⟨by have := h.1; split <;> omega, by have := h.2.1; omega, h.2.2⟩
theorem word_w [Fn Γ 27 d_law_word] [Fn Γ 6 d_law_hit] [Fn Γ 12 d_law_name] (q : ∀ z, Tz 1 8 z → K (.ok (.str z) .fr)) : wCall Γ wf (n + 4) hot 27 [.sto] K := by
  refine wc ?_
  simp [d_law_word, b_law_word, startV]
  refine ⟨by decide +kernel, hit_w (by decide) (by decide) fun b => ?_⟩
  cases b with
  | true =>
    simp
    refine name_w fun z hz => ?_
    simp
    exact q z hz
  | false =>
    simp
    intro v v0 v1
    refine ⟨rngOk_of (by omega) (by omega), word_loop _ (1 + v).toNat 0 (1 + v) _ none (by omega) ⟨by split <;> first | omega | exact Nat.zero_le _, Nat.zero_le _, fun a ha => by cases ha⟩ (by omega) (fun z o hz => ?_) rfl⟩
    simp
    exact q z hz
end
end Vp
set_option Elab.async false
set_option linter.all false
set_option maxRecDepth 100000
set_option maxHeartbeats 1000000
/-! V3: an error's kinds; meets. -/
namespace Vp
open PySem Mp Cf
/-- the exceptions' classes -/
class Ex (Γ : Gam) : Prop where
  hc : ∀ d, d < 23 → Γ.hc d = true
  exc : ∀ d, d < 23 → Γ.exc d = true
  sub : ∀ c d, c < 23 → d < 23 → Γ.sub c d = (c == d || d == 0)
  ty : ∀ c, c < 23 → Γ.subT c "ValueError" = true
  tys : "ValueError" ∈ Γ.tys
abbrev nmS : List Str := ["BadName", "BadRooms", "BadNumber", "Double", "TooMany", "NoPlace", "NoArrow", "NoThing", "NoPrice", "NoRing", "Loop", "BadWay", "NoRoom", "BadLine", "NotPossible", "NotBarred", "NotClean", "SearchFull", "BadPlan", "Busy", "BadEvent", "WrongNet", "no ValueError"].map PySem.Str.ofString
def flgS (c : Nat) : List Bool := [c == 1, c == 2, c == 3, c == 4, c == 5, c == 6, c == 7, c == 8, c == 9, c == 10, c == 11, c == 12, c == 13, c == 14, c == 15, c == 16, c == 17, c == 18, c == 19, c == 20, c == 21, c == 22, false]
/-- the name of the class c -/
def nmc (c : Nat) : Str := nmS.getD (c - 1) Str.empty
section
variable {Γ : Gam} {hot : Bool} {wf n : Nat} {K : Rz → Prop}
theorem isi_exc [E : Ex Γ] {c k : Nat} {d : D} (hc : c < 23) (hk : k + 1 < 23) : isiD Γ (.exc c d) (.cls (k + 1)) = some (c == k + 1) := by
  unfold isiD
  dsimp only [tyD, clsD]
  rw [if_pos ⟨E.hc c hc, E.exc c hc⟩, if_pos (E.hc _ hk), E.sub c _ hc hk]
  simp
theorem isi_ve [E : Ex Γ] {c : Nat} {d : D} (hc : c < 23) : isiD Γ (.exc c d) (.ty "ValueError") = some true := by
  unfold isiD
  dsimp only [tyD, clsD]
  rw [if_pos ⟨E.hc c hc, E.exc c hc⟩, if_pos E.tys, E.ty c hc]
theorem sorts_kinds : ∀ c, 1 ≤ c → c < 23 → (((List.range 23).filter fun k => (flgS c).getD k false).map fun k => nmS.getD k Str.empty) = [nmc c] := by
  intro c h1 h2
  have : ∀ c, c < 23 → (1 ≤ c → (((List.range 23).filter fun k => (flgS c).getD k false).map fun k => nmS.getD k Str.empty) = [nmc c]) := by decide +kernel
  exact this c h2 h1
theorem rng_map (m : Nat) : rngD 0 (m : Int) = (List.range m).map fun (k : Nat) => D.int k := by
  unfold rngD
  rw [show ((m : Int) - 0).toNat = m by omega]
  refine List.map_congr_left fun k _ => ?_
  rw [Int.zero_add]
theorem isNon_exc (c : Nat) (d : D) : isNon (.exc c d) = some false := rfl
theorem kinds_w [E : Ex Γ] [Fn Γ 15 d_law_kinds] {c : Nat} {d : D} (h1 : 1 ≤ c) (h2 : c < 23) (q : K (.ok (.lst [.str (nmc c)]) .dp)) : wCall Γ wf (n + 1) hot 15 [.exc c d] K := by
  refine wc ?_
  have i := fun k hk => isi_exc (Γ := Γ) (d := d) (k := k) h2 hk
  have i0 := isi_ve (Γ := Γ) (d := d) h2
  have i1 := i 0 (by decide); have i2 := i 1 (by decide); have i3 := i 2 (by decide); have i4 := i 3 (by decide); have i5 := i 4 (by decide); have i6 := i 5 (by decide)
  have i7 := i 6 (by decide); have i8 := i 7 (by decide); have i9 := i 8 (by decide); have i10 := i 9 (by decide); have i11 := i 10 (by decide); have i12 := i 11 (by decide)
  have i13 := i 12 (by decide); have i14 := i 13 (by decide); have i15 := i 14 (by decide); have i16 := i 15 (by decide); have i17 := i 16 (by decide); have i18 := i 17 (by decide)
  have i19 := i 18 (by decide); have i20 := i 19 (by decide); have i21 := i 20 (by decide); have i22 := i 21 (by decide)
  simp only [Nat.zero_add, Nat.reduceAdd] at i1 i2 i3 i4 i5 i6 i7 i8 i9 i10 i11 i12 i13 i14 i15 i16 i17 i18 i19 i20 i21 i22
  simp [d_law_kinds, b_law_kinds, startV, i0, i1, i2, i3, i4, i5, i6, i7, i8, i9, i10, i11, i12, i13, i14, i15, i16, i17, i18, i19, i20, i21, i22]
  refine ⟨rfl, ?_⟩
  rw [show (23 : Int) = ((23 : Nat) : Int) from rfl, rng_map]
  have gf : ∀ k, k < 23 → ([D.bl (c == 1), .bl (c == 2), .bl (c == 3), .bl (c == 4), .bl (c == 5), .bl (c == 6), .bl (c == 7), .bl (c == 8), .bl (c == 9), .bl (c == 10), .bl (c == 11), .bl (c == 12), .bl (c == 13), .bl (c == 14), .bl (c == 15), .bl (c == 16), .bl (c == 17), .bl (c == 18), .bl (c == 19), .bl (c == 20), .bl (c == 21), .bl (c == 22), .bl false] : List D)[k]? = some (.bl ((flgS c).getD k false)) := fun k hk => by
    show ((flgS c).map D.bl)[k]? = _
    rw [List.getElem?_map, List.getD_eq_getElem?_getD, List.getElem?_eq_getElem (show k < (flgS c).length from hk)]
    rfl
  have gn : ∀ k, k < 23 → (nmS.map D.str)[k]? = some (.str (nmS.getD k Str.empty)) := fun k hk => by
    rw [List.getElem?_map, List.getD_eq_getElem?_getD, List.getElem?_eq_getElem (show k < nmS.length from hk)]
    rfl
  refine wCo_sc (fun (k : Nat) => D.int k) (fun k => (flgS c).getD k false) (fun k => .str (nmS.getD k Str.empty)) (List.range 23) (fun k hk Qb qb => ?_) (fun k hk _ Qv qv => ?_) (fun _ => rfl) (by decide) ?_
  · have hk := List.mem_range.mp hk
    have := vIx_at (g := .dp) (s := .p 2 []) (g' := .fr) (s' := .t []) (.inl rfl) (ixN_nat hk) (gf k hk)
    simp at this
    simp [this]
    simpa using qb
  · have hk := List.mem_range.mp hk
    have := vIx_at (kd := .lst) (g := .dp) (s := .p 1 []) (g' := .fr) (s' := .t []) (.inl rfl) (ixN_nat (by rw [List.length_map]; exact hk)) (gn k hk)
    simp at this
    simp [this]
    exact qv
  · have e : ((List.range 23).filter fun k => (flgS c).getD k false).map (fun k => D.str (nmS.getD k Str.empty)) = [D.str (nmc c)] := by
      have := congrArg (List.map D.str) (sorts_kinds c h1 h2)
      rw [List.map_map] at this
      exact this
    rw [e]
    exact q
theorem error_w [E : Ex Γ] [Fn Γ 15 d_law_kinds] [Fn Γ 16 d_law_error] {c : Nat} {d : D} (h1 : 1 ≤ c) (h2 : c < 23) (hd : isSc d = true) (q : K (.ok (.tup [.int 1, .lst [.str (nmc c)], d]) .dp)) : wCall Γ wf (n + 2) hot 16 [.exc c d] K := by
  refine wc ?_
  simp [d_law_error, b_law_error, startV]
  refine kinds_w h1 h2 ?_
  simp [E.hc c h2, E.exc c h2, hd, st1_sc hd, q]
theorem eqD_refl {d : D} {p : PyData} (e : toPy 12 d = some p) (h1 : SeqAt.shaped p = true) (h3 : eqSc d d = none) : eqD d d = some true := by
  unfold eqD
  rw [h3, e]
  dsimp only
  rw [h1]
  show some (PyData.eqv p p) = some true
  rw [SeqAt.eqv_refl p (SeqAt.canLay_of_shaped h1)]
theorem shaped_strs {l : List Str} (h : ∀ z ∈ l, PyData.strOk z = true) : SeqAt.shaped (.list (l.map .str)) = true := by
  have a : ∀ l : List Str, (∀ z ∈ l, PyData.strOk z = true) → PyData.canLayAll0 (l.map .str) = true ∧ PyData.depthAll (l.map .str) ≤ 1 := by
    intro l
    induction l with
    | nil => intro _; simp [PyData.canLayAll0, PyData.depthAll]
    | cons z l ih =>
      intro h
      obtain ⟨a, b⟩ := ih fun x hx => h x (List.mem_cons_of_mem _ hx)
      simp [PyData.canLayAll0, PyData.depthAll, PyData.canLay0, PyData.depth, h z List.mem_cons_self, a]
      omega
  obtain ⟨b, c⟩ := a l h
  unfold SeqAt.shaped
  simp [PyData.canLay0, PyData.depth, b]
  omega
theorem toPy_strs (n : Nat) (l : List Str) : toPy (n + 2) (.nd .lst (l.map D.str)) = some (.list (l.map .str)) := by
  show ((l.map D.str).mapM (toPy (n + 1))).map PyData.list = _
  have : ∀ l : List Str, (l.map D.str).mapM (toPy (n + 1)) = some (l.map PyData.str) := by
    intro l
    induction l with
    | nil => rfl
    | cons z l ih => rw [List.map_cons, List.mapM_cons, ih]; rfl
  rw [this]
  rfl
theorem meets0_w [Fn Γ 17 d_law_meets] [Fn Γ 10 d_law_same] [Fn Γ 9 d_law_same_flat] [Fn Γ 8 d_law_isnumber] {x : D} (hp : pl x = true) (hs : sz x < 190000) (q : K (.ok (.bl true) .fr)) : wCall Γ wf (n + 4) hot 17 [.tup [.int 0, x], .tup [.int 0, x]] K := by
  refine wc ?_
  simp [d_law_meets, b_law_meets, startV]
  exact same_w hp hs (by simpa using q)
theorem meets1_w [Fn Γ 17 d_law_meets] [Fn Γ 10 d_law_same] [Fn Γ 9 d_law_same_flat] [Fn Γ 8 d_law_isnumber] {x : D} {z : Str} (hz : PyData.strOk z = true) (hp : pl x = true) (hs : isSc x = true) (q : K (.ok (.bl true) .fr)) : wCall Γ wf (n + 4) hot 17 [.tup [.int 1, .lst [.str z], x], .tup [.int 1, .str z, x]] K := by
  refine wc ?_
  have e : eqD (.nd .lst [.str z]) (.nd .lst [.str z]) = some true := eqD_refl (toPy_strs 10 [z]) (shaped_strs (l := [z]) fun y hy => by rw [List.mem_singleton.mp hy]; exact hz) rfl
  simp [d_law_meets, b_law_meets, startV, e]
  exact same_w hp (by cases x <;> first | (cases hs; done) | (simp [sz])) (by simpa using q)
end
end Vp
set_option Elab.async false
set_option linter.all false
set_option maxRecDepth 100000
set_option maxHeartbeats 1000000
/-! V4: lines of words; numbers. -/
namespace Vp
open PySem Mp Cf
abbrev rowD (r : Nat × List Str) : D := .tup [.int r.1, .lst (r.2.map .str)]
/-- the rows of lines, the first of them with number k + 1 -/
def wr : Nat → List Str → Except Nat (List (Nat × List Str))
  | _, [] => .ok []
  | k, l :: ls => if l = Str.empty then wr (k + 1) ls else if Str.empty ∈ Txt.split l (sgn 32) then .error (k + 1) else match wr (k + 1) ls with
    | .ok rs => .ok ((k + 1, Txt.split l (sgn 32)) :: rs)
    | .error e => .error e
theorem len_jl {c : Nat} : ∀ {ps : List (List Nat)} {p : List Nat}, p ∈ ps → p.length ≤ (jl c ps).length
  | [], _, h => by cases h
  | [q], p, h => by rw [List.mem_singleton.mp h]; exact Nat.le_refl _
  | q :: q2 :: r, p, h => by
    show p.length ≤ (q ++ c :: jl c (q2 :: r)).length
    rw [List.length_append, List.length_cons]
    rcases List.mem_cons.mp h with h | h
    · rw [h]; omega
    · have := len_jl (c := c) h; omega
theorem split_part_len {x l : Str} {c : Nat} (h : l ∈ Txt.split x (sgn c)) : l.length ≤ x.length := by
  rw [cs_len, cs_len, ← jl_split x c]
  exact len_jl (List.mem_map.mpr ⟨l, h, rfl⟩)
theorem split_len' (z b : Str) : (Txt.split z b).length ≤ z.length + 2 := by
  unfold Txt.split
  split
  · simp
  · split
    · simp
    · rw [PyProof.Rows.len_partsBetween]
      have := PySem.StrLaws.occ_length_le z b 0 z.length (z.length + 1)
      omega
theorem ofS_blank : PySem.Str.ofString " " = sgn 32 := by decide +kernel
theorem ofS_nl : PySem.Str.ofString "\n" = sgn 10 := by decide +kernel
theorem ofS_empty : PySem.Str.ofString "" = Str.empty := by decide +kernel
section
variable {Γ : Gam} {hot : Bool} {wf n : Nat} {K : Rz → Prop}
def wrK (K : Rz → Prop) (acc : List (Nat × List Str)) : Except Nat (List (Nat × List Str)) → Prop
  | .ok rs => K (.ok (.lst ((acc ++ rs).map rowD)) .dp)
  | .error e => K (.exc 14 (.int e))
theorem word_rows_go {t0 : Sl} {kk : Cl} : ∀ (ls : List Str) (k : Nat) (acc : List (Nat × List Str)) (o3 o4 : Sl), (∀ l ∈ ls, l.length ≤ 10000000) → acc.length + ls.length ≤ 10000000 → wrK K acc (wr k ls) →
    wFor 3 (wSs Γ wf kk hot b_word_rows_1) (ls.map D.str) [t0, some (.nd .lst (acc.map rowD), .dp), some (.int k, .fr), o3, o4] (sqF (wSs Γ wf kk hot (.cons (.ret (.var 1)) .nil)) (endV K))
  | [], k, acc, o3, o4, _, _, q => by
    simp [wr, wrK] at q
    simp [q]
  | l :: ls, k, acc, o3, o4, hl, ha, q => by
    have hl0 := hl l List.mem_cons_self
    have rec_ := fun acc' o3 o4 => word_rows_go (t0 := t0) (kk := kk) ls (k + 1) acc' o3 o4 (fun x hx => hl x (List.mem_cons_of_mem _ hx))
    simp only [List.length_cons] at ha
    rw [List.map_cons]
    refine wFor_turn fun T hT => ?_
    unfold wr at q
    by_cases h0 : l = Str.empty
    · rw [if_pos h0] at q
      simp [b_word_rows_1, ofS_empty, h0]
      simp [hT]
      have := rec_ acc (some (.str l, .fr)) o4 (by omega) q
      rw [h0] at this
      simpa using this
    · rw [if_neg h0] at q
      have hb : ((sgn 32).length == 0) = false := rfl
      by_cases hc : Str.empty ∈ Txt.split l (sgn 32)
      · rw [if_pos hc] at q
        simp [b_word_rows_1, ofS_empty, ofS_blank, h0, hc]
        refine ⟨⟨by decide, by omega⟩, ?_⟩
        simpa [hT, wrK] using q
      · rw [if_neg hc] at q
        simp [b_word_rows_1, ofS_empty, ofS_blank, h0, hc]
        refine ⟨⟨by decide, by omega⟩, by omega, ?_⟩
        have := rec_ (acc ++ [(k + 1, Txt.split l (sgn 32))]) (some (.str l, .fr)) none (by simp; omega) (by
          cases e : wr (k + 1) ls with
          | ok rs => rw [e] at q; simpa [wrK] using q
          | error e' => rw [e] at q; simpa [wrK] using q)
        simpa [hT, rowD] using this
theorem word_rows_w [Fn Γ 23 d_word_rows] {text : Str} (hl : text.length ≤ 4000000) (q : wrK K [] (wr 0 (Txt.split text (sgn 10)))) : wCall Γ wf (n + 1) hot 23 [.str text] K := by
  refine wc ?_
  simp [d_word_rows, b_word_rows, startV, ofS_nl]
  refine ⟨⟨by decide, by omega⟩, ?_⟩
  have := word_rows_go (Γ := Γ) (wf := wf) (hot := hot) (t0 := some (.str text, .fr)) (kk := wCall Γ wf n) (K := K) (Txt.split text (sgn 10)) 0 [] none none (fun l hl' => by have := split_part_len hl'; omega) (by have := split_len' text (sgn 10); simp; omega) q
  simpa using this
end
end Vp
set_option Elab.async false
set_option linter.all false
set_option maxRecDepth 100000
set_option maxHeartbeats 1000000
/-! V5: numbers in words. -/
namespace Vp
open PySem Mp Cf
open PySem.NumText (AllDigits digitsVal)
abbrev D10s : Str := PySem.Str.ofString "0123456789"
abbrev isDg (c : Nat) : Bool := decide (48 ≤ c) && decide (c ≤ 57)
/-- a row of digits that writes a number -/
def dig (l : List Nat) : Bool := decide (1 ≤ l.length) && (decide (l.length ≤ 6) && (l.all isDg && (decide (l.length = 1) || decide (l[0]? ≠ some 48))))
/-- the number that a word writes -/
def numL (l : List Nat) : Option Int := if l[0]? = some 45 then (if dig l.tail = true ∧ l.tail ≠ [48] then some (-(digitsVal l.tail : Nat)) else none) else if dig l = true then some (digitsVal l : Nat) else none
theorem starts_one (x : Str) (c : Nat) : Txt.startswith x (sgn c) = decide ((cs x)[0]? = some c) := by
  have h := StrLaws.subAt_one x c 0
  unfold Txt.startswith
  rw [Bool.eq_iff_iff, Bool.and_eq_true, decide_eq_true_eq, decide_eq_true_eq]
  exact h
theorem cs_cut1 (z : Str) : cs (L2.cutS z none (some 1)) = (cs z).take 1 := by
  rw [cs_cut]
  rw [show HT.sIx z.length 0 none = 0 from rfl, show HT.sIx z.length z.length (some 1) = min 1 z.length from HT.sIx_nat z.length z.length 1]
  rw [List.drop_zero, Nat.sub_zero, cs_len]
  rw [← List.take_take, List.take_length]
theorem cs_cut1' (z : Str) : cs (L2.cutS z (some 1) none) = (cs z).tail := by
  rw [cs_cut]
  rw [show HT.sIx z.length z.length none = z.length from rfl, show HT.sIx z.length 0 (some 1) = min 1 z.length from HT.sIx_nat z.length 0 1, cs_len]
  cases hz : cs z with
  | nil => rfl
  | cons a l => simp
theorem eq_one (z : Str) (c : Nat) : (L2.cutS z none (some 1) = sgn c) ↔ (cs z)[0]? = some c := by
  constructor
  · intro h
    have := congrArg cs h
    rw [cs_cut1] at this
    cases hz : cs z with
    | nil => rw [hz] at this; cases this
    | cons a l =>
      rw [hz] at this
      have e : [a] = [c] := this
      injection e with e
      rw [e]; rfl
  · intro h
    apply cs_ext
    rw [cs_cut1]
    cases hz : cs z with
    | nil => rw [hz] at h; cases h
    | cons a l => rw [hz] at h; simp at h; simp [h]
theorem d10_has (c : Nat) : hasS (sgn c) D10s = isDg c := by
  rw [has_one]
  have : ∀ a ∈ cs D10s, isDg a = true := by decide +kernel
  rw [Bool.eq_iff_iff, decide_eq_true_eq]
  constructor
  · exact fun h => this c h
  · intro h
    have h := Bool.and_eq_true_iff.mp h
    have h1 := of_decide_eq_true h.1
    have h2 := of_decide_eq_true h.2
    have : ∀ k, k < 58 → 48 ≤ k → k ∈ cs D10s := by decide +kernel
    exact this c (by omega) h1
theorem d10_find {c : Nat} (h : isDg c = true) : Txt.find D10s (sgn c) = ((c - 48 : Nat) : Int) := by
  have h := Bool.and_eq_true_iff.mp h
  have h1 := of_decide_eq_true h.1
  have h2 := of_decide_eq_true h.2
  have : ∀ k, k < 58 → 48 ≤ k → Txt.find D10s (sgn k) = ((k - 48 : Nat) : Int) := by decide +kernel
  exact this c (by omega) h1
theorem ofS_dash : PySem.Str.ofString "-" = sgn 45 := by decide +kernel
theorem ofS_0 : PySem.Str.ofString "0" = sgn 48 := by decide +kernel
theorem sgn_eq {c d : Nat} : (sgn c = sgn d) ↔ c = d := by
  constructor
  · intro h; have := congrArg cs h; simpa using this
  · intro h; rw [h]
theorem eq_sgn (z : Str) (c : Nat) : (z = sgn c) ↔ cs z = [c] := ⟨fun h => by rw [h], fun h => cs_ext h⟩
theorem all_dg {l : List Nat} : l.all isDg = true ↔ AllDigits l := by
  rw [List.all_eq_true]
  constructor
  · intro h c hc
    have := Bool.and_eq_true_iff.mp (h c hc)
    exact ⟨of_decide_eq_true this.1, of_decide_eq_true this.2⟩
  · intro h c hc
    have := h c hc
    exact Bool.and_eq_true_iff.mpr ⟨decide_eq_true this.1, decide_eq_true this.2⟩
/-- the item 0 of a text -/
theorem ix_0 {Q : QV} {g g' : Fg} {s s' : Src} {z : Str} {a : Nat} {l : List Nat} (h : cs z = a :: l) (hl : z.length ≤ line) : oQ (vIx ⟨.str z, g, s⟩ ⟨.int 0, g', s'⟩) Q = Q (sc (.str (sgn a))) := by
  rw [vIx_str, if_pos hl]
  have : L2.atI z.cps.toList 0 = some a := by
    show L2.atI (cs z) 0 = _
    rw [h]
    unfold L2.atI
    rw [show ((0 : Int)) = ((0 : Nat) : Int) from rfl, ixN_nat (by simp)]
    rfl
  rw [this]
  rfl
section
variable {Γ : Gam} {hot : Bool} {wf n : Nat} {K : Rz → Prop}
theorem are_digits_go [Gl Γ 3 (.str D10s)] {kk : Cl} {t0 : Sl} (Q : QF) : ∀ (l : List Nat) (o : Sl), ((l.all isDg = true → ∀ o, Q (.nx [t0, o])) ∧ (l.all isDg = false → Q (.ret (.bl false) .fr))) → wFor 1 (wSs Γ wf kk hot b_are_digits_1) (l.map fun c => D.str ⟨#[c]⟩) [t0, o] Q
  | [], o, q => by rw [List.map_nil, wFor_nil]; exact q.1 rfl o
  | c :: l, o, q => by
    rw [List.map_cons]
    refine wFor_turn fun T hT => ?_
    rw [List.all_cons] at q
    cases hc : isDg c with
    | false =>
      rw [hc] at q
      have h2 : hasS (sgn c) D10s = false := by rw [d10_has, hc]
      simp [b_are_digits_1, h2]
      simp [hT]
      exact q.2 rfl
    | true =>
      rw [hc, Bool.true_and] at q
      have h2 : hasS (sgn c) D10s = true := by rw [d10_has, hc]
      simp [b_are_digits_1, h2]
      simp [hT]
      exact are_digits_go Q l _ q
theorem are_digits_w [Gl Γ 3 (.str D10s)] [Gl Γ 4 (.int 6)] [Fn Γ 24 d_are_digits] {z : Str} (hz : z.length ≤ 10000) (q : K (.ok (.bl (dig (cs z))) .fr)) : wCall Γ wf (n + 1) hot 24 [.str z] K := by
  refine wc ?_
  have el := cs_len z
  by_cases h1 : 1 ≤ z.length ∧ z.length ≤ 6
  · have g1 : ¬ (z.length : Int) < 1 := by omega
    have g2 : ¬ (6 : Int) < z.length := by omega
    simp [d_are_digits, b_are_digits, startV, show z.length ≤ 16777216 by omega, g1, g2]
    refine are_digits_go _ (cs z) none ⟨fun h o => ?_, fun h => ?_⟩
    · cases hc : cs z with
      | nil => rw [hc] at el; simp at el; omega
      | cons a l =>
        have e0 : (z = sgn 48) = (cs z = [48]) := propext (eq_sgn z 48)
        have ed : dig (cs z) = (decide (z = sgn 48) || !decide (a = 48)) := by
          unfold dig
          rw [h]
          rw [Bool.eq_iff_iff]
          simp only [e0, hc]
          simp
          rw [hc] at el
          simp at el
          constructor
          · rintro ⟨_, h⟩
            rcases h with h | h
            · by_cases ha : a = 48
              · exact .inl ⟨ha, h⟩
              · exact .inr ha
            · exact .inr h
          · rintro (⟨h1, h2⟩ | h)
            · exact ⟨by omega, .inl h2⟩
            · exact ⟨by omega, .inr h⟩
        rw [ed] at q
        simp [ofS_0]
        by_cases hz0 : z = sgn 48
        · rw [hz0] at q ⊢
          simpa using q
        · simp [hz0]
          simp [hz0] at q
          rw [ix_0 hc (by show z.length ≤ 16777216; omega)]
          simpa [ofS_0, sgn_eq] using q
    · have ed : dig (cs z) = false := by unfold dig; rw [h]; simp
      rw [ed] at q
      simpa using q
  · have ed : dig (cs z) = false := by
      unfold dig
      rw [← el]
      simp
      intro a b
      omega
    rw [ed] at q
    by_cases g1 : (z.length : Int) < 1
    · simp [d_are_digits, b_are_digits, startV, show z.length ≤ 16777216 by omega, g1, q]
    · have g2 : (6 : Int) < z.length := by omega
      simp [d_are_digits, b_are_digits, startV, show z.length ≤ 16777216 by omega, g1, g2, q]
theorem dig_ne {l : List Nat} (h : dig l = true) : l ≠ [] ∧ AllDigits l ∧ l.length ≤ 6 := by
  unfold dig at h
  simp only [Bool.and_eq_true, decide_eq_true_eq] at h
  exact ⟨fun z => by rw [z] at h; simp at h, all_dg.mp h.2.2.1, h.2.1⟩
theorem dV_big : ∀ (l : List Nat) (v : Nat), v ≤ l.foldl (fun acc c => acc * 10 + (c - 48)) v
  | [], v => Nat.le_refl _
  | c :: l, v => by
    rw [List.foldl_cons]
    have := dV_big l (v * 10 + (c - 48))
    omega
theorem dig_zero {l : List Nat} (h : dig l = true) : digitsVal l = 0 ↔ l = [48] := by
  constructor
  · intro e
    obtain ⟨a, b, _⟩ := dig_ne h
    cases l with
    | nil => exact (a rfl).elim
    | cons c r =>
      have hc := b c List.mem_cons_self
      have e' : r.foldl (fun acc c => acc * 10 + (c - 48)) (0 * 10 + (c - 48)) = 0 := e
      have := dV_big r (0 * 10 + (c - 48))
      have c48 : c = 48 := by omega
      subst c48
      unfold dig at h
      simp at h
      rw [h.2.2]
  · intro e; rw [e]; rfl
theorem dV_lt : ∀ (l : List Nat), AllDigits l → ∀ v, l.foldl (fun acc c => acc * 10 + (c - 48)) v < (v + 1) * 10 ^ l.length
  | [], _, v => by simp
  | c :: l, h, v => by
    rw [List.foldl_cons]
    have hc := h c List.mem_cons_self
    have := dV_lt l (fun x hx => h x (List.mem_cons_of_mem _ hx)) (v * 10 + (c - 48))
    rw [List.length_cons, Nat.pow_succ]
    have a : v * 10 + (c - 48) + 1 ≤ (v + 1) * 10 := by omega
    have b : (v * 10 + (c - 48) + 1) * 10 ^ l.length ≤ (v + 1) * 10 * 10 ^ l.length := Nat.mul_le_mul_right _ a
    have e : (v + 1) * (10 ^ l.length * 10) = (v + 1) * 10 * 10 ^ l.length := by rw [Nat.mul_comm (10 ^ l.length) 10, Nat.mul_assoc]
    omega
theorem dig_lt {l : List Nat} (h : dig l = true) : digitsVal l < 1000000 := by
  obtain ⟨_, b, c⟩ := dig_ne h
  have := dV_lt l b 0
  have : (10 : Nat) ^ l.length ≤ 10 ^ 6 := Nat.pow_le_pow_right (by decide) c
  show l.foldl (fun acc c => acc * 10 + (c - 48)) 0 < _
  omega
theorem int_dig {z : Str} (h : dig (cs z) = true) : PySem.intText? z = some ((digitsVal (cs z) : Nat) : Int) := by
  obtain ⟨a, b, c⟩ := dig_ne h
  exact intText_digits b a (by rw [cs_len]; omega)
/-- what read_number hands back -/
def rnum (l : List Nat) (lo hi : Int) : D := match numL l with
  | some v => if lo ≤ v ∧ v ≤ hi then .int v else .non
  | none => .non
theorem read_number_w [Gl Γ 3 (.str D10s)] [Gl Γ 4 (.int 6)] [Fn Γ 24 d_are_digits] [Fn Γ 25 d_read_number] {z : Str} {lo hi : Int} (hz : z.length ≤ 1000) (q : K (.ok (rnum (cs z) lo hi) .fr)) : wCall Γ wf (n + 2) hot 25 [.str z, .int lo, .int hi] K := by
  refine wc ?_
  unfold rnum at q
  have el := cs_len z
  have fin : ∀ v : Int, (v < lo ∨ hi < v → K (.ok .non .fr)) → (¬ (v < lo ∨ hi < v) → K (.ok (.int v) .fr)) → True := fun _ _ _ => trivial
  by_cases hn : (cs z)[0]? = some 45
  · have hl : (L2.cutS z (some 1) none).length ≤ 10000 := Nat.le_trans (cutS_len z _ _) (by omega)
    unfold numL at q
    rw [if_pos hn] at q
    simp [d_read_number, b_read_number, startV, ofS_dash, starts_one, hn, show z.length ≤ 16777216 by omega]
    refine are_digits_w hl ?_
    rw [cs_cut1']
    cases hd : dig (cs z).tail with
    | false =>
      rw [hd] at q
      simpa using q
    | true =>
      rw [hd] at q
      simp
      have e0 : (L2.cutS z (some 1) none = sgn 48) = ((cs z).tail = [48]) := by rw [eq_sgn, cs_cut1']
      by_cases h48 : (cs z).tail = [48]
      · rw [if_neg (fun w => w.2 h48)] at q
        have e0 : L2.cutS z (some 1) none = sgn 48 := by rw [e0]; exact h48
        simp [ofS_0, e0]
        simpa using q
      · rw [if_pos ⟨rfl, h48⟩] at q
        have e0 : ¬ L2.cutS z (some 1) none = sgn 48 := by rw [e0]; exact h48
        have it := int_dig (z := L2.cutS z (some 1) none) (by rw [cs_cut1']; exact hd)
        rw [cs_cut1'] at it
        simp [ofS_0, e0, it]
        have h6 := (dig_ne hd).2.2
        have e7 : (cs z).tail.length = (cs z).length - 1 := List.length_tail
        refine ⟨Nat.le_trans (cutS_len z _ _) (by omega), ?_⟩
        dsimp only at q
        by_cases a : -(digitsVal (cs z).tail : Int) < lo
        · rw [if_neg (by omega)] at q
          simp [a, q]
        · by_cases b : hi < -(digitsVal (cs z).tail : Int)
          · rw [if_neg (by omega)] at q
            simp [a, b, q]
          · rw [if_pos (by omega)] at q
            simp [a, b, q]
  · unfold numL at q
    rw [if_neg hn] at q
    have hn2 : ¬ z.cps[0]? = some 45 := by simpa using hn
    simp [d_read_number, b_read_number, startV, ofS_dash, starts_one, hn2]
    refine are_digits_w (z := z) (by omega) ?_
    cases hd : dig (cs z) with
    | false =>
      rw [hd] at q
      simpa using q
    | true =>
      rw [hd] at q
      have it := int_dig (z := z) hd
      simp [it]
      refine ⟨by have := (dig_ne hd).2.2; omega, ?_⟩
      rw [if_pos rfl] at q
      dsimp only at q
      by_cases a : (digitsVal (cs z) : Int) < lo
      · rw [if_neg (by omega)] at q
        simp [a, q]
      · by_cases b : hi < (digitsVal (cs z) : Int)
        · rw [if_neg (by omega)] at q
          simp [a, b, q]
        · rw [if_pos (by omega)] at q
          simp [a, b, q]
end
end Vp
set_option Elab.async false
set_option linter.all false
set_option maxRecDepth 100000
set_option maxHeartbeats 1000000
/-! V6: the law's own reading of numbers; drawn numerals. -/
namespace Vp
open PySem Mp Cf
open PySem.NumText (AllDigits digitsVal)
section
variable {Γ : Gam} {hot : Bool} {wf n : Nat} {K : Rz → Prop}
theorem numeral_go {kk : Cl} {t0 t1 : Sl} (Q : QF) : ∀ (l : List Nat) (v : Nat) (o : Sl), (v + 1) * 10 ^ l.length ≤ 1000000 → ((l.all isDg = true → ∀ o, Q (.nx [t0, t1, some (.int (l.foldl (fun acc c => acc * 10 + (c - 48)) v : Nat), .fr), o])) ∧ (l.all isDg = false → Q (.ret (.nd .lst []) .dp))) →
    wFor 3 (wSs Γ wf kk hot b_law_read_numeral_1) (l.map fun c => D.str ⟨#[c]⟩) [t0, t1, some (.int (v : Nat), .fr), o] Q
  | [], v, o, _, q => by rw [List.map_nil, wFor_nil]; exact q.1 rfl o
  | c :: l, v, o, hv, q => by
    rw [List.map_cons]
    refine wFor_turn fun T hT => ?_
    rw [List.all_cons] at q
    cases hc : isDg c with
    | false =>
      rw [hc] at q
      have h2 : hasS (sgn c) D10s = false := by rw [d10_has, hc]
      simp [b_law_read_numeral_1, h2]
      simp [hT]
      exact q.2 rfl
    | true =>
      rw [hc, Bool.true_and] at q
      have h2 : hasS (sgn c) D10s = true := by rw [d10_has, hc]
      have h3 := d10_find hc
      have hcc := Bool.and_eq_true_iff.mp hc
      have c1 := of_decide_eq_true hcc.1
      have c2 := of_decide_eq_true hcc.2
      have hp : 1 ≤ 10 ^ l.length := Nat.pos_of_ne_zero (by simp)
      have hv1 : (v + 1) * 10 * 10 ^ l.length ≤ 1000000 := by
        rw [List.length_cons, Nat.pow_succ] at hv
        rw [Nat.mul_assoc, Nat.mul_comm 10]
        exact hv
      have hv2 : (v * 10 + (c - 48) + 1) * 10 ^ l.length ≤ 1000000 := Nat.le_trans (Nat.mul_le_mul_right _ (by omega)) hv1
      have hv3 : (v + 1) * 10 ≤ 1000000 := Nat.le_trans (Nat.le_mul_of_pos_right _ hp) hv1
      have hlog : ((v : Int)).natAbs.log2 ≤ 20 := lg (by omega)
      have hl10 : (10 : Int).natAbs.log2 = 3 := by decide +kernel
      simp [b_law_read_numeral_1, h2, h3]
      have hlog' : v.log2 ≤ 20 := hlog
      have : Nat.log2 10 = 3 := hl10
      refine ⟨by omega, ?_⟩
      simp [hT]
      have := numeral_go (kk := kk) (t0 := t0) (t1 := t1) Q l (v * 10 + (c - 48)) (some (.str ⟨#[c]⟩, .fr)) hv2 (by simpa using q)
      rw [show (((v * 10 + (c - 48) : Nat)) : Int) = (v : Int) * 10 + ((c - 48 : Nat) : Int) by omega] at this
      exact this
/-- what _law_read_numeral hands back -/
def lnum (l : List Nat) : List D := match numL l with
  | some v => [.int v]
  | none => []
def rnR : Ss := match b_law_read_numeral with
  | .cons _ (.cons _ r) => r
  | r => r
theorem rnR_w {d z : Str} {neg : Bool} {kk : Cl} (hz : z.length ≤ 1000) (hd : d.length ≤ 1000) (hn : (L2.cutS z none (some 1) = sgn 45) ↔ neg = true) (q : K (.ok (.lst (if dig (cs d) = true ∧ ¬ (neg = true ∧ cs d = [48]) then [.int (if neg = true then -(digitsVal (cs d) : Nat) else (digitsVal (cs d) : Nat))] else [])) .dp)) :
    wSs Γ wf kk hot rnR [some (.str z, .fr), some (.str d, .fr), none, none] (endV K) := by
  have el := cs_len d
  have hd1 : d.length ≤ 16777216 := by omega
  have hz1 : z.length ≤ 16777216 := by omega
  by_cases h1 : 1 ≤ d.length ∧ d.length ≤ 6
  · have g1 : ¬ (d.length : Int) < 1 := by omega
    have g2 : ¬ (6 : Int) < d.length := by omega
    simp [rnR, b_law_read_numeral, hd1, g1, g2]
    refine numeral_go _ (cs d) 0 none (by
      have : (10 : Nat) ^ (cs d).length ≤ 10 ^ 6 := Nat.pow_le_pow_right (by decide) (by omega)
      omega) ⟨fun h o => ?_, fun h => ?_⟩
    · cases hc : cs d with
      | nil => rw [hc] at el; simp at el; omega
      | cons a l =>
        rw [hc] at el q h
        simp at el
        have hdig : dig (a :: l) = (decide (l.length = 0) || !decide (a = 48)) := by
          unfold dig
          rw [h]
          rw [Bool.eq_iff_iff]
          simp
          intro _
          omega
        have i0 := fun (Q : QV) (s : Src) => ix_0 (Q := Q) (g := .fr) (s := s) (g' := .fr) (s' := .t []) hc hd1
        by_cases hlead : 1 < (d.length : Int) ∧ a = 48
        · have e : dig (a :: l) = false := by rw [hdig]; simp [hlead.2]; intro z; rw [z] at el; simp at el; omega
          rw [e] at q
          simp [hd1, hlead.1, i0, ofS_0, sgn_eq, hlead.2]
          simpa using q
        · have e : dig (a :: l) = true := by
            rw [hdig]
            simp
            by_cases ha : a = 48
            · left
              have : ¬ 1 < (d.length : Int) := fun z => hlead ⟨z, ha⟩
              exact List.length_eq_zero_iff.mp (by omega)
            · exact .inr ha
          rw [e] at q
          have dz := dig_zero e
          have fin : ∀ (T : Prop), ((neg = true → digitsVal (a :: l) = 0 → K (.ok (.lst []) .dp)) → (neg = true → digitsVal (a :: l) ≠ 0 → K (.ok (.lst [.int (0 - (digitsVal (a :: l) : Nat))]) .dp)) → (neg = false → K (.ok (.lst [.int (digitsVal (a :: l) : Nat)]) .dp)) → T) → T := by
            intro T hT
            refine hT (fun h1 h2 => ?_) (fun h1 h2 => ?_) (fun h1 => ?_)
            · rw [if_neg (fun w => w.2 ⟨h1, dz.mp h2⟩)] at q; exact q
            · rw [if_pos ⟨rfl, fun w => h2 (dz.mpr w.2)⟩, if_pos h1] at q
              rw [Int.zero_sub]
              exact q
            · rw [if_pos ⟨rfl, fun w => by rw [h1] at w; cases w.1⟩, if_neg (by rw [h1]; exact Bool.false_ne_true)] at q
              exact q
          refine fin _ fun f1 f2 f3 => ?_
          have ev : (List.foldl (fun acc c => acc * 10 + (c - 48)) 0 (a :: l)) = digitsVal (a :: l) := rfl
          rw [ev]
          have tail : ∀ r, (r = .cons (.ite (.cmp .ne (.cut (.var 0) .no (.yes (.cst (.int (1))))) (.cst (.str (PySem.Str.ofString "-"))))
    (.cons (.ret (.lst (.cons (.var 2) .nil)))
     .nil)
    .nil)
   (.cons (.ite (.cmp .eq (.var 2) (.cst (.int (0))))
    (.cons (.ret (.lst .nil))
     .nil)
    .nil)
   (.cons (.ret (.lst (.cons (.bin .sub (.cst (.int (0))) (.var 2)) .nil)))
   .nil))) → wSs Γ wf kk hot r [some (.str z, .fr), some (.str d, .fr), some (.int (digitsVal (a :: l) : Nat), .fr), o] (endV K) := by
            intro r hr
            subst hr
            cases neg with
            | false =>
              have : ¬ L2.cutS z none (some 1) = sgn 45 := fun w => by cases hn.mp w
              simp [hz1, ofS_dash, this]
              exact f3 rfl
            | true =>
              have := hn.mpr rfl
              by_cases hv : digitsVal (a :: l) = 0
              · simp [hz1, ofS_dash, this, hv]
                exact f1 rfl hv
              · simp [hz1, ofS_dash, this, hv]
                simpa using f2 rfl hv
          by_cases hl1 : 1 < (d.length : Int)
          · have ha : ¬ a = 48 := fun z => hlead ⟨hl1, z⟩
            simp [hd1, hl1, i0, ofS_0, sgn_eq, ha]
            have := tail _ rfl
            simpa [ofS_dash] using this
          · simp [hd1, hl1]
            have := tail _ rfl
            simpa [ofS_dash] using this
    · have e : dig (cs d) = false := by unfold dig; rw [h]; simp
      rw [e] at q
      simpa using q
  · have e : dig (cs d) = false := by
      unfold dig
      rw [← el]
      simp
      intro a b
      omega
    rw [e] at q
    by_cases g1 : (d.length : Int) < 1
    · simp [rnR, b_law_read_numeral, hd1, g1]; simpa using q
    · have g2 : (6 : Int) < d.length := by omega
      simp [rnR, b_law_read_numeral, hd1, g1, g2]; simpa using q
theorem read_numeral_w [Fn Γ 29 d_law_read_numeral] {z : Str} (hz : z.length ≤ 1000) (q : K (.ok (.lst (lnum (cs z))) .dp)) : wCall Γ wf (n + 1) hot 29 [.str z] K := by
  refine wc ?_
  have hb : b_law_read_numeral = .cons (.asg 1 (.var 0)) (.cons (.ite (.cmp .eq (.cut (.var 0) .no (.yes (.cst (.int (1))))) (.cst (.str (PySem.Str.ofString "-"))))
    (.cons (.asg 1 (.cut (.var 0) (.yes (.cst (.int (1)))) .no))
     .nil)
    .nil) rnR) := rfl
  have hz1 : z.length ≤ 16777216 := by omega
  unfold d_law_read_numeral
  rw [hb]
  by_cases hn : (cs z)[0]? = some 45
  · have h1 := (eq_one z 45).mpr hn
    simp [startV, hz1, ofS_dash, h1]
    refine rnR_w (neg := true) hz (Nat.le_trans (cutS_len z _ _) hz) ⟨fun _ => rfl, fun _ => h1⟩ ?_
    unfold lnum numL at q
    rw [if_pos hn] at q
    rw [cs_cut1']
    by_cases hc : dig (cs z).tail = true ∧ (cs z).tail ≠ [48]
    · rw [if_pos hc] at q
      rw [if_pos ⟨hc.1, fun w => hc.2 w.2⟩]
      simpa using q
    · rw [if_neg hc] at q
      rw [if_neg (fun w => hc ⟨w.1, fun y => w.2 ⟨rfl, y⟩⟩)]
      exact q
  · have h1 : ¬ L2.cutS z none (some 1) = sgn 45 := fun w => hn ((eq_one z 45).mp w)
    simp [startV, hz1, ofS_dash, h1]
    refine rnR_w (neg := false) hz hz ⟨fun w => (h1 w).elim, fun w => by cases w⟩ ?_
    unfold lnum numL at q
    rw [if_neg hn] at q
    by_cases hc : dig (cs z) = true
    · rw [if_pos hc] at q
      rw [if_pos ⟨hc, fun w => by cases w.1⟩]
      simpa using q
    · rw [if_neg hc] at q
      rw [if_neg (fun w => hc w.1)]
      exact q
end
end Vp
set_option Elab.async false
set_option linter.all false
set_option maxRecDepth 100000
set_option maxHeartbeats 1000000
/-! V7: drawn numerals, their ends; a number is right. -/
namespace Vp
open PySem Mp Cf
abbrev tI (i : Int) : Str := PySem.Str.ofString (toString i)
theorem tI_len {i : Int} (h0 : -1000000 < i) (h1 : i < 1000000) : (tI i).length ≤ 7 := by
  have a := PySem.int_text_length_le10 (a := i) (k := 6) (by decide) (by omega)
  exact Nat.le_trans (by rw [PySem.ofString_length]; exact Nat.le_refl _) a
theorem cpy_fr (d : D) (s : Src) (k : Kd) (ys : List D) (xs : List D) : cpy ⟨d, .fr, s⟩ (.nd k ys :: xs) = some false := rfl
theorem cpy_rt (d : D) (s : Src) (k : Kd) (ys : List D) (xs : List D) : cpy ⟨d, .rt, s⟩ (.nd k ys :: xs) = some false := rfl
theorem cpy_dp (d : D) (k : Kd) (ys : List D) (xs : List D) : cpy ⟨d, .dp, .t []⟩ (.nd k ys :: xs) = some true := rfl
section
variable {Γ : Gam} {hot : Bool} {wf n : Nat} {K : Rz → Prop}
theorem log20 {i : Int} (h0 : -1000000 ≤ i) (h1 : i ≤ 1000000) : i.natAbs.log2 < 1920 := Nat.lt_of_le_of_lt (lg (k := 20) (by omega)) (by decide)
abbrev wrongS : List Str := ["", "-", "-0", "+1", "01", "-01", "00", "1000000", "-1000000", "0999999", "--1", "1-", "1a"].map PySem.Str.ofString
theorem wrongS_len : ∀ z ∈ wrongS, z.length ≤ 20 := by
  intro z hz
  obtain ⟨s, hs, rfl⟩ := List.mem_map.mp hz
  simp only [List.mem_cons, List.not_mem_nil, or_false] at hs
  rcases hs with h | h | h | h | h | h | h | h | h | h | h | h | h <;> subst h <;> decide +kernel
theorem numeral_w [Fn Γ 26 d_law_whole] [Fn Γ 28 d_law_numeral] (q : ∀ z : Str, z.length ≤ 20 → K (.ok (.str z) .fr)) : wCall Γ wf (n + 4) hot 28 [.sto] K := by
  refine wc ?_
  simp [d_law_numeral, b_law_numeral, startV]
  intro k k0 k1
  refine whole_w fun x x0 x1 => ?_
  obtain ⟨y, hy, y0, y1⟩ : ∃ y : Int, y = (if -999999 < (if x < 999999 then x else 999999) then (if x < 999999 then x else 999999) else -999999) ∧ -1000000 < y ∧ y < 1000000 := ⟨_, rfl, by split <;> (try split) <;> omega, by split <;> (try split) <;> omega⟩
  simp
  rw [← hy]
  have tl : (PySem.Str.ofString y.repr).length ≤ 7 := tI_len y0 y1
  have lg := log20 (i := y) (by omega) (by omega)
  by_cases c3 : k < 3
  · simp [c3, lg]
    exact q _ (by omega)
  · by_cases c5 : k < 5
    · simp [c3, c5]
      intro v v0 v1
      refine ix_mem v0 v1 rfl fun u hu => ?_
      obtain ⟨z, hz, rfl⟩ : ∃ z ∈ wrongS, u = .str z := by
        have : u ∈ wrongS.map D.str := hu
        obtain ⟨z, hz, e⟩ := List.mem_map.mp this
        exact ⟨z, hz, e.symm⟩
      simp
      exact q z (wrongS_len z hz)
    · simp [c3, c5, lg, show (PySem.Str.ofString y.repr).length ≤ 16777216 by omega]
      refine ⟨by omega, by omega, fun v v0 v1 u u0 u1 => ?_⟩
      refine ix_chr u0 (by exact u1) (by decide +kernel) fun c hc => ?_
      have l1 := cutS_len (PySem.Str.ofString y.repr) none (some v)
      have l2 := cutS_len (PySem.Str.ofString y.repr) (some v) none
      simp [show (PySem.Str.ofString y.repr).length ≤ 16777216 by omega]
      refine ⟨by show _ + 1 ≤ _; omega, by rw [Str.length_append]; show _ + 1 + _ ≤ _; omega, q _ ?_⟩
      rw [Str.length_append, Str.length_append]
      show _ + 1 + _ ≤ _
      omega
theorem number_right_w [Gl Γ 3 (.str D10s)] [Gl Γ 4 (.int 6)] [Fn Γ 24 d_are_digits] [Fn Γ 25 d_read_number] [Fn Γ 29 d_law_read_numeral] [Fn Γ 36 d_law_number_right] [Fn Γ 10 d_law_same] [Fn Γ 9 d_law_same_flat] [Fn Γ 8 d_law_isnumber] {z : Str} {lo hi : Int} (hz : z.length ≤ 1000) (q : K (.ok (.bl true) .fr)) :
    wCall Γ wf (n + 4) hot 36 [.str z, .int lo, .int hi] K := by
  refine wc ?_
  simp [d_law_number_right, b_law_number_right, startV]
  refine read_numeral_w hz ?_
  have same : ∀ d : D, (d = .non ∨ ∃ v, d = .int v) → ∀ b, wCall Γ wf (n + 3) hot 10 [d, d] (resQ b (kRet (endV K)) (kX [some (D.str z, Fg.fr), some (D.int lo, Fg.fr), some (D.int hi, Fg.fr), some (d, .fr), some (.nd .lst (lnum (cs z)), .dp)] (endV K))) := by
    intro d hd b
    refine same_w (by rcases hd with rfl | ⟨v, rfl⟩ <;> rfl) (by rcases hd with rfl | ⟨v, rfl⟩ <;> simp [sz]) ?_
    simp [q]
  unfold lnum
  cases e : numL (cs z) with
  | none =>
    simp
    refine read_number_w hz ?_
    unfold rnum
    rw [e]
    simp
    have := same .non (.inl rfl) false
    unfold lnum at this
    rw [e] at this
    exact this
  | some v =>
    have hs := same (if lo ≤ v ∧ v ≤ hi then .int v else .non) (by split; exact .inr ⟨v, rfl⟩; exact .inl rfl) false
    unfold lnum at hs
    rw [e] at hs
    by_cases h1 : lo ≤ v
    · by_cases h2 : v ≤ hi
      · simp [h1, h2]
        refine read_number_w hz ?_
        unfold rnum
        rw [e]
        simp [h1, h2] at hs ⊢
        exact hs
      · simp [h1, h2]
        refine read_number_w hz ?_
        unfold rnum
        rw [e]
        simp [h1, h2] at hs ⊢
        exact hs
    · simp [h1]
      refine read_number_w hz ?_
      unfold rnum
      rw [e]
      simp [h1] at hs ⊢
      exact hs
theorem numL_b {l : List Nat} {v : Int} (h : numL l = some v) : -1000000 < v ∧ v < 1000000 := by
  unfold numL at h
  split at h
  · split at h
    · next _ c => injection h with h; subst h; have := dig_lt c.1; omega
    · cases h
  · split at h
    · next _ c => injection h with h; subst h; have := dig_lt c; omega
    · cases h
/-- a pair of ints -/
def IP (d : D) : Prop := ∃ a b : Int, d = .tup [.int a, .int b]
theorem cpy_rt' (d : D) (s : Src) (xs : List D) : ∃ b, cpy ⟨d, .rt, s⟩ xs = some b := by
  unfold cpy
  split
  · exact ⟨_, rfl⟩
  · exact ⟨_, rfl⟩
theorem cutL_len (xs : List D) (a b : Option Int) : (cutL xs a b).length ≤ xs.length := by
  unfold cutL
  rw [List.length_take, List.length_drop]
  omega
theorem mem_cutL {xs : List D} {a b : Option Int} {d : D} (h : d ∈ cutL xs a b) : d ∈ xs :=
  List.mem_of_mem_drop (List.mem_of_mem_take h)
theorem ends_w [Fn Γ 26 d_law_whole] [Fn Γ 29 d_law_read_numeral] [Fn Γ 37 d_law_ends] {z : Str} (hz : z.length ≤ 1000) (q : ∀ xs : List D, (∀ x ∈ xs, IP x) → xs.length ≤ 14 → K (.ok (.lst xs) .rt) ∧ K (.ok (.lst xs) .dp)) : wCall Γ wf (n + 4) hot 37 [.sto, .str z] K := by
  refine wc ?_
  simp [d_law_ends, b_law_ends, startV]
  refine read_numeral_w hz ?_
  unfold lnum
  cases e : numL (cs z) with
  | none =>
    simp
    refine whole_w fun x x0 x1 => ?_
    simp
    refine whole_w fun y y0 y1 => ?_
    simp [cpy_fr, cpy_rt, cpy_dp]
    intro k k0 k1
    obtain ⟨b, hb⟩ := cpy_rt' (D.lst [D.nd Kd.tup [D.int (-1000000), D.int 1000000], D.nd Kd.tup [D.int 0, D.int 0], D.nd Kd.tup [D.int 1, D.int 1000000], D.nd Kd.tup [D.int (-1000000), D.int (-1)], D.nd Kd.tup [D.int (-1), D.int 1], D.nd Kd.tup [D.int 1, D.int (-1)], D.nd Kd.tup [D.int x, D.int y], D.nd Kd.tup [D.int (-1000000), D.int 1000000], D.nd Kd.tup [D.int 0, D.int 0], D.nd Kd.tup [D.int 1, D.int 1000000], D.nd Kd.tup [D.int (-1000000), D.int (-1)], D.nd Kd.tup [D.int (-1), D.int 1], D.nd Kd.tup [D.int 1, D.int (-1)], D.nd Kd.tup [D.int x, D.int y]]) (.t []) (cutL [D.nd Kd.tup [D.int (-1000000), D.int 1000000], D.nd Kd.tup [D.int 0, D.int 0], D.nd Kd.tup [D.int 1, D.int 1000000], D.nd Kd.tup [D.int (-1000000), D.int (-1)], D.nd Kd.tup [D.int (-1), D.int 1], D.nd Kd.tup [D.int 1, D.int (-1)], D.nd Kd.tup [D.int x, D.int y], D.nd Kd.tup [D.int (-1000000), D.int 1000000], D.nd Kd.tup [D.int 0, D.int 0], D.nd Kd.tup [D.int 1, D.int 1000000], D.nd Kd.tup [D.int (-1000000), D.int (-1)], D.nd Kd.tup [D.int (-1), D.int 1], D.nd Kd.tup [D.int 1, D.int (-1)], D.nd Kd.tup [D.int x, D.int y]] (some k) (some (k + 3)))
    rw [hb]
    simp
    cases b
    · refine (q _ (fun d hd => ?_) ?_).1
      · have hd := mem_cutL hd
        simp only [List.mem_cons, List.not_mem_nil, or_false] at hd
        rcases hd with h | h | h | h | h | h | h | h | h | h | h | h | h | h <;> exact ⟨_, _, h⟩
      · exact cutL_len _ (some k) (some (k + 3))
    · refine (q _ (fun d hd => ?_) ?_).2
      · have hd := mem_cutL hd
        simp only [List.mem_cons, List.not_mem_nil, or_false] at hd
        rcases hd with h | h | h | h | h | h | h | h | h | h | h | h | h | h <;> exact ⟨_, _, h⟩
      · exact cutL_len _ (some k) (some (k + 3))
  | some v =>
    have vb := numL_b e
    have l0 := log20 (i := v) (by omega) (by omega)
    simp [l0]
    refine whole_w fun x x0 x1 => ?_
    simp
    refine whole_w fun y y0 y1 => ?_
    simp [cpy_fr, cpy_rt, cpy_dp]
    intro k k0 k1
    obtain ⟨b, hb⟩ := cpy_rt' (D.lst [D.nd Kd.tup [D.int (-1000000), D.int 1000000], D.nd Kd.tup [D.int v, D.int v], D.nd Kd.tup [D.int (v + 1), D.int 1000000], D.nd Kd.tup [D.int (-1000000), D.int (v - 1)], D.nd Kd.tup [D.int (v - 1), D.int (v + 1)], D.nd Kd.tup [D.int (v + 1), D.int (v - 1)], D.nd Kd.tup [D.int x, D.int y], D.nd Kd.tup [D.int (-1000000), D.int 1000000], D.nd Kd.tup [D.int v, D.int v], D.nd Kd.tup [D.int (v + 1), D.int 1000000], D.nd Kd.tup [D.int (-1000000), D.int (v - 1)], D.nd Kd.tup [D.int (v - 1), D.int (v + 1)], D.nd Kd.tup [D.int (v + 1), D.int (v - 1)], D.nd Kd.tup [D.int x, D.int y]]) (.t []) (cutL [D.nd Kd.tup [D.int (-1000000), D.int 1000000], D.nd Kd.tup [D.int v, D.int v], D.nd Kd.tup [D.int (v + 1), D.int 1000000], D.nd Kd.tup [D.int (-1000000), D.int (v - 1)], D.nd Kd.tup [D.int (v - 1), D.int (v + 1)], D.nd Kd.tup [D.int (v + 1), D.int (v - 1)], D.nd Kd.tup [D.int x, D.int y], D.nd Kd.tup [D.int (-1000000), D.int 1000000], D.nd Kd.tup [D.int v, D.int v], D.nd Kd.tup [D.int (v + 1), D.int 1000000], D.nd Kd.tup [D.int (-1000000), D.int (v - 1)], D.nd Kd.tup [D.int (v - 1), D.int (v + 1)], D.nd Kd.tup [D.int (v + 1), D.int (v - 1)], D.nd Kd.tup [D.int x, D.int y]] (some k) (some (k + 3)))
    rw [hb]
    simp
    cases b
    · refine (q _ (fun d hd => ?_) ?_).1
      · have hd := mem_cutL hd
        simp only [List.mem_cons, List.not_mem_nil, or_false] at hd
        rcases hd with h | h | h | h | h | h | h | h | h | h | h | h | h | h <;> exact ⟨_, _, h⟩
      · exact cutL_len _ (some k) (some (k + 3))
    · refine (q _ (fun d hd => ?_) ?_).2
      · have hd := mem_cutL hd
        simp only [List.mem_cons, List.not_mem_nil, or_false] at hd
        rcases hd with h | h | h | h | h | h | h | h | h | h | h | h | h | h <;> exact ⟨_, _, h⟩
      · exact cutL_len _ (some k) (some (k + 3))
end
end Vp
set_option Elab.async false
set_option linter.all false
set_option maxRecDepth 100000
set_option maxHeartbeats 1000000
/-! V8: the drawn words; the drawn text. -/
namespace Vp
open PySem Mp Cf
/-! ### plain -/
theorem cut_hi_len (z : Str) (v : Nat) : (L2.cutS z none (some (v : Int))).length ≤ v := by
  rw [cs_len, cs_cut, List.length_take, HT.sIx_nat, HT.sIx_none]
  omega
theorem strip_sub (z : Str) : (Txt.strip z).length ≤ z.length ∧ ∀ a ∈ cs (Txt.strip z), a ∈ cs z := by
  unfold Txt.strip Txt.stripBy
  split
  · exact ⟨Nat.le_refl _, fun a h => h⟩
  · constructor
    · show (z.cps.extract _ _).size ≤ z.cps.size
      rw [Array.size_extract]
      omega
    · intro a h
      have h : a ∈ (z.cps.extract _ _).toList := h
      rw [Array.toList_extract] at h
      exact List.mem_of_mem_drop (List.mem_of_mem_take h)
theorem jl_len (c m : Nat) : ∀ (ps : List (List Nat)), (∀ p ∈ ps, p.length ≤ m) → (jl c ps).length ≤ ps.length * (m + 1)
  | [], _ => Nat.zero_le _
  | [p], h => by
    have := h p List.mem_cons_self
    show p.length ≤ 1 * (m + 1)
    omega
  | p :: q :: r, h => by
    have a := h p List.mem_cons_self
    have b := jl_len c m (q :: r) fun x hx => h x (List.mem_cons_of_mem _ hx)
    show (p ++ c :: jl c (q :: r)).length ≤ _
    rw [List.length_append, List.length_cons]
    have : (p :: q :: r).length * (m + 1) = (q :: r).length * (m + 1) + (m + 1) := by rw [List.length_cons (a := p), Nat.succ_mul]
    omega
theorem join_len (c m : Nat) (ps : List Str) (h : ∀ p ∈ ps, p.length ≤ m) : (Txt.join (sgn c) ps).length ≤ ps.length * (m + 1) := by
  rw [cs_len, cs_tjoin]
  have := jl_len c m (ps.map cs) fun p hp => by
    obtain ⟨x, hx, rfl⟩ := List.mem_map.mp hp
    exact h x hx
  rw [List.length_map] at this
  exact this
theorem join_free {c a : Nat} (h : a ≠ c) {ps : List Str} (hp : ∀ p ∈ ps, a ∉ cs p) : a ∉ cs (Txt.join (sgn c) ps) := by
  rw [cs_tjoin]
  intro hm
  rcases mem_jl hm with e | ⟨p, hp', hm⟩
  · exact h e
  · obtain ⟨x, hx, rfl⟩ := List.mem_map.mp hp'
    exact hp x hx hm
/-- an empty word -/
def Bad (z : Str) : Prop := Str.empty ∈ Txt.split z (sgn 32) ∧ z ≠ Str.empty
theorem ne_of_split {z : Str} (h : 2 ≤ (Txt.split z (sgn 32)).length) : z ≠ Str.empty := by
  intro e
  subst e
  have : (Txt.split Str.empty (sgn 32)).length = 1 := by decide +kernel
  omega
theorem bad_two (a b : Str) : Bad (a ++ PySem.Str.ofString "  " ++ b) := by
  have e : Txt.split (a ++ PySem.Str.ofString "  " ++ b) (sgn 32) = Txt.split a (sgn 32) ++ Str.empty :: Txt.split b (sgn 32) := by
    refine split_of _ 32 (by simp) (fun p hp => ?_) ?_
    · rcases List.mem_append.mp hp with h | h
      · exact split_free a 32 h
      · rcases List.mem_cons.mp h with h | h
        · rw [h]; exact List.not_mem_nil
        · exact split_free b 32 h
    · rw [List.map_append, jl_app 32 (by simp [split_ne]) (by simp), List.map_cons, jl_cons 32 _ (by simp [split_ne]), jl_split, jl_split, cs_app, cs_app, List.append_assoc]
      rfl
  have p1 := List.length_pos_iff.mpr (split_ne a 32)
  exact ⟨by rw [e]; simp, ne_of_split (by rw [e]; simp; omega)⟩
theorem bad_head (b : Str) : Bad (sgn 32 ++ b) := by
  have e : Txt.split (sgn 32 ++ b) (sgn 32) = Str.empty :: Txt.split b (sgn 32) := by
    refine split_of _ 32 (by simp) (fun p hp => ?_) ?_
    · rcases List.mem_cons.mp hp with h | h
      · rw [h]; exact List.not_mem_nil
      · exact split_free b 32 h
    · rw [List.map_cons, jl_cons 32 _ (by simp [split_ne]), jl_split, cs_app]
      rfl
  have p1 := List.length_pos_iff.mpr (split_ne b 32)
  exact ⟨by rw [e]; simp, ne_of_split (by rw [e]; simp; omega)⟩
theorem bad_tail (a : Str) : Bad (a ++ sgn 32) := by
  have e : Txt.split (a ++ sgn 32) (sgn 32) = Txt.split a (sgn 32) ++ [Str.empty] := by
    refine split_of _ 32 (by simp) (fun p hp => ?_) ?_
    · rcases List.mem_append.mp hp with h | h
      · exact split_free a 32 h
      · rw [List.mem_singleton.mp h]; exact List.not_mem_nil
    · rw [List.map_append, jl_app 32 (by simp [split_ne]) (by simp), jl_split, cs_app]
      rfl
  have p1 := List.length_pos_iff.mpr (split_ne a 32)
  exact ⟨by rw [e]; simp, ne_of_split (by rw [e]; simp; omega)⟩
theorem bad_rep {v : Int} (h : 1 ≤ v) : Bad (repS (sgn 32) v) := by
  have : repS (sgn 32) v = sgn 32 ++ repS (sgn 32) (v - 1) := by
    refine cs_ext ?_
    rw [cs_app, cs_rep, cs_rep, show v.toNat = (v - 1).toNat + 1 by omega, List.replicate_succ]
    rfl
  rw [this]
  exact bad_head _
theorem cutL_map (f : Str → D) (l : List Str) (a b : Option Int) : cutL (l.map f) a b = (cutL l a b).map f := by
  unfold cutL
  rw [List.length_map, List.map_take, List.map_drop]
theorem cpy_strs (v : Val) (l : List Str) : cpy v (l.map D.str) = some true := by
  unfold cpy
  rw [if_pos]
  rw [List.all_eq_true]
  intro x hx
  obtain ⟨z, _, rfl⟩ := List.mem_map.mp hx
  rfl
theorem cpy_two (v : Val) (x y : Str) : cpy v [.str x, .str y] = some true := rfl
/-- the parts of cut rows -/
theorem cut_join {ws : List Str} {lo hi : Option Int} {m : Nat} (hm : ∀ w ∈ ws, w.length ≤ m ∧ 10 ∉ cs w) : (Txt.join (sgn 32) (cutL ws lo hi)).length ≤ ws.length * (m + 1) ∧ 10 ∉ cs (Txt.join (sgn 32) (cutL ws lo hi)) := by
  have sub : ∀ w ∈ cutL ws lo hi, w ∈ ws := fun w h => List.mem_of_mem_drop (List.mem_of_mem_take h)
  refine ⟨Nat.le_trans (join_len 32 m _ fun w h => (hm w (sub w h)).1) (Nat.mul_le_mul_right _ ?_), join_free (by decide) fun w h => (hm w (sub w h)).2⟩
  unfold cutL
  rw [List.length_take, List.length_drop]
  omega
theorem sum_len (m : Nat) : ∀ l : List Str, (∀ w ∈ l, w.length ≤ m) → (l.map fun x => x.length).sum + l.length * 1 ≤ l.length * (m + 1)
  | [], _ => Nat.zero_le _
  | w :: l, h => by
    have a := h w List.mem_cons_self
    have b := sum_len m l fun x hx => h x (List.mem_cons_of_mem _ hx)
    rw [List.map_cons, List.sum_cons, List.length_cons, Nat.succ_mul, Nat.succ_mul]
    omega
theorem cut_sum {ws : List Str} {lo hi : Option Int} {m : Nat} (hm : ∀ w ∈ ws, w.length ≤ m) : ((cutL ws lo hi).map fun x => x.length).sum + (cutL ws lo hi).length * 1 ≤ ws.length * (m + 1) := by
  refine Nat.le_trans (sum_len m _ fun w h => hm w (List.mem_of_mem_drop (List.mem_of_mem_take h))) (Nat.mul_le_mul_right _ ?_)
  unfold cutL
  rw [List.length_take, List.length_drop]
  omega
/-- a spoilt line -/
def Spo (z : Str) : Prop := Bad z ∧ 10 ∉ cs z ∧ z.length ≤ 6000
section
variable {Γ : Gam} {hot : Bool} {wf n : Nat} {K : Rz → Prop}
theorem spoil_w [Fn Γ 30 d_law_spoil_line] {p : Str} (hl : p.length ≤ 50) (hp : 10 ∉ cs p) (q : ∀ z, Spo z → K (.ok (.str z) .fr)) : wCall Γ wf (n + 3) hot 30 [.sto, .str p] K := by
  refine wc ?_
  simp [d_law_spoil_line, b_law_spoil_line, startV, ofS_blank]
  intro k k0 k1
  have le1 : (sgn 32).length = 1 := rfl
  have fr1 : 10 ∉ cs (sgn 32) := by decide
  have fr2 : 10 ∉ cs (PySem.Str.ofString "  ") := by decide +kernel
  have le2 : (PySem.Str.ofString "  ").length = 2 := by decide +kernel
  have fapp : ∀ {a b : Str}, 10 ∉ cs a → 10 ∉ cs b → 10 ∉ cs (a ++ b) := fun {a b} ha hb h => by
    rw [cs_app] at h
    rcases List.mem_append.mp h with h | h
    · exact ha h
    · exact hb h
  by_cases c0 : k = 0
  · simp [c0, le1, show 1 + p.length ≤ 16777216 by omega]
    exact q _ ⟨bad_head p, fapp fr1 hp, by rw [Str.length_append, le1]; omega⟩
  · by_cases c1 : k = 1
    · simp [c0, c1, le1, show p.length + 1 ≤ 16777216 by omega]
      exact q _ ⟨bad_tail p, fapp hp fr1, by rw [Str.length_append, le1]; omega⟩
    · by_cases c2 : k = 2
      · simp [c0, c1, c2, le1]
        refine fun v v0 v1 => ⟨⟨by omega, by omega, by omega⟩, q _ ⟨bad_rep (by omega), fun h => fr1 (mem_rep h), ?_⟩⟩
        rw [rep_len (by omega), le1]
        omega
      · simp [c0, c1, c2, le1]
        refine ⟨by omega, ?_⟩
        have sl := split_len' p (sgn 32)
        have wm : ∀ w ∈ Txt.split p (sgn 32), w.length ≤ 50 ∧ 10 ∉ cs w := fun w hw => ⟨Nat.le_trans (split_part_len hw) hl, fun h => hp (by
          have e := jl_split p 32
          rw [← e]
          exact jl_mem (List.mem_map.mpr ⟨w, hw, rfl⟩) h)⟩
        by_cases c3 : ((Txt.split p (sgn 32)).length : Int) < 2
        · simp [c3, le2, Str.length_append, show p.length + 2 ≤ 16777216 by omega, show p.length + 2 + p.length ≤ 16777216 by omega]
          exact q _ ⟨bad_two p p, fapp (fapp hp fr2) hp, by rw [Str.length_append, Str.length_append, le2]; omega⟩
        · simp [c3, cutL_map, cpy_strs]
          rw [le1]
          refine ⟨by omega, by omega, fun v v0 v1 => ?_⟩
          have ca := cut_join (ws := Txt.split p (sgn 32)) (lo := none) (hi := some (1 + v)) wm
          have cb := cut_join (ws := Txt.split p (sgn 32)) (lo := some (1 + v)) (hi := none) wm
          have sa := cut_sum (ws := Txt.split p (sgn 32)) (lo := none) (hi := some (1 + v)) fun w h => (wm w h).1
          have sb := cut_sum (ws := Txt.split p (sgn 32)) (lo := some (1 + v)) (hi := none) fun w h => (wm w h).1
          have b52 : (Txt.split p (sgn 32)).length * (50 + 1) ≤ 52 * 51 := Nat.mul_le_mul_right _ (by omega)
          have lz : (Txt.join (sgn 32) (cutL (Txt.split p (sgn 32)) none (some (1 + v))) ++ Str.ofString "  ").length ≤ 2654 := by rw [Str.length_append, le2]; omega
          rw [le2]
          refine ⟨by omega, by omega, by omega, by omega, q _ ⟨bad_two _ _, fapp (fapp ca.2 fr2) cb.2, ?_⟩⟩
          rw [Str.length_append]
          omega
/-- the bad lines' numbers, in order -/
def Srt (c : Int) (l : List Int) : Prop := (∀ b ∈ l, 0 ≤ b ∧ b < c) ∧ l.length ≤ 2 ∧ ∀ a r, l = a :: r → ∀ b ∈ l, a ≤ b
theorem srt0 (g : Fg) (s : Src) : vFn Γ .sorted [⟨.nd .lst [], g, s⟩] = some (nw (.nd .lst []) .dp) := fn_sorted []
theorem srt1 (a : Int) (g : Fg) (s : Src) : vFn Γ .sorted [⟨.nd .lst [.int a], g, s⟩] = some (nw (.nd .lst [.int a]) .dp) := fn_sorted [a]
theorem srt2 (a b : Int) (g : Fg) (s : Src) : vFn Γ .sorted [⟨.nd .lst [.int a, .int b], g, s⟩] = some (nw (.nd .lst (if a ≤ b then [.int a, .int b] else [.int b, .int a])) .dp) := by
  have := fn_sorted (Γ := Γ) (g := g) (s := s) [a, b]
  rw [show ([a, b] : List Int).map D.int = [.int a, .int b] from rfl] at this
  rw [this]
  show some (nw (.nd .lst ((if a ≤ b then [a, b] else [b, a]).map D.int)) .dp) = _
  split <;> rfl
theorem bads_w [Fn Γ 31 d_law_bads] {c : Int} (h0 : 0 ≤ c) (h1 : c ≤ 1000) (q : ∀ l, Srt c l → K (.ok (.lst (l.map .int)) .dp)) : wCall Γ wf (n + 3) hot 31 [.sto, .int c] K := by
  refine wc ?_
  simp [d_law_bads, b_law_bads, startV]
  by_cases hc : 0 < c
  · simp [hc]
    intro v v0 v1
    simp [rngOk_of (i := v) (by omega) (by omega)]
    by_cases e0 : v = 0
    · rw [rngD_nil (by omega)]
      simp [srt0]
      exact q [] ⟨fun b h => by simp at h, by simp, fun a r h => by simp at h⟩
    · rw [rngD_cons (by omega)]
      refine wFor_turn fun T hT => ?_
      simp [b_law_bads_1]
      refine ⟨by omega, by omega, fun a a0 a1 => ?_⟩
      simp [hT]
      by_cases e1 : v = 1
      · rw [rngD_nil (by omega)]
        simp [srt1]
        exact q [a] ⟨fun b h => by rw [List.mem_singleton.mp h]; omega, by simp, fun x r h b hb => by rw [List.mem_singleton.mp hb]; injection h with h; omega⟩
      · rw [rngD_cons (by omega)]
        refine wFor_turn fun T hT => ?_
        simp [b_law_bads_1]
        refine ⟨by omega, by omega, fun b b0 b1 => ?_⟩
        simp [hT]
        rw [rngD_nil (by omega)]
        simp [srt2]
        by_cases ab : a ≤ b
        · rw [if_pos ab]
          refine q [a, b] ⟨fun x h => ?_, by simp, fun x r h y hy => ?_⟩
          · simp at h
            omega
          · simp at hy h
            omega
        · rw [if_neg ab]
          refine q [b, a] ⟨fun x h => ?_, by simp, fun x r h y hy => ?_⟩
          · simp at h
            omega
          · simp at hy h
            omega
  · simp [hc, srt0]
    exact q [] ⟨fun b h => by simp at h, by simp, fun a r h => by simp at h⟩
/-- texts of at most m signs -/
abbrev Sh (m : Nat) (l : List Str) : Prop := ∀ z ∈ l, z.length ≤ m
theorem Sh.snoc {m : Nat} {l : List Str} {z : Str} (h : Sh m l) (hz : z.length ≤ m) : Sh m (l ++ [z]) := fun x hx => by
  rcases List.mem_append.mp hx with a | a
  · exact h x a
  · rw [List.mem_singleton.mp a]; exact hz
theorem Sh.app {m : Nat} {l r : List Str} (h : Sh m l) (hz : Sh m r) : Sh m (l ++ r) := fun x hx => by
  rcases List.mem_append.mp hx with a | a
  · exact h x a
  · exact hz x a
theorem num2_go {t0 t1 t6 : Sl} {z : Str} {v : Int} {kk : Cl} (Q : QF) (hz : z.length ≤ 20) : ∀ (xs l : List Str) (o : Sl), Sh 1 xs → Sh 100 l → l.length + xs.length ≤ 800 → (∀ l o, Sh 100 l → l.length ≤ 800 → Q (.nx [t0, t1, some (.str z, .fr), some (.int v, .fr), some (.nd .lst (l.map .str), .dp), o, t6])) →
    wFor 5 (wSs Γ wf kk hot b_law_numerals_2) (xs.map .str) [t0, t1, some (.str z, .fr), some (.int v, .fr), some (.nd .lst (l.map .str), .dp), o, t6] Q
  | [], l, o, _, hl, hn, q => by rw [List.map_nil, wFor_nil]; exact q l o hl (by simpa using hn)
  | x :: xs, l, o, hx, hl, hn, q => by
    rw [List.map_cons]
    refine wFor_turn fun T hT => ?_
    have x1 := hx x List.mem_cons_self
    simp only [List.length_cons] at hn
    have ca := cutS_len z none (some v)
    have cb := cutS_len z (some v) none
    have la : (L2.cutS z none (some v) ++ x).length ≤ 21 := by rw [Str.length_append]; omega
    simp [b_law_numerals_2, show z.length ≤ 16777216 by omega, show (L2.cutS z none (some v)).length + x.length ≤ 16777216 by omega, show (L2.cutS z none (some v) ++ x).length + (L2.cutS z (some v) none).length ≤ 16777216 by omega]
    refine ⟨by omega, ?_⟩
    rw [hT, turnF_nx]
    have := num2_go (t0 := t0) (t1 := t1) (t6 := t6) (v := v) (kk := kk) Q hz xs (l ++ [L2.cutS z none (some v) ++ x ++ L2.cutS z (some v) none]) (some (.str x, .fr)) (fun y hy => hx y (List.mem_cons_of_mem _ hy)) (hl.snoc (by rw [Str.length_append]; omega)) (by simp; omega) q
    simpa using this
theorem num1_go [Fn Γ 28 d_law_numeral] [Fn Γ 26 d_law_whole] {t1 t2 t3 t5 : Sl} (Q : QF) : ∀ (m : Nat) (i j : Int) (l : List Str) (o : Sl), j - i = m → Sh 100 l → l.length + m ≤ 1000 → (∀ l o, Sh 100 l → l.length ≤ 1000 → Q (.nx [some (.sto, .fr), t1, t2, t3, some (.nd .lst (l.map .str), .dp), t5, o])) →
    wFor 6 (wSs Γ wf (wCall Γ wf (n + 4)) hot b_law_numerals_1) (rngD i j) [some (.sto, .fr), t1, t2, t3, some (.nd .lst (l.map .str), .dp), t5, o] Q
  | 0, i, j, l, o, e, hl, hn, q => by rw [rngD_nil (by omega), wFor_nil]; exact q l o hl (by simpa using hn)
  | m + 1, i, j, l, o, e, hl, hn, q => by
    rw [rngD_cons (by omega)]
    refine wFor_turn fun T hT => ?_
    simp [b_law_numerals_1]
    refine numeral_w fun z hz => ?_
    simp
    refine ⟨by omega, ?_⟩
    rw [hT, turnF_nx]
    have := num1_go (t1 := t1) (t2 := t2) (t3 := t3) (t5 := t5) Q m (i + 1) j (l ++ [z]) (some (.int i, .fr)) (by omega) (hl.snoc (by omega)) (by simp; omega) q
    simpa using this
/-- the statements behind the first k -/
def tl : Nat → Ss → Ss
  | k + 1, .cons _ r => tl k r
  | _, r => r
abbrev num11 : List Str := ["", "-", "0", "-0", "00", "-1", "999999", "1000000", "-999999", "-1000000", "12345678"].map PySem.Str.ofString
theorem num11_sh : Sh 100 num11 := by
  intro z hz
  obtain ⟨x, hx, rfl⟩ := List.mem_map.mp hz
  simp only [List.mem_cons, List.not_mem_nil, or_false] at hx
  rcases hx with h | h | h | h | h | h | h | h | h | h | h <;> subst h <;> decide +kernel
theorem num8_w [Fn Γ 28 d_law_numeral] [Fn Γ 26 d_law_whole] [Fn Γ 27 d_law_word] [Fn Γ 6 d_law_hit] [Fn Γ 12 d_law_name] {l : List Str} {t1 t2 t3 t5 : Sl} (hl : Sh 100 l) (hn : l.length ≤ 900) (q : ∀ l : List Str, Sh 100 l → K (.ok (.lst (l.map .str)) .dp)) :
    wSs Γ wf (wCall Γ wf (n + 4)) hot (tl 8 b_law_numerals) [some (.sto, .fr), t1, t2, t3, some (.nd .lst (l.map .str), .dp), t5, none] (endV K) := by
  simp [tl, b_law_numerals, rngOk_of (i := 4) (by decide) (by decide)]
  refine num1_go _ 4 0 4 l none rfl hl (by omega) fun l o hl hn => ?_
  simp
  refine word_w fun x hx => ?_
  simp
  refine word_w fun y hy => ?_
  simp [cpy_strs, cpy_two]
  refine ⟨by omega, ?_⟩
  have := q (l ++ [x, y]) (hl.app fun z hz => by
    simp at hz
    rcases hz with h | h
    · rw [h]; exact Nat.le_trans hx.2.1 (by decide)
    · rw [h]; exact Nat.le_trans hy.2.1 (by decide))
  simpa using this
theorem wSs_at {kk : Cl} {b : Ss} {s : S} {r : Ss} {σ : Sv} {Q : QF} (e : b = .cons s r) (q : wS Γ wf kk hot s σ (sqF (wSs Γ wf kk hot r) Q)) : wSs Γ wf kk hot b σ Q := by subst e; exact q
def csts : List Str → Es
  | [] => .nil
  | z :: r => .cons (.cst (.str z)) (csts r)
theorem wEs_csts {kk : Cl} {σ : Sv} : ∀ (l : List Str) (Q : List Val → Prop) (X : QX), wEs Γ kk hot (csts l) σ Q X = Q (l.map fun z => sc (.str z))
  | [], Q, X => by simp [csts]
  | z :: l, Q, X => by
    have := wEs_csts (kk := kk) (σ := σ) l (kEs2 (sc (.str z)) Q) X
    simp only [csts, wEs, wE]
    show wEs Γ kk hot (csts l) σ (kEs2 (sc (.str z)) Q) X = _
    rw [this]
    rfl
theorem stL_strs : ∀ l : List Str, stL (l.map fun z => sc (.str z)) = some (true, [])
  | [] => rfl
  | z :: l => by
    rw [List.map_cons]
    unfold stL
    rw [stL_strs l]
    rfl
theorem mk_strs (l : List Str) : mk .lst (l.map fun z => sc (.str z)) = some ⟨.nd .lst (l.map .str), .dp, .t []⟩ := by
  have e : (l.map fun z => sc (D.str z)).map (fun v => v.d) = l.map D.str := by rw [List.map_map]; rfl
  unfold mk
  rw [stL_strs, e]
  rfl
theorem asg4_w {kk : Cl} {Q : QF} {t0 t1 t2 t3 t5 t6 : Sl} {l r : List Str} (hn : l.length + r.length ≤ 1000) (q : Q (.nx [t0, t1, t2, t3, some (.nd .lst ((l ++ r).map .str), .dp), t5, t6])) :
    wS Γ wf kk hot (.asg 4 (.bin .add (.var 4) (.lst (csts r)))) [t0, t1, t2, t3, some (.nd .lst (l.map .str), .fr), t5, t6] Q := by
  simp [-List.map_append, wEs_csts, -mk_eq, mk_strs, cpy_strs]
  refine ⟨by omega, by omega, ?_⟩
  rw [List.map_append] at q
  exact q
theorem num7_w [Fn Γ 28 d_law_numeral] [Fn Γ 26 d_law_whole] [Fn Γ 27 d_law_word] [Fn Γ 6 d_law_hit] [Fn Γ 12 d_law_name] {l : List Str} {t1 t2 t3 t5 : Sl} (hl : Sh 100 l) (hn : l.length ≤ 800) (q : ∀ l : List Str, Sh 100 l → K (.ok (.lst (l.map .str)) .dp)) :
    wSs Γ wf (wCall Γ wf (n + 4)) hot (tl 7 b_law_numerals) [some (.sto, .fr), t1, t2, t3, some (.nd .lst (l.map .str), .fr), t5, none] (endV K) := by
  have ln : num11.length = 11 := rfl
  refine wSs_at (s := .asg 4 (.bin .add (.var 4) (.lst (csts num11)))) (r := tl 8 b_law_numerals) rfl (asg4_w (by rw [ln]; omega) ?_)
  exact num8_w (K := K) (hl.app num11_sh) (by rw [List.length_append, ln]; omega) q
theorem num6_w [Fn Γ 28 d_law_numeral] [Fn Γ 26 d_law_whole] [Fn Γ 27 d_law_word] [Fn Γ 6 d_law_hit] [Fn Γ 12 d_law_name] {l : List Str} {t1 t2 t3 t5 : Sl} (hl : Sh 100 l) (hn : l.length ≤ 800) (q : ∀ l : List Str, Sh 100 l → K (.ok (.lst (l.map .str)) .dp)) :
    wSs Γ wf (wCall Γ wf (n + 4)) hot (tl 6 b_law_numerals) [some (.sto, .fr), t1, t2, t3, some (.nd .lst (l.map .str), .dp), t5, none] (endV K) := by
  refine wSs_at (s := .frz [4]) (r := tl 7 b_law_numerals) rfl ?_
  rw [wS_frz, sqF_nx]
  rw [show frz [some (.sto, .fr), t1, t2, t3, some (.nd .lst (l.map .str), .dp), t5, none] [4] = [some (.sto, .fr), t1, t2, t3, some (.nd .lst (l.map .str), .fr), t5, none] from rfl]
  exact num7_w (K := K) hl hn q
theorem num4_w [Fn Γ 28 d_law_numeral] [Fn Γ 26 d_law_whole] [Fn Γ 27 d_law_word] [Fn Γ 6 d_law_hit] [Fn Γ 12 d_law_name] {t1 : Sl} {z : Str} {v : Int} (hz : z.length ≤ 7) (q : ∀ l : List Str, Sh 100 l → K (.ok (.lst (l.map .str)) .dp)) :
    wSs Γ wf (wCall Γ wf (n + 4)) hot (tl 4 b_law_numerals) [some (.sto, .fr), t1, some (.str z, .fr), some (.int v, .fr), none, none, none] (endV K) := by
  refine wSs_at (r := tl 5 b_law_numerals) rfl ?_
  have l1 : (PySem.Str.ofString "-").length = 1 := by decide +kernel
  have l2 : (PySem.Str.ofString "+").length = 1 := by decide +kernel
  have l3 : (PySem.Str.ofString "0").length = 1 := by decide +kernel
  have l4 : (PySem.Str.ofString "-0").length = 2 := by decide +kernel
  have l5 : (PySem.Str.ofString "--").length = 2 := by decide +kernel
  simp [l1, l2, l3, l4, l5, show z.length ≤ 16777215 by omega, show z.length ≤ 16777214 by omega]
  refine ⟨by omega, by omega, ?_⟩
  refine wSs_at (r := tl 6 b_law_numerals) rfl ?_
  simp
  refine num2_go (z := z) (l := [z, PySem.Str.ofString "-" ++ z, PySem.Str.ofString "+" ++ z, PySem.Str.ofString "0" ++ z, PySem.Str.ofString "-0" ++ z, PySem.Str.ofString "--" ++ z, z ++ PySem.Str.ofString "-"]) _ (by omega) (["_", "9", "a", ".", "-", "0"].map PySem.Str.ofString) none ?_ ?_ (by show 7 + 6 ≤ 800; decide) ?_
  · intro x hx
    obtain ⟨y, hy, rfl⟩ := List.mem_map.mp hx
    simp only [List.mem_cons, List.not_mem_nil, or_false] at hy
    rcases hy with h | h | h | h | h | h <;> subst h <;> decide +kernel
  · intro x hx
    simp only [List.mem_cons, List.not_mem_nil, or_false] at hx
    rcases hx with h | h | h | h | h | h | h <;> subst h <;> (try rw [Str.length_append]) <;> omega
  · intro l o hl hn
    rw [sqF_nx]
    exact num6_w (K := K) hl hn q
theorem num3_w [Fn Γ 28 d_law_numeral] [Fn Γ 26 d_law_whole] [Fn Γ 27 d_law_word] [Fn Γ 6 d_law_hit] [Fn Γ 12 d_law_name] {t1 : Sl} {z : Str} (hz : z.length ≤ 7) (q : ∀ l : List Str, Sh 100 l → K (.ok (.lst (l.map .str)) .dp)) :
    wSs Γ wf (wCall Γ wf (n + 4)) hot (tl 3 b_law_numerals) [some (.sto, .fr), t1, some (.str z, .fr), none, none, none, none] (endV K) := by
  refine wSs_at (r := tl 4 b_law_numerals) rfl ?_
  simp [-wtake, show z.length ≤ 16777216 by omega]
  rw [wtake]
  refine ⟨by omega, by omega, fun v v0 v1 => ?_⟩
  rw [resQ_int]
  rw [show sc (D.int v) = ⟨.int v, .fr, .t []⟩ from rfl, wPut_int, sqF_nx]
  rw [show ([some (.sto, .fr), t1, some (.str z, .fr), none, none, none, none] : Sv).set 3 (some (.int v, .fr)) = [some (.sto, .fr), t1, some (.str z, .fr), some (.int v, .fr), none, none, none] from rfl]
  exact num4_w (K := K) hz q
theorem stm2 {Q : QF} {kk : Cl} {w : Int} {r : Ss} (w0 : -1000000 < w) (w1 : w < 1000000) (q : wSs Γ wf kk hot r [some (.sto, .fr), some (.int w, .fr), some (.str (PySem.Str.ofString w.repr), .fr), none, none, none, none] Q) :
    wSs Γ wf kk hot (.cons (.asg 2 (.fn .str (.cons (.var 1) .nil))) r) [some (.sto, .fr), some (.int w, .fr), none, none, none, none, none] Q := by
  have lg := log20 (i := w) (by omega) (by omega)
  simp [lg]
  exact q
theorem num2_w [Fn Γ 28 d_law_numeral] [Fn Γ 26 d_law_whole] [Fn Γ 27 d_law_word] [Fn Γ 6 d_law_hit] [Fn Γ 12 d_law_name] {w : Int} (w0 : -1000000 < w) (w1 : w < 1000000) (q : ∀ l : List Str, Sh 100 l → K (.ok (.lst (l.map .str)) .dp)) :
    wSs Γ wf (wCall Γ wf (n + 4)) hot (tl 2 b_law_numerals) [some (.sto, .fr), some (.int w, .fr), none, none, none, none, none] (endV K) := by
  have tl' : (PySem.Str.ofString w.repr).length ≤ 7 := tI_len w0 w1
  have := num3_w (t1 := some (.int w, .fr)) (K := K) (Γ := Γ) (wf := wf) (hot := hot) (n := n) tl' q
  have e : tl 2 b_law_numerals = .cons (.asg 2 (.fn .str (.cons (.var 1) .nil))) (tl 3 b_law_numerals) := rfl
  rw [e]
  exact stm2 w0 w1 this
theorem stm1 {K : Rz → Prop} [Fn Γ 6 d_law_hit] {v : Int} {r : Ss} (q : ∀ w, w = v ∨ w = 999999 - v → wSs Γ wf (wCall Γ wf (n + 4)) hot r [some (.sto, .fr), some (.int w, .fr), none, none, none, none, none] (endV K)) :
    wSs Γ wf (wCall Γ wf (n + 4)) hot (.cons (.ite (.call 6 (.cons (.var 0) (.cons (.cst (.int (4))) .nil))) (.cons (.asg 1 (.bin .sub (.cst (.int (999999))) (.var 1))) .nil) .nil) r) [some (.sto, .fr), some (.int v, .fr), none, none, none, none, none] (endV K) := by
  simp
  refine hit_w (by decide) (by decide) fun b => ?_
  cases b
  · simp
    exact q v (.inl rfl)
  · simp
    exact q _ (.inr rfl)
theorem num1_w [Fn Γ 28 d_law_numeral] [Fn Γ 26 d_law_whole] [Fn Γ 27 d_law_word] [Fn Γ 6 d_law_hit] [Fn Γ 12 d_law_name] {v : Int} (w0 : 0 ≤ v) (w1 : v < 1000000) (q : ∀ l : List Str, Sh 100 l → K (.ok (.lst (l.map .str)) .dp)) :
    wSs Γ wf (wCall Γ wf (n + 4)) hot (tl 1 b_law_numerals) [some (.sto, .fr), some (.int v, .fr), none, none, none, none, none] (endV K) := by
  have e : tl 1 b_law_numerals = .cons (.ite (.call 6 (.cons (.var 0) (.cons (.cst (.int (4))) .nil))) (.cons (.asg 1 (.bin .sub (.cst (.int (999999))) (.var 1))) .nil) .nil) (tl 2 b_law_numerals) := rfl
  rw [e]
  exact stm1 fun w hw => num2_w (K := K) (by omega) (by omega) q
theorem stm0 {K : Rz → Prop} {r : Ss} (q : ∀ v, 0 ≤ v → v < 1000000 → wSs Γ wf (wCall Γ wf (n + 4)) hot r [some (.sto, .fr), some (.int v, .fr), none, none, none, none, none] (endV K)) :
    wSs Γ wf (wCall Γ wf (n + 4)) hot (.cons (.asg 1 (.call 5 (.cons (.var 0) (.cons (.ix (.lst (.cons (.cst (.int (10))) (.cons (.cst (.int (100))) (.cons (.cst (.int (1000))) (.cons (.cst (.int (10000))) (.cons (.cst (.int (100000))) (.cons (.cst (.int (1000000))) .nil))))))) (.call 5 (.cons (.var 0) (.cons (.cst (.int (6))) .nil)))) .nil)))) r) [some (.sto, .fr), none, none, none, none, none, none] (endV K) := by
  simp
  intro k k0 k1
  refine ix_mem k0 k1 rfl fun x hx => ?_
  obtain ⟨c, rfl, c0, c1⟩ : ∃ c : Int, x = .int c ∧ 1 ≤ c ∧ c ≤ 1000000 := by
    simp only [List.mem_cons, List.not_mem_nil, or_false] at hx
    rcases hx with h | h | h | h | h | h <;> exact ⟨_, h, by decide, by decide⟩
  simp
  exact ⟨c0, by omega, fun v v0 v1 => q v v0 (by omega)⟩
theorem numerals_w [Fn Γ 35 d_law_numerals] [Fn Γ 6 d_law_hit] [Fn Γ 28 d_law_numeral] [Fn Γ 26 d_law_whole] [Fn Γ 27 d_law_word] [Fn Γ 12 d_law_name] (q : ∀ l : List Str, Sh 100 l → K (.ok (.lst (l.map .str)) .dp)) : wCall Γ wf (n + 5) hot 35 [.sto] K := by
  refine wc ?_
  have e : d_law_numerals.body = .cons (.asg 1 (.call 5 (.cons (.var 0) (.cons (.ix (.lst (.cons (.cst (.int (10))) (.cons (.cst (.int (100))) (.cons (.cst (.int (1000))) (.cons (.cst (.int (10000))) (.cons (.cst (.int (100000))) (.cons (.cst (.int (1000000))) .nil))))))) (.call 5 (.cons (.var 0) (.cons (.cst (.int (6))) .nil)))) .nil)))) (tl 1 b_law_numerals) := rfl
  rw [e]
  exact stm0 fun v v0 v1 => num1_w (K := K) v0 v1 q
end
end Vp
set_option Elab.async false
set_option linter.all false
set_option maxRecDepth 100000
set_option maxHeartbeats 1000000
/-! V9: the drawn text's rows. -/
namespace Vp
open PySem Mp Cf
theorem wr_cons (k : Nat) (l : Str) (ls : List Str) : wr k (l :: ls) = if l = Str.empty then wr (k + 1) ls else if Str.empty ∈ Txt.split l (sgn 32) then .error (k + 1) else match wr (k + 1) ls with
    | .ok rs => .ok ((k + 1, Txt.split l (sgn 32)) :: rs)
    | .error e => .error e := rfl
theorem wr_app : ∀ (ps qs : List Str) (k : Nat), wr k (ps ++ qs) = match wr k ps with
    | .error e => .error e
    | .ok rs => match wr (k + ps.length) qs with
      | .error e => .error e
      | .ok rs' => .ok (rs ++ rs')
  | [], qs, k => by
    rw [List.nil_append]
    show wr k qs = match wr k qs with
      | .error e => .error e
      | .ok rs' => .ok ([] ++ rs')
    cases wr k qs <;> rfl
  | p :: ps, qs, k => by
    have ih := wr_app ps qs (k + 1)
    rw [show k + 1 + ps.length = k + (p :: ps).length by rw [List.length_cons]; omega] at ih
    rw [List.cons_append, wr_cons, wr_cons]
    by_cases h0 : p = Str.empty
    · rw [if_pos h0, if_pos h0]; exact ih
    · rw [if_neg h0, if_neg h0]
      by_cases h1 : Str.empty ∈ Txt.split p (sgn 32)
      · rw [if_pos h1, if_pos h1]
      · rw [if_neg h1, if_neg h1, ih]
        cases wr (k + 1) ps with
        | error e => rfl
        | ok rs =>
          dsimp only
          cases wr (k + (p :: ps).length) qs <;> rfl
theorem wr_empties : ∀ (m k : Nat), wr k (List.replicate m Str.empty) = .ok []
  | 0, k => rfl
  | m + 1, k => by
    rw [List.replicate_succ]
    unfold wr
    rw [if_pos rfl]
    exact wr_empties m (k + 1)
/-- a good line's words -/
def Ws (ws : List Str) : Prop := ws.length ≤ 6 ∧ ∀ w ∈ ws, Tz 1 200 w
theorem Ws.split {ws : List Str} (h : Ws ws) (hne : ws ≠ []) : Txt.split (Txt.join (sgn 32) ws) (sgn 32) = ws :=
  split_join 32 hne fun p hp hm => ((h.2 p hp).2.2 32 hm).1 rfl
theorem Ws.ne {ws : List Str} (h : Ws ws) (hne : ws ≠ []) : Txt.join (sgn 32) ws ≠ Str.empty := by
  intro e
  have s := h.split hne
  rw [e] at s
  have : Txt.split Str.empty (sgn 32) = [Str.empty] := by decide +kernel
  rw [this] at s
  rw [← s] at h
  have := (h.2 Str.empty List.mem_cons_self).1
  exact absurd this (by decide)
theorem Ws.noE {ws : List Str} (h : Ws ws) : Str.empty ∉ ws := fun hm => absurd (h.2 _ hm).1 (by decide)
/-- a good line -/
theorem wr_good {ws : List Str} (h : Ws ws) (k : Nat) : wr k [Txt.join (sgn 32) ws] = .ok (if ws = [] then [] else [(k + 1, ws)]) := by
  unfold wr
  by_cases hne : ws = []
  · subst hne
    rw [if_pos (by decide +kernel), if_pos rfl]
    rfl
  · rw [if_neg (h.ne hne), h.split hne, if_neg h.noE, if_neg hne]
    rfl
theorem wr_bad {z : Str} (h : Bad z) (k : Nat) : wr k [z] = .error (k + 1) := by
  unfold wr
  rw [if_neg h.2, if_pos h.1]
/-- what is so behind k lines -/
structure Blt (bs : List Int) (k : Nat) (ps : List Str) (rs : List (Nat × List Str)) : Prop where
  len : ps.length = k
  rows : wr 0 ps = if ∀ b ∈ bs, (k : Int) ≤ b then .ok rs else .error (bs.headD 0 + 1).toNat
  nl : ∀ p ∈ ps, 10 ∉ cs p ∧ p.length ≤ 6000
  rl : rs.length ≤ k
  rw' : ∀ r ∈ rs, Ws r.2
theorem Blt.nil {c : Int} {bs : List Int} (h : Srt c bs) : Blt bs 0 [] [] :=
  ⟨rfl, by
    have : ∀ b ∈ bs, ((0 : Nat) : Int) ≤ b := fun b hb => (h.1 b hb).1
    rw [if_pos this]; rfl, fun p h => (List.not_mem_nil h).elim, Nat.le_refl _, fun r h => (List.not_mem_nil h).elim⟩
theorem Ws.line {ws : List Str} (h : Ws ws) : 10 ∉ cs (Txt.join (sgn 32) ws) ∧ (Txt.join (sgn 32) ws).length ≤ 6000 := by
  refine ⟨join_free (by decide) fun p hp hm => ((h.2 p hp).2.2 10 hm).2 rfl, ?_⟩
  have := join_len 32 200 ws fun p hp => (h.2 p hp).2.1
  have l := h.1
  have : ws.length * 201 ≤ 6 * 201 := Nat.mul_le_mul_right _ l
  omega
theorem Blt.good {c : Int} {bs : List Int} {k : Nat} {ps : List Str} {rs : List (Nat × List Str)} {ws : List Str} (B : Blt bs k ps rs) (hs : Srt c bs) (hk : (k : Int) ∉ bs) (h : Ws ws) :
    Blt bs (k + 1) (ps ++ [Txt.join (sgn 32) ws]) (rs ++ if ws = [] then [] else [(k + 1, ws)]) := by
  obtain ⟨len, rows, nl, rl, rw'⟩ := B
  have g := wr_good h k
  have gl : (if ws = [] then [] else [(k + 1, ws)]).length ≤ 1 := by split <;> simp
  have gm : ∀ r ∈ (if ws = [] then [] else [(k + 1, ws)]), Ws r.2 := by
    intro r hr
    split at hr
    · cases hr
    · rw [List.mem_singleton.mp hr]; exact h
  generalize (if ws = [] then [] else [(k + 1, ws)]) = rr at g gl gm ⊢
  refine ⟨by simp [len], ?_, fun p hp => ?_, ?_, fun r hr => ?_⟩
  · rw [wr_app, rows, len, Nat.zero_add, g]
    by_cases hb : ∀ b ∈ bs, (k : Int) ≤ b
    · rw [if_pos hb, if_pos]
      intro b hb'
      have := hb b hb'
      by_cases e : (k : Int) = b
      · rw [e] at hk; exact absurd hb' hk
      · omega
    · rw [if_neg hb, if_neg]
      intro h'
      exact hb fun b hb' => by have := h' b hb'; omega
  · rcases List.mem_append.mp hp with hp | hp
    · exact nl p hp
    · rw [List.mem_singleton.mp hp]; exact h.line
  · rw [List.length_append]
    omega
  · rcases List.mem_append.mp hr with hr | hr
    · exact rw' r hr
    · exact gm r hr
theorem Blt.bad {c : Int} {bs : List Int} {k : Nat} {ps : List Str} {rs : List (Nat × List Str)} {z : Str} (B : Blt bs k ps rs) (hs : Srt c bs) (hk : (k : Int) ∈ bs) (h : Spo z) :
    Blt bs (k + 1) (ps ++ [z]) rs := by
  obtain ⟨len, rows, nl, rl, rw'⟩ := B
  refine ⟨by simp [len], ?_, fun p hp => ?_, by omega, rw'⟩
  · rw [wr_app, rows, len, Nat.zero_add, wr_bad h.1]
    have no : ¬ ∀ b ∈ bs, ((k + 1 : Nat) : Int) ≤ b := fun h' => by have := h' _ hk; omega
    rw [if_neg no]
    by_cases hb : ∀ b ∈ bs, (k : Int) ≤ b
    · rw [if_pos hb]
      cases bs with
      | nil => cases hk
      | cons a r =>
        have a1 := hs.2.2 a r rfl _ hk
        have a2 := hb a List.mem_cons_self
        show Except.error (k + 1) = Except.error (a + 1).toNat
        rw [show a = (k : Int) by omega]
        congr 1
    · rw [if_neg hb]
  · rcases List.mem_append.mp hp with hp | hp
    · exact nl p hp
    · rw [List.mem_singleton.mp hp]; exact ⟨h.2.1, h.2.2⟩
/-- the whole text -/
theorem Blt.text {bs : List Int} {k : Nat} {ps : List Str} {rs : List (Nat × List Str)} {v : Int} (B : Blt bs k ps rs) (hk : k ≤ 400) (v0 : 0 ≤ v) (v1 : v < 3) :
    wr 0 (Txt.split (Txt.join (sgn 10) ps ++ repS (sgn 10) v) (sgn 10)) = wr 0 ps ∧ (Txt.join (sgn 10) ps ++ repS (sgn 10) v).length ≤ 3000000 := by
  have jl_rep : ∀ (m : Nat), List.replicate m 10 = jl 10 (List.replicate (m + 1) []) := by
    intro m
    induction m with
    | zero => rfl
    | succ m ih =>
      rw [List.replicate_succ, ih, List.replicate_succ (n := m + 1), jl_cons 10 _ (by simp)]
      rfl
  obtain ⟨len, rows, nl, rl, rw'⟩ := B
  constructor
  · have e : Txt.split (Txt.join (sgn 10) ps ++ repS (sgn 10) v) (sgn 10) = if ps = [] then List.replicate (v.toNat + 1) Str.empty else ps ++ List.replicate v.toNat Str.empty := by
      by_cases hp : ps = []
      · subst hp
        rw [if_pos rfl]
        refine split_of _ 10 (by simp) (fun p hp => by rw [List.eq_of_mem_replicate hp]; exact List.not_mem_nil) ?_
        rw [cs_app, cs_rep, cs_tjoin, List.map_replicate]
        show [] ++ _ = _
        rw [List.nil_append, jl_rep]
        rfl
      · rw [if_neg hp]
        refine split_of _ 10 (by simp [hp]) (fun p hp => ?_) ?_
        · rcases List.mem_append.mp hp with hp | hp
          · exact (nl p hp).1
          · rw [List.eq_of_mem_replicate hp]; exact List.not_mem_nil
        · rw [cs_app, cs_rep, cs_tjoin, List.map_append, List.map_replicate]
          by_cases hv : v.toNat = 0
          · rw [hv]; simp
          · rw [jl_app 10 (by simp [hp]) (by simp [hv])]
            obtain ⟨m, hm⟩ : ∃ m, v.toNat = m + 1 := ⟨v.toNat - 1, by omega⟩
            rw [hm, List.replicate_succ, jl_rep]
            rfl
    rw [e]
    by_cases hp : ps = []
    · subst hp
      rw [if_pos rfl, wr_empties]
      rfl
    · rw [if_neg hp, wr_app]
      cases wr 0 ps with
      | error e => rfl
      | ok rs => rw [wr_empties]; simp
  · rw [Str.length_append]
    have a := join_len 10 6000 ps fun p hp => (nl p hp).2
    have b : ps.length * 6001 ≤ 400 * 6001 := Nat.mul_le_mul_right _ (by omega)
    have c : (repS (sgn 10) v).length ≤ 3 := by
      rw [cs_len, cs_rep, List.length_replicate]
      omega
    omega
end Vp
set_option Elab.async false
set_option linter.all false
set_option maxRecDepth 100000
set_option maxHeartbeats 1000000
/-! V10: the drawn text. -/
namespace Vp
open PySem Mp Cf
section
variable {Γ : Gam} {hot : Bool} {wf n : Nat} {K : Rz → Prop}
abbrev wsD (ws : List Str) : D := .nd .lst (ws.map .str)
abbrev blS (c : Int) (ps : List Str) (rs : List (Nat × List Str)) (fr : List (List Str)) (bs : List Int) (k : Int) (o8 o9 o10 : Sl) : Sv :=
  [some (.sto, .fr), some (.int c, .fr), some (.nd .lst (ps.map .str), .dp), some (.nd .lst (rs.map rowD), .dp), some (.nd .lst (fr.map wsD), .dp), some (.nd .lst (bs.map .int), .dp), some (.int k, .fr), none, o8, o9, o10]
def bl1 : Ss := match b_law_built_1 with
  | .cons (.ite _ b _) _ => b
  | b => b
/-- drawn words -/
theorem words_co [Fn Γ 27 d_law_word] [Fn Γ 6 d_law_hit] [Fn Γ 12 d_law_name] {Q : QV} {v : Int} (v0 : 1 ≤ v) (v1 : v ≤ 6) (q : ∀ ws : List Str, ws ≠ [] → Ws ws → (∀ w ∈ ws, Tz 1 8 w) → Q (nw (.nd .lst (ws.map .str)) .dp)) :
    wCo (fun d x _ => x true) (fun d x x_1 => wCall Γ wf (n + 4) hot 27 [D.sto] (resQ false x x_1)) (rngD 0 v) [] true Q := by
  refine wCo_all (fun d => ∃ z, d = .str z ∧ Tz 1 8 z) (fun d ⟨z, e, _⟩ => by rw [e]; rfl) (fun x Qb h => h) _ [] (fun x hx Qv hq => ?_) (fun d h => (List.not_mem_nil h).elim) (by rw [rngD_len]; show 0 + _ ≤ 16777216; omega) fun ys h1 h2 => ?_
  · exact word_w fun z hz => by simpa using hq (.str z) ⟨z, rfl, hz⟩
  · rw [rngD_len] at h2
    simp at h2
    obtain ⟨ws, rfl, hw⟩ : ∃ ws : List Str, ys = ws.map .str ∧ ∀ w ∈ ws, Tz 1 8 w := by
      clear h2
      induction ys with
      | nil => exact ⟨[], rfl, fun w h => (List.not_mem_nil h).elim⟩
      | cons y ys ih =>
        obtain ⟨ws, e, hw⟩ := ih fun d hd => h1 d (List.mem_cons_of_mem _ hd)
        obtain ⟨z, ez, hz⟩ := h1 y List.mem_cons_self
        refine ⟨z :: ws, by rw [e, ez]; rfl, fun w hw' => ?_⟩
        rcases List.mem_cons.mp hw' with h | h
        · rw [h]; exact hz
        · exact hw w h
    rw [List.length_map] at h2
    exact q ws (fun e => by rw [e] at h2; simp at h2; omega) ⟨by omega, fun w h => ⟨(hw w h).1, Nat.le_trans (hw w h).2.1 (by decide), (hw w h).2.2⟩⟩ hw
theorem big_word {w : Str} {e : Int} (h : Tz 1 8 w) (e0 : 41 ≤ e) (e1 : e ≤ 200) : Ws [L2.cutS (repS w 200) none (some e)] := by
  refine ⟨by show 1 ≤ 6; decide, fun z hz => ?_⟩
  rw [List.mem_singleton.mp hz]
  obtain ⟨j, rfl⟩ : ∃ j : Nat, e = (j : Int) := ⟨e.toNat, by omega⟩
  have rl := rep_len (x := w) (n := 200) (by decide)
  have l1 := h.1
  have l2 := h.2.1
  have cl : (L2.cutS (repS w 200) none (some (j : Int))).length = min (min j (repS w 200).length) (repS w 200).length := by
    rw [cs_len, cs_cut, List.length_take, List.length_drop, HT.sIx_nat, HT.sIx_none, cs_len (repS w 200)]
    omega
  rw [rl] at cl
  refine ⟨by rw [cl]; show 1 ≤ min (min j (w.length * 200)) (w.length * 200); omega, by rw [cl]; show min (min j (w.length * 200)) (w.length * 200) ≤ 200; omega, fun a ha => h.2.2 a (mem_rep (mem_cut ha))⟩
theorem bl1_w [Fn Γ 27 d_law_word] [Fn Γ 6 d_law_hit] [Fn Γ 12 d_law_name] [Fn Γ 7 d_law_edge] {c k : Int} {ps : List Str} {rs : List (Nat × List Str)} {fr : List (List Str)} {bs : List Int} {o8 o9 o10 : Sl} {Q : QF} (hf : fr.length ≤ 1000)
    (q : ∀ ws o8 o9 o10, Ws ws → Q (.nx (blS c ps rs (fr ++ [ws]) bs k o8 o9 o10))) : wSs Γ wf (wCall Γ wf (n + 4)) hot bl1 (blS c ps rs fr bs k o8 o9 o10) Q := by
  simp [bl1, b_law_built_1, -wtake]
  rw [wtake]
  refine ⟨by decide, by decide, fun kd kd0 kd1 => ?_⟩
  simp [-wtake]
  rw [wtake]
  refine ⟨by decide, by decide, fun v v0 v1 => ?_⟩
  simp [-wtake, rngOk_of (i := 1 + v) (by omega) (by omega)]
  refine words_co (by omega) (by omega) fun ws hne hws h8 => ?_
  by_cases k0 : kd = 0
  · subst k0
    obtain ⟨w, ws', rfl⟩ : ∃ w ws', ws = w :: ws' := by
      cases ws with
      | nil => exact absurd rfl hne
      | cons w ws' => exact ⟨w, ws', rfl⟩
    have hw := h8 w List.mem_cons_self
    have hw2 := hw.2.1
    simp
    refine ⟨by omega, edge_w (by decide) (by decide) fun e e0 e1 => ?_⟩
    have rl : (repS w 200).length ≤ 16777216 := by
      rw [rep_len (by decide)]
      show w.length * 200 ≤ _
      omega
    simp [rl]
    refine ⟨by omega, ?_⟩
    have := q [L2.cutS (repS w 200) none (some e)] none (some (.int 0, .fr)) o10 (big_word hw e0 e1)
    simpa [blS, wsD] using this
  · by_cases k1 : kd = 1
    · simp [k0, k1]
      refine ⟨by omega, ?_⟩
      have := q [] none (some (.int 1, .fr)) o10 ⟨by decide, fun w h => (List.not_mem_nil h).elim⟩
      simpa [blS, wsD] using this
    · simp [k0, k1]
      refine ⟨by omega, ?_⟩
      have := q ws none (some (.int kd, .fr)) o10 hws
      simpa [blS, wsD] using this
/-- behind the drawn words -/
def bl2 : Ss := match b_law_built_1 with
  | .cons _ r => r
  | b => b
theorem bl2_w [Fn Γ 30 d_law_spoil_line] {c : Int} {k : Nat} {ps : List Str} {rs : List (Nat × List Str)} {fr : List (List Str)} {bs : List Int} {o8 o9 o10 : Sl} {Q : QF} (hk : k ≤ 400) (hf : k % 13 < fr.length) (hw : ∀ ws ∈ fr, Ws ws) (hp : ps.length = k) (hr : rs.length ≤ k)
    (q1 : (k : Int) ∈ bs → ∀ z, Spo z → ∀ o8 o9 o10, Q (.nx (blS c (ps ++ [z]) rs fr bs k o8 o9 o10))) (q2 : (k : Int) ∉ bs → ∀ ws, Ws ws → ∀ o8 o9 o10, Q (.nx (blS c (ps ++ [Txt.join (sgn 32) ws]) (rs ++ if ws = [] then [] else [(k + 1, ws)]) fr bs k o8 o9 o10))) : wSs Γ wf (wCall Γ wf (n + 4)) hot bl2 (blS c ps rs fr bs k o8 o9 o10) Q := by
  have ix : vIx ⟨.nd .lst (fr.map wsD), .dp, .p 4 []⟩ (sc (.int ((k : Int) % 13))) = some (sub ⟨.nd .lst (fr.map wsD), .dp, .p 4 []⟩ (k % 13) (wsD fr[k % 13])) := by
    rw [show (k : Int) % 13 = ((k % 13 : Nat) : Int) by omega]
    exact vIx_at (.inl rfl) (ixN_nat (by simpa using hf)) (by rw [List.getElem?_map, List.getElem?_eq_getElem hf]; rfl)
  have hws := hw _ (List.getElem_mem hf)
  generalize fr[k % 13] = ws at ix hws
  have wl := hws.1
  simp [bl2, b_law_built_1, ix, cpy_strs, ofS_blank]
  have le1 : (sgn 32).length = 1 := rfl
  have la : (PySem.Str.ofString "a").length = 1 := by decide +kernel
  have na : 10 ∉ cs (PySem.Str.ofString "a") := by decide +kernel
  have s1 := sum_len 200 ws fun w h => (hws.2 w h).2.1
  have s2 : ws.length * 201 ≤ 6 * 201 := Nat.mul_le_mul_right _ wl
  have wsa : ∀ w ∈ ws ++ [PySem.Str.ofString "a"], w.length ≤ 200 ∧ 10 ∉ cs w := by
    intro w h
    rcases List.mem_append.mp h with h | h
    · exact ⟨(hws.2 w h).2.1, fun hm => ((hws.2 w h).2.2 10 hm).2 rfl⟩
    · rw [List.mem_singleton.mp h]; exact ⟨by omega, na⟩
  by_cases hb : (k : Int) ∈ bs
  · simp [hb, cpy_strs]
    refine ⟨by omega, ?_⟩
    rw [show cpy ⟨.nd .lst [.str (PySem.Str.ofString "a")], .dp, .t []⟩ [.str (PySem.Str.ofString "a")] = some true from rfl, catF_some, show List.map D.str ws ++ [D.str (PySem.Str.ofString "a")] = (ws ++ [PySem.Str.ofString "a"]).map D.str by simp]
    generalize hv : ws ++ [PySem.Str.ofString "a"] = va at wsa ⊢
    have vl : va.length ≤ 7 := by rw [← hv]; simp; omega
    have s3 := sum_len 200 va fun w h => (wsa w h).1
    have s4 : va.length * 201 ≤ 7 * 201 := Nat.mul_le_mul_right _ vl
    have jl' := join_len 32 200 va fun w h => (wsa w h).1
    have jf : 10 ∉ cs (Txt.join (sgn 32) va) := join_free (by decide) fun w h => (wsa w h).2
    have cl := cutS_len (Txt.join (sgn 32) va) none (some 50)
    have c50 := cut_hi_len (Txt.join (sgn 32) va) 50
    have st := strip_sub (L2.cutS (Txt.join (sgn 32) va) none (some 50))
    simp [le1]
    refine ⟨by omega, by omega, by omega, ?_⟩
    refine spoil_w (Nat.le_trans st.1 c50) (fun h => jf (mem_cut (st.2 _ h))) fun z hz => ?_
    simp
    refine ⟨by omega, ?_⟩
    have := q1 hb z hz (some (.nd .lst (ws.map .str), .dp)) o9 o10
    simpa [blS, wsD] using this
  · simp [hb]
    refine ⟨by rw [le1]; omega, by omega, ?_⟩
    by_cases h0 : 0 < ws.length
    · have hne : ws ≠ [] := fun e => by rw [e] at h0; simp at h0
      simp [h0]
      refine ⟨by omega, ?_⟩
      have := q2 hb ws hws none o9 o10
      rw [if_neg hne] at this
      simpa [blS, wsD, rowD] using this
    · have hne : ws = [] := List.length_eq_zero_iff.mp (by omega)
      simp [h0]
      have := q2 hb ws hws (some (.nd .lst (ws.map .str), .dp)) o9 o10
      rw [if_pos hne, List.append_nil] at this
      simpa [blS, wsD, rowD] using this
theorem blt_go [Fn Γ 27 d_law_word] [Fn Γ 6 d_law_hit] [Fn Γ 12 d_law_name] [Fn Γ 7 d_law_edge] [Fn Γ 30 d_law_spoil_line] {c : Int} {bs : List Int} {Q : QF} {cc : Int} (hs : Srt cc bs) : ∀ (m k : Nat) (ps : List Str) (rs : List (Nat × List Str)) (fr : List (List Str)) (o6 o8 o9 o10 : Sl), k + m ≤ 399 → c = (k + m : Nat) → Blt bs k ps rs → fr.length = min k 13 → (∀ ws ∈ fr, Ws ws) →
    (∀ ps rs fr o6 o8 o9 o10, Blt bs (k + m) ps rs → Q (.nx ((blS c ps rs fr bs 0 o8 o9 o10).set 6 o6))) →
    wFor 6 (wSs Γ wf (wCall Γ wf (n + 4)) hot b_law_built_1) (rngD k c) ((blS c ps rs fr bs 0 o8 o9 o10).set 6 o6) Q
  | 0, k, ps, rs, fr, o6, o8, o9, o10, hk, hc, B, hl, hw, q => by
    rw [rngD_nil (by omega), wFor_nil]
    exact q ps rs fr o6 o8 o9 o10 B
  | m + 1, k, ps, rs, fr, o6, o8, o9, o10, hk, hc, B, hl, hw, q => by
    rw [rngD_cons (by omega)]
    refine wFor_turn fun T hT => ?_
    have next : ∀ ps rs fr o8 o9 o10, Blt bs (k + 1) ps rs → fr.length = min (k + 1) 13 → (∀ ws ∈ fr, Ws ws) → T (.nx (blS c ps rs fr bs k o8 o9 o10)) := by
      intro ps rs fr o8 o9 o10 B hl hw
      rw [hT, turnF_nx]
      have := blt_go (c := c) (bs := bs) (Q := Q) hs m (k + 1) ps rs fr (some (.int k, .fr)) o8 o9 o10 (by omega) (by rw [hc]; congr 1; omega) B hl hw (by rw [show k + 1 + m = k + (m + 1) by omega]; exact q)
      exact this
    have two : ∀ fr o8 o9 o10, fr.length = min (k + 1) 13 → (∀ ws ∈ fr, Ws ws) → wSs Γ wf (wCall Γ wf (n + 4)) hot bl2 (blS c ps rs fr bs k o8 o9 o10) T := by
      intro fr o8 o9 o10 hl hw
      refine bl2_w (by omega) (by rw [hl]; omega) hw B.len B.rl (fun hb z hz o8 o9 o10 => ?_) (fun hb ws hws o8 o9 o10 => ?_)
      · exact next _ _ _ _ _ _ (B.bad hs hb hz) hl hw
      · exact next _ _ _ _ _ _ (B.good hs hb hws) hl hw
    refine wSs_at (s := .ite (.cmp .lt (.var 6) (.cst (.int 13))) bl1 .nil) (r := bl2) rfl ?_
    show wS Γ wf (wCall Γ wf (n + 4)) hot _ (blS c ps rs fr bs k o8 o9 o10) _
    have hbl : ∀ {Q' : QF}, (((k : Int) < 13 → wSs Γ wf (wCall Γ wf (n + 4)) hot bl1 (blS c ps rs fr bs k o8 o9 o10) Q') ∧ (¬ (k : Int) < 13 → Q' (.nx (blS c ps rs fr bs k o8 o9 o10)))) → wS Γ wf (wCall Γ wf (n + 4)) hot (.ite (.cmp .lt (.var 6) (.cst (.int 13))) bl1 .nil) (blS c ps rs fr bs k o8 o9 o10) Q' := by
      intro Q' h
      by_cases h13 : (k : Int) < 13
      · have := h.1 h13
        revert this
        generalize bl1 = b
        intro this
        simp [h13]
        exact this
      · have := h.2 h13
        generalize bl1 = b
        simp [h13]
        exact this
    refine hbl ⟨fun h13 => ?_, fun h13 => ?_⟩
    · refine bl1_w (by omega) fun ws o8 o9 o10 hws => ?_
      rw [sqF_nx]
      refine two _ _ _ _ (by rw [List.length_append, hl]; show _ + 1 = _; omega) fun w hw' => ?_
      rcases List.mem_append.mp hw' with h | h
      · exact hw w h
      · rw [List.mem_singleton.mp h]; exact hws
    · rw [sqF_nx]
      exact two _ _ _ _ (by rw [hl]; omega) hw
/-- what is due -/
def dueD : Except Nat (List (Nat × List Str)) → D
  | .ok rs => .tup [.int 0, .lst (rs.map rowD)]
  | .error e => .tup [.int 1, .str (PySem.Str.ofString "BadLine"), .int e]
/-- the rows are few and short -/
def Few : Except Nat (List (Nat × List Str)) → Prop
  | .ok rs => rs.length ≤ 400 ∧ ∀ r ∈ rs, Ws r.2
  | .error _ => True
theorem built_w [Fn Γ 32 d_law_built] [Fn Γ 31 d_law_bads] [Fn Γ 27 d_law_word] [Fn Γ 6 d_law_hit] [Fn Γ 12 d_law_name] [Fn Γ 7 d_law_edge] [Fn Γ 30 d_law_spoil_line] {m : Nat} (hm : m ≤ 398)
    (q : ∀ z, z.length ≤ 3000000 → Few (wr 0 (Txt.split z (sgn 10))) → K (.ok (.tup [.str z, dueD (wr 0 (Txt.split z (sgn 10)))]) .dp)) : wCall Γ wf (n + 5) hot 32 [.sto, .int m] K := by
  refine wc ?_
  simp [d_law_built, startV, b_law_built]
  refine bads_w (by omega) (by omega) fun bs hs => ?_
  simp [rngOk_of (i := (m : Int)) (by omega) (by omega)]
  have := fun Q q => blt_go (Γ := Γ) (wf := wf) (n := n) (hot := hot) (c := (m : Int)) (bs := bs) (Q := Q) hs m 0 [] [] [] none none none none (by omega) (by rw [Nat.zero_add]) (Blt.nil hs) rfl (fun w h => (List.not_mem_nil h).elim) q
  refine this _ fun ps rs fr o6 o8 o9 o10 B => ?_
  rw [Nat.zero_add] at B
  simp [blS, -wtake, ofS_nl]
  have le1 : (sgn 10).length = 1 := rfl
  have s1 := sum_len 6000 ps fun w h => (B.nl w h).2
  have s2 : ps.length * 6001 ≤ 398 * 6001 := Nat.mul_le_mul_right _ (by rw [B.len]; exact hm)
  refine ⟨by rw [le1]; omega, ?_⟩
  rw [wtake]
  refine ⟨by decide, by decide, fun v v0 v1 => ?_⟩
  obtain ⟨tw, tlen⟩ := B.text (v := v) (by omega) v0 v1
  have tlen' : (Txt.join (sgn 10) ps).length + (repS (sgn 10) v).length ≤ 3000000 := by rw [← Str.length_append]; exact tlen
  have qq := q _ tlen
  rw [tw, B.rows] at qq
  cases bs with
  | nil =>
    rw [if_pos fun b h => (List.not_mem_nil h).elim] at qq
    have := qq ⟨by have := B.rl; omega, B.rw'⟩
    simp [le1]
    exact ⟨⟨by omega, by omega, by omega⟩, by omega, this⟩
  | cons a r =>
    have a0 := (hs.1 a List.mem_cons_self).1
    have a1 := (hs.1 a List.mem_cons_self).2
    rw [if_neg fun h => by have := h a List.mem_cons_self; omega] at qq
    have := qq trivial
    simp [le1]
    refine ⟨⟨by omega, by omega, by omega⟩, by omega, ?_⟩
    have e : (((a + 1).toNat : Nat) : Int) = a + 1 := by omega
    have t : dueD (Except.error ((a :: r).headD 0 + 1).toNat) = D.tup [.int 1, .str (PySem.Str.ofString "BadLine"), .int (a + 1)] := by
      show D.tup [.int 1, .str (PySem.Str.ofString "BadLine"), .int (((a + 1).toNat : Nat) : Int)] = _
      rw [e]
    rw [t] at this
    exact this
end
end Vp
set_option Elab.async false
set_option linter.all false
set_option maxRecDepth 100000
set_option maxHeartbeats 1000000
/-! V11: read; rows_right. -/
namespace Vp
open PySem Mp Cf
/-- what _law_read tells -/
def toldD : Except Nat (List (Nat × List Str)) → D
  | .ok rs => .tup [.int 0, .lst (rs.map rowD)]
  | .error e => .tup [.int 1, .lst [.str (PySem.Str.ofString "BadLine")], .int e]
section
variable {Γ : Gam} {hot : Bool} {wf n : Nat} {K : Rz → Prop}
theorem read_w [E : Ex Γ] [Fn Γ 33 d_law_read] [Fn Γ 23 d_word_rows] [Fn Γ 15 d_law_kinds] [Fn Γ 16 d_law_error] {z : Str} (hl : z.length ≤ 3000000) (q : K (.ok (toldD (wr 0 (Txt.split z (sgn 10)))) .dp)) : wCall Γ wf (n + 3) false 33 [.str z] K := by
  refine wc ?_
  simp [d_law_read, b_law_read, startV]
  refine word_rows_w (by omega) ?_
  cases e : wr 0 (Txt.split z (sgn 10)) with
  | ok rs =>
    rw [e] at q
    unfold wrK
    simp
    exact q
  | error j =>
    rw [e] at q
    unfold wrK
    simp [E.sub]
    refine ⟨⟨E.hc 14 (by decide), E.exc 14 (by decide)⟩, ?_⟩
    refine error_w (by decide) (by decide) rfl ?_
    have t : nmc 14 = PySem.Str.ofString "BadLine" := by decide +kernel
    rw [t]
    simp
    exact q
theorem plL_strs : ∀ l : List Str, plL (l.map .str) = true
  | [] => rfl
  | z :: l => by rw [List.map_cons]; unfold plL; rw [plL_strs l]; rfl
theorem pl_rows' : ∀ rs : List (Nat × List Str), plL (rs.map rowD) = true
  | [] => rfl
  | r :: rs => by
    rw [List.map_cons]
    unfold plL
    rw [pl_rows' rs, Bool.and_true]
    show (pl (.int r.1) && (plL (r.2.map .str) && true)) = true
    rw [plL_strs]
    rfl
theorem pl_rows (rs : List (Nat × List Str)) : pl (.nd .lst (rs.map rowD)) = true := pl_rows' rs
theorem szL_strs : ∀ l : List Str, szL (l.map .str) = l.length
  | [] => rfl
  | z :: l => by rw [List.map_cons]; unfold szL; rw [szL_strs l]; show 1 + _ = l.length + 1; omega
theorem sz_rows' : ∀ rs : List (Nat × List Str), (∀ r ∈ rs, Ws r.2) → szL (rs.map rowD) ≤ rs.length * 20
  | [], _ => Nat.le_refl _
  | r :: rs, h => by
    have a := sz_rows' rs fun x hx => h x (List.mem_cons_of_mem _ hx)
    have b := (h r List.mem_cons_self).1
    rw [List.map_cons]
    unfold szL
    have e : sz (rowD r) = 1 + (1 + ((1 + r.2.length) + 0)) := by
      show 1 + (1 + ((1 + szL (r.2.map .str)) + 0)) = _
      rw [szL_strs]
    rw [e, List.length_cons]
    omega
theorem sz_rows (rs : List (Nat × List Str)) (h : rs.length ≤ 400 ∧ ∀ r ∈ rs, Ws r.2) : sz (.nd .lst (rs.map rowD)) < 190000 := by
  have := sz_rows' rs h.2
  show 1 + szL _ < _
  omega
theorem meets_w [Fn Γ 17 d_law_meets] [Fn Γ 10 d_law_same] [Fn Γ 9 d_law_same_flat] [Fn Γ 8 d_law_isnumber] {r : Except Nat (List (Nat × List Str))} (hf : Few r) (q : K (.ok (.bl true) .fr)) : wCall Γ wf (n + 4) hot 17 [toldD r, dueD r] K := by
  cases r with
  | ok rs => exact meets0_w (pl_rows rs) (sz_rows rs hf) q
  | error e => exact meets1_w (by decide +kernel) rfl rfl q
/-- a row that may be spoilt -/
abbrev rr (x : D) : Prop := ∃ (v : Int) (ws : List Str), x = .tup [.int v, .lst (ws.map .str)] ∧ ws.length ≤ 6
theorem rr_go {kk : Cl} {z : Str} {t1 : Sl} {Q : QF} : ∀ (m i : Nat) (xs : List D) (o3 o5 : Sl), i + m = xs.length → (∀ j x, i ≤ j → xs[j]? = some x → rr x) → o5 = none ∨ (∃ l g, o5 = some (.nd .lst l, g)) → (∀ xs' o3 o5, xs'.length = xs.length → Q (.nx [some (.str z, .fr), t1, some (.nd .tup [.int 0, .nd .lst xs'], .dp), o3, none, o5])) →
    wFor 3 (wSs Γ wf kk false b_law_rows_right_1) (rngD (i : Int) ((i + m : Nat) : Int)) [some (.str z, .fr), t1, some (.nd .tup [.int 0, .nd .lst xs], .dp), o3, none, o5] Q
  | 0, i, xs, o3, o5, hl, hx, ho, q => by
    rw [rngD_nil (by omega), wFor_nil]
    exact q xs o3 o5 rfl
  | m + 1, i, xs, o3, o5, hl, hx, ho, q => by
    rw [rngD_cons (by omega)]
    refine wFor_turn fun T hT => ?_
    have hi : i < xs.length := by omega
    obtain ⟨v, ws, e, hw⟩ := hx i xs[i] (Nat.le_refl _) (List.getElem?_eq_getElem hi)
    have ix : ∀ p, vIx ⟨.nd .lst xs, .dp, .p 2 p⟩ (sc (.int (i : Int))) = some (sub ⟨.nd .lst xs, .dp, .p 2 p⟩ i (.tup [.int v, .lst (ws.map .str)])) := by
      intro p
      refine vIx_at (.inl rfl) (ixN_nat hi) ?_
      rw [List.getElem?_eq_getElem hi, e]
    simp [b_law_rows_right_1, ix]
    refine ⟨by omega, ?_⟩
    rw [hT, turnF_nx]
    generalize putP (xs[i]?.getD D.hole) [1] D.hole = y
    have := rr_go (kk := kk) (z := z) (t1 := t1) (Q := Q) m (i + 1) (xs.set i y) (some (.int i, .fr)) (some (D.nd Kd.lst (List.map D.str ws ++ [D.str (PySem.Str.ofString "x")]), .dp)) (by rw [List.length_set]; omega) (fun j x hj h => hx j x (by omega) (by rw [List.getElem?_set_ne (by omega)] at h; exact h)) (.inr ⟨_, _, rfl⟩) (fun xs' o3 o5 h => q xs' o3 o5 (by rw [List.length_set] at h; exact h))
    rw [show i + 1 + m = i + (m + 1) by omega] at this
    exact this
theorem rows_right_w [E : Ex Γ] [Fn Γ 34 d_law_rows_right] [Fn Γ 33 d_law_read] [Fn Γ 23 d_word_rows] [Fn Γ 15 d_law_kinds] [Fn Γ 16 d_law_error] [Fn Γ 17 d_law_meets] [Fn Γ 10 d_law_same] [Fn Γ 9 d_law_same_flat] [Fn Γ 8 d_law_isnumber] {z : Str} (hl : z.length ≤ 3000000) (hf : Few (wr 0 (Txt.split z (sgn 10)))) (q : K (.ok (.bl true) .fr)) : wCall Γ wf (n + 5) false 34 [.str z, dueD (wr 0 (Txt.split z (sgn 10)))] K := by
  refine wc ?_
  simp [d_law_rows_right, b_law_rows_right, startV]
  refine read_w hl ?_
  have again : ∀ {K' : Rz → Prop}, K' (.ok (toldD (wr 0 (Txt.split z (sgn 10)))) .dp) → wCall Γ wf (n + 4) false 33 [.str z] K' := fun q => read_w (n := n + 1) hl q
  generalize wr 0 (Txt.split z (sgn 10)) = r at hf again ⊢
  cases r with
  | error e =>
    simp [toldD, dueD]
    refine meets_w (r := .error e) trivial ?_
    simp
    refine again ?_
    simp [toldD]
    refine meets_w (r := .error e) trivial ?_
    simpa using q
  | ok rs =>
    simp [toldD, dueD]
    refine meets_w (r := .ok rs) hf ?_
    simp
    have go := fun Q q => rr_go (kk := wCall Γ wf (n + 4)) (Γ := Γ) (wf := wf) (z := z) (t1 := some (D.tup [D.int 0, D.lst (List.map rowD rs)], Fg.fr)) (Q := Q) rs.length 0 (rs.map rowD) none none (by simp) (fun j x _ h => by
      rw [List.getElem?_map] at h
      cases e : rs[j]? with
      | none => rw [e] at h; cases h
      | some r =>
        rw [e] at h
        injection h with h
        exact ⟨r.1, r.2, h.symm, (hf.2 r (List.mem_of_getElem? e)).1⟩) (.inl rfl) q
    have f1 := hf.1
    refine ⟨rngOk_of (by omega) (by omega), ?_⟩
    have g2 := fun Q q => go Q q
    simp only [Nat.zero_add] at g2
    refine g2 _ fun xs' o3 o5 hl' => ?_
    simp
    rw [List.length_map] at hl'
    refine ⟨by omega, again ?_⟩
    simp [toldD]
    refine meets_w (r := .ok rs) hf ?_
    simpa using q
end
end Vp
set_option Elab.async false
set_option linter.all false
set_option maxRecDepth 100000
set_option maxHeartbeats 1000000
/-! V12: the law. -/
namespace Vp
open PySem Mp Cf
section
variable {Γ : Gam} {wf n : Nat} {K : Rz → Prop}
def lawR : Ss := match b_law_v1 with
  | .cons _ r => r
  | r => r
theorem ends_go [E : Ex Γ] [Gl Γ 3 (.str D10s)] [Gl Γ 4 (.int 6)] [Fn Γ 24 d_are_digits] [Fn Γ 25 d_read_number] [Fn Γ 29 d_law_read_numeral] [Fn Γ 36 d_law_number_right] [Fn Γ 37 d_law_ends] [Fn Γ 35 d_law_numerals] [Fn Γ 28 d_law_numeral] [Fn Γ 26 d_law_whole]
    [Fn Γ 32 d_law_built] [Fn Γ 31 d_law_bads] [Fn Γ 27 d_law_word] [Fn Γ 6 d_law_hit] [Fn Γ 12 d_law_name] [Fn Γ 7 d_law_edge] [Fn Γ 30 d_law_spoil_line]
    [Fn Γ 34 d_law_rows_right] [Fn Γ 33 d_law_read] [Fn Γ 23 d_word_rows] [Fn Γ 15 d_law_kinds] [Fn Γ 16 d_law_error] [Fn Γ 17 d_law_meets] [Fn Γ 10 d_law_same] [Fn Γ 9 d_law_same_flat] [Fn Γ 8 d_law_isnumber] {t1 t2 t3 t4 : Sl} {z : Str} {Q : QF} (hz : z.length ≤ 1000) : ∀ (xs : List D) (o6 : Sl), (∀ x ∈ xs, IP x) → (∀ o6, Q (.nx [none, t1, t2, t3, t4, some (.str z, .fr), o6])) →
    wFor 6 (wSs Γ wf (wCall Γ wf (n + 8)) false b_law_v1_2) xs [none, t1, t2, t3, t4, some (.str z, .fr), o6] Q
  | [], o6, hx, q => by rw [wFor_nil]; exact q o6
  | x :: xs, o6, hx, q => by
    obtain ⟨a, b, rfl⟩ := hx x List.mem_cons_self
    refine wFor_turn fun T hT => ?_
    simp [b_law_v1_2]
    refine number_right_w (n := n + 4) (by omega) ?_
    simp
    rw [hT, turnF_nx]
    exact ends_go hz xs _ (fun y hy => hx y (List.mem_cons_of_mem _ hy)) q
theorem nums_go [E : Ex Γ] [Gl Γ 3 (.str D10s)] [Gl Γ 4 (.int 6)] [Fn Γ 24 d_are_digits] [Fn Γ 25 d_read_number] [Fn Γ 29 d_law_read_numeral] [Fn Γ 36 d_law_number_right] [Fn Γ 37 d_law_ends] [Fn Γ 35 d_law_numerals] [Fn Γ 28 d_law_numeral] [Fn Γ 26 d_law_whole]
    [Fn Γ 32 d_law_built] [Fn Γ 31 d_law_bads] [Fn Γ 27 d_law_word] [Fn Γ 6 d_law_hit] [Fn Γ 12 d_law_name] [Fn Γ 7 d_law_edge] [Fn Γ 30 d_law_spoil_line]
    [Fn Γ 34 d_law_rows_right] [Fn Γ 33 d_law_read] [Fn Γ 23 d_word_rows] [Fn Γ 15 d_law_kinds] [Fn Γ 16 d_law_error] [Fn Γ 17 d_law_meets] [Fn Γ 10 d_law_same] [Fn Γ 9 d_law_same_flat] [Fn Γ 8 d_law_isnumber] {t2 t3 t4 : Sl} {Q : QF} : ∀ (xs : List Str) (o5 o6 : Sl), Sh 100 xs → (∀ o5 o6, Q (.nx [none, some (.sto, .fr), t2, t3, t4, o5, o6])) →
    wFor 5 (wSs Γ wf (wCall Γ wf (n + 8)) false b_law_v1_1) (xs.map .str) [none, some (.sto, .fr), t2, t3, t4, o5, o6] Q
  | [], o5, o6, hx, q => by rw [List.map_nil, wFor_nil]; exact q o5 o6
  | z :: xs, o5, o6, hx, q => by
    rw [List.map_cons]
    have hz := hx z List.mem_cons_self
    refine wFor_turn fun T hT => ?_
    have fin : ∀ o6, T (.nx [none, some (.sto, .fr), t2, t3, t4, some (.str z, .fr), o6]) := by
      intro o6
      rw [hT, turnF_nx]
      exact nums_go xs _ _ (fun y hy => hx y (List.mem_cons_of_mem _ hy)) q
    simp [b_law_v1_1]
    refine ends_w (n := n + 4) (by omega) fun ys hy hl => ⟨?_, ?_⟩
    · simp
      exact ends_go (by omega) ys _ hy fun o6 => by simpa using fin o6
    · simp
      exact ends_go (by omega) ys _ hy fun o6 => by simpa using fin o6
theorem law4_w [E : Ex Γ] [Gl Γ 3 (.str D10s)] [Gl Γ 4 (.int 6)] [Fn Γ 24 d_are_digits] [Fn Γ 25 d_read_number] [Fn Γ 29 d_law_read_numeral] [Fn Γ 36 d_law_number_right] [Fn Γ 37 d_law_ends] [Fn Γ 35 d_law_numerals] [Fn Γ 28 d_law_numeral] [Fn Γ 26 d_law_whole]
    [Fn Γ 32 d_law_built] [Fn Γ 31 d_law_bads] [Fn Γ 27 d_law_word] [Fn Γ 6 d_law_hit] [Fn Γ 12 d_law_name] [Fn Γ 7 d_law_edge] [Fn Γ 30 d_law_spoil_line]
    [Fn Γ 34 d_law_rows_right] [Fn Γ 33 d_law_read] [Fn Γ 23 d_word_rows] [Fn Γ 15 d_law_kinds] [Fn Γ 16 d_law_error] [Fn Γ 17 d_law_meets] [Fn Γ 10 d_law_same] [Fn Γ 9 d_law_same_flat] [Fn Γ 8 d_law_isnumber] {m : Nat} (hm : m ≤ 398) {o3 : Sl} :
    wSs Γ wf (wCall Γ wf (n + 8)) false (tl 3 lawR) [none, some (.sto, .fr), some (.int m, .fr), o3, none, none, none] (endV fun r => ∃ g, r = .ok (.bl true) g) := by
  simp [tl, lawR, b_law_v1]
  refine built_w (n := n + 3) hm fun z hz hf => ?_
  have again : ∀ {K' : Rz → Prop}, K' (.ok (.bl true) .fr) → wCall Γ wf (n + 8) false 34 [.str z, dueD (wr 0 (Txt.split z (sgn 10)))] K' := fun q => rows_right_w (n := n + 3) hz hf q
  generalize wr 0 (Txt.split z (sgn 10)) = r at again
  cases r with
  | ok rs =>
    simp [dueD] at again ⊢
    refine again ?_
    simp
    refine numerals_w (n := n + 3) fun l hl => ?_
    simp
    refine nums_go l _ _ hl fun o5 o6 => ?_
    simp
    exact again (by simp)
  | error e =>
    simp [dueD] at again ⊢
    refine again ?_
    simp
    refine numerals_w (n := n + 3) fun l hl => ?_
    simp
    refine nums_go l _ _ hl fun o5 o6 => ?_
    simp
    exact again (by simp)
theorem first_w [Fn Γ 7 d_law_edge] {r : Ss} {Q : QF} (q : ∀ c : Int, 0 ≤ c → c ≤ 9 → wSs Γ wf (wCall Γ wf (n + 8)) false r [none, some (.sto, .fr), some (.int c, .fr), none, none, none, none] Q) :
    wS Γ wf (wCall Γ wf (n + 8)) false (.asg 2 (.call 7 (.cons (.var 1) (.cons (.cst (.int (0))) (.cons (.cst (.int (9))) .nil))))) [none, some (.sto, .fr), none, none, none, none, none] (sqF (wSs Γ wf (wCall Γ wf (n + 8)) false r) Q) := by
  simp
  refine edge_w (by decide) (by decide) fun c c0 c1 => ?_
  simpa using q c c0 c1
theorem second_w {r : Ss} {Q : QF} {c : Int} (q : ∀ v : Int, 0 ≤ v → v < 120 → wSs Γ wf (wCall Γ wf (n + 8)) false r [none, some (.sto, .fr), some (.int c, .fr), some (.int v, .fr), none, none, none] Q) :
    wS Γ wf (wCall Γ wf (n + 8)) false (.asg 3 (.call 5 (.cons (.var 1) (.cons (.cst (.int (120))) .nil)))) [none, some (.sto, .fr), some (.int c, .fr), none, none, none, none] (sqF (wSs Γ wf (wCall Γ wf (n + 8)) false r) Q) := by
  simp
  exact q
theorem third_w {r : Ss} {Q : QF} {c v : Int} (c0 : 0 ≤ c) (c1 : c ≤ 9) (q : ∀ (m : Nat) (o3 : Sl), m ≤ 398 → wSs Γ wf (wCall Γ wf (n + 8)) false r [none, some (.sto, .fr), some (.int m, .fr), o3, none, none, none] Q) :
    wS Γ wf (wCall Γ wf (n + 8)) false (.ite (.cmp .lt (.var 3) (.cst (.int (15))))
    (.cons (.asg 2 (.bin .add (.cst (.int (10))) (.call 5 (.cons (.var 1) (.cons (.cst (.int (50))) .nil)))))
     .nil)
    (.cons (.ite (.cmp .lt (.var 3) (.cst (.int (19))))
      (.cons (.asg 2 (.bin .add (.cst (.int (396))) (.call 5 (.cons (.var 1) (.cons (.cst (.int (3))) .nil)))))
       .nil)
      .nil)
     .nil)) [none, some (.sto, .fr), some (.int c, .fr), some (.int v, .fr), none, none, none] (sqF (wSs Γ wf (wCall Γ wf (n + 8)) false r) Q) := by
  have key : ∀ i : Int, 0 ≤ i → i ≤ 398 → ∀ o3, wSs Γ wf (wCall Γ wf (n + 8)) false r [none, some (.sto, .fr), some (.int i, .fr), o3, none, none, none] Q := by
    intro i i0 i1 o3
    have := q i.toNat o3 (by omega)
    rw [show ((i.toNat : Nat) : Int) = i by omega] at this
    exact this
  by_cases h1 : v < 15
  · simp [h1]
    exact fun u u0 u1 => key _ (by omega) (by omega) _
  · by_cases h2 : v < 19
    · simp [h1, h2]
      exact fun u u0 u1 => key _ (by omega) (by omega) _
    · simp [h1, h2]
      exact key _ c0 (by omega) _
theorem law_plain [E : Ex Γ] [Gl Γ 3 (.str D10s)] [Gl Γ 4 (.int 6)] [Fn Γ 24 d_are_digits] [Fn Γ 25 d_read_number] [Fn Γ 29 d_law_read_numeral] [Fn Γ 36 d_law_number_right] [Fn Γ 37 d_law_ends] [Fn Γ 35 d_law_numerals] [Fn Γ 28 d_law_numeral] [Fn Γ 26 d_law_whole]
    [Fn Γ 32 d_law_built] [Fn Γ 31 d_law_bads] [Fn Γ 27 d_law_word] [Fn Γ 6 d_law_hit] [Fn Γ 12 d_law_name] [Fn Γ 7 d_law_edge] [Fn Γ 30 d_law_spoil_line]
    [Fn Γ 34 d_law_rows_right] [Fn Γ 33 d_law_read] [Fn Γ 23 d_word_rows] [Fn Γ 15 d_law_kinds] [Fn Γ 16 d_law_error] [Fn Γ 17 d_law_meets] [Fn Γ 10 d_law_same] [Fn Γ 9 d_law_same_flat] [Fn Γ 8 d_law_isnumber] :
    wSs Γ wf (wCall Γ wf (n + 8)) false lawR [none, some (.sto, .fr), none, none, none, none, none] (endV fun r => ∃ g, r = .ok (.bl true) g) := by
  refine wSs_at (r := tl 1 lawR) rfl (first_w fun c c0 c1 => ?_)
  refine wSs_at (r := tl 2 lawR) rfl (second_w fun v v0 v1 => ?_)
  refine wSs_at (r := tl 3 lawR) rfl (third_w c0 c1 fun m o3 hm => ?_)
  exact law4_w hm
end
end Vp
set_option Elab.async false
set_option linter.all false
set_option maxRecDepth 100000
set_option maxHeartbeats 0
namespace K01
open Mp Cf
def fnL : List (Nat × FnD) := [(23, d_word_rows), (24, d_are_digits), (25, d_read_number), (2, d_law_mix), (3, d_law_store), (4, d_law_load), (5, d_law_take), (6, d_law_hit), (7, d_law_edge), (26, d_law_whole), (8, d_law_isnumber), (9, d_law_same_flat), (10, d_law_same), (12, d_law_name), (27, d_law_word), (28, d_law_numeral), (29, d_law_read_numeral), (30, d_law_spoil_line), (15, d_law_kinds), (16, d_law_error), (17, d_law_meets), (31, d_law_bads), (32, d_law_built), (33, d_law_read), (34, d_law_rows_right), (35, d_law_numerals), (36, d_law_number_right), (37, d_law_ends), (38, d_law_v1)]
def glL : List (Nat × W) := [(3, (.str (PySem.Str.ofString "0123456789"))), (4, (.int (6)))]
def clL : List (Nat × PySem.Str) := [(0, PySem.Str.ofString "ClosedError"), (1, PySem.Str.ofString "BadName"), (2, PySem.Str.ofString "BadRooms"), (3, PySem.Str.ofString "BadNumber"), (4, PySem.Str.ofString "Double"), (5, PySem.Str.ofString "TooMany"), (6, PySem.Str.ofString "NoPlace"), (7, PySem.Str.ofString "NoArrow"), (8, PySem.Str.ofString "NoThing"), (9, PySem.Str.ofString "NoPrice"), (10, PySem.Str.ofString "NoRing"), (11, PySem.Str.ofString "Loop"), (12, PySem.Str.ofString "BadWay"), (13, PySem.Str.ofString "NoRoom"), (14, PySem.Str.ofString "BadLine"), (15, PySem.Str.ofString "NotPossible"), (16, PySem.Str.ofString "NotBarred"), (17, PySem.Str.ofString "NotClean"), (18, PySem.Str.ofString "SearchFull"), (19, PySem.Str.ofString "BadPlan"), (20, PySem.Str.ofString "Busy"), (21, PySem.Str.ofString "BadEvent"), (22, PySem.Str.ofString "WrongNet")]
def supL : List (Nat × List Nat) := [(0, [0]), (1, [1, 0]), (2, [2, 0]), (3, [3, 0]), (4, [4, 0]), (5, [5, 0]), (6, [6, 0]), (7, [7, 0]), (8, [8, 0]), (9, [9, 0]), (10, [10, 0]), (11, [11, 0]), (12, [12, 0]), (13, [13, 0]), (14, [14, 0]), (15, [15, 0]), (16, [16, 0]), (17, [17, 0]), (18, [18, 0]), (19, [19, 0]), (20, [20, 0]), (21, [21, 0]), (22, [22, 0])]
def excL : List Nat := [0, 1, 2, 3, 4, 5, 6, 7, 8, 9, 10, 11, 12, 13, 14, 15, 16, 17, 18, 19, 20, 21, 22]
def Γ : Gam := ⟨fun f => fnL.lookup f, fun g => glL.lookup g, fun c => (clL.lookup c).isSome, fun c => excL.contains c, fun c d => ((supL.lookup c).getD []).contains d, fun c t => excL.contains c && ["ValueError", "Exception", "BaseException", "object"].contains t, ["ValueError"]⟩
def nm : Nm := ⟨[(23, PySem.Str.ofString "word_rows"), (24, PySem.Str.ofString "are_digits"), (25, PySem.Str.ofString "read_number"), (2, PySem.Str.ofString "_law_mix"), (3, PySem.Str.ofString "_law_store"), (4, PySem.Str.ofString "_law_load"), (5, PySem.Str.ofString "_law_take"), (6, PySem.Str.ofString "_law_hit"), (7, PySem.Str.ofString "_law_edge"), (26, PySem.Str.ofString "_law_whole"), (8, PySem.Str.ofString "_law_isnumber"), (9, PySem.Str.ofString "_law_same_flat"), (10, PySem.Str.ofString "_law_same"), (12, PySem.Str.ofString "_law_name"), (27, PySem.Str.ofString "_law_word"), (28, PySem.Str.ofString "_law_numeral"), (29, PySem.Str.ofString "_law_read_numeral"), (30, PySem.Str.ofString "_law_spoil_line"), (15, PySem.Str.ofString "_law_kinds"), (16, PySem.Str.ofString "_law_error"), (17, PySem.Str.ofString "_law_meets"), (31, PySem.Str.ofString "_law_bads"), (32, PySem.Str.ofString "_law_built"), (33, PySem.Str.ofString "_law_read"), (34, PySem.Str.ofString "_law_rows_right"), (35, PySem.Str.ofString "_law_numerals"), (36, PySem.Str.ofString "_law_number_right"), (37, PySem.Str.ofString "_law_ends"), (38, PySem.Str.ofString "law")], clL, [(3, PySem.Str.ofString "DIGITS"), (4, PySem.Str.ofString "MOST_DIGITS")], [15, 16], [PySem.Str.ofString "ValueError", PySem.Str.ofString "abs", PySem.Str.ofString "bool", PySem.Str.ofString "int", PySem.Str.ofString "isinstance", PySem.Str.ofString "len", PySem.Str.ofString "list", PySem.Str.ofString "max", PySem.Str.ofString "min", PySem.Str.ofString "range", PySem.Str.ofString "sorted", PySem.Str.ofString "str", PySem.Str.ofString "tuple"]⟩
def Ns : List (Nat × List PySem.Str) := [(23, N_word_rows), (24, N_are_digits), (25, N_read_number), (2, N_law_mix), (3, N_law_store), (4, N_law_load), (5, N_law_take), (6, N_law_hit), (7, N_law_edge), (26, N_law_whole), (8, N_law_isnumber), (9, N_law_same_flat), (10, N_law_same), (12, N_law_name), (27, N_law_word), (28, N_law_numeral), (29, N_law_read_numeral), (30, N_law_spoil_line), (15, N_law_kinds), (16, N_law_error), (17, N_law_meets), (31, N_law_bads), (32, N_law_built), (33, N_law_read), (34, N_law_rows_right), (35, N_law_numerals), (36, N_law_number_right), (37, N_law_ends), (38, N_law_v1)]
abbrev lawIx : Nat := 38
instance : Vp.Fn Γ 23 d_word_rows := ⟨rfl⟩
instance : Vp.Fn Γ 24 d_are_digits := ⟨rfl⟩
instance : Vp.Fn Γ 25 d_read_number := ⟨rfl⟩
instance : Vp.Fn Γ 2 d_law_mix := ⟨rfl⟩
instance : Vp.Fn Γ 3 d_law_store := ⟨rfl⟩
instance : Vp.Fn Γ 4 d_law_load := ⟨rfl⟩
instance : Vp.Fn Γ 5 d_law_take := ⟨rfl⟩
instance : Vp.Fn Γ 6 d_law_hit := ⟨rfl⟩
instance : Vp.Fn Γ 7 d_law_edge := ⟨rfl⟩
instance : Vp.Fn Γ 26 d_law_whole := ⟨rfl⟩
instance : Vp.Fn Γ 8 d_law_isnumber := ⟨rfl⟩
instance : Vp.Fn Γ 9 d_law_same_flat := ⟨rfl⟩
instance : Vp.Fn Γ 10 d_law_same := ⟨rfl⟩
instance : Vp.Fn Γ 12 d_law_name := ⟨rfl⟩
instance : Vp.Fn Γ 27 d_law_word := ⟨rfl⟩
instance : Vp.Fn Γ 28 d_law_numeral := ⟨rfl⟩
instance : Vp.Fn Γ 29 d_law_read_numeral := ⟨rfl⟩
instance : Vp.Fn Γ 30 d_law_spoil_line := ⟨rfl⟩
instance : Vp.Fn Γ 15 d_law_kinds := ⟨rfl⟩
instance : Vp.Fn Γ 16 d_law_error := ⟨rfl⟩
instance : Vp.Fn Γ 17 d_law_meets := ⟨rfl⟩
instance : Vp.Fn Γ 31 d_law_bads := ⟨rfl⟩
instance : Vp.Fn Γ 32 d_law_built := ⟨rfl⟩
instance : Vp.Fn Γ 33 d_law_read := ⟨rfl⟩
instance : Vp.Fn Γ 34 d_law_rows_right := ⟨rfl⟩
instance : Vp.Fn Γ 35 d_law_numerals := ⟨rfl⟩
instance : Vp.Fn Γ 36 d_law_number_right := ⟨rfl⟩
instance : Vp.Fn Γ 37 d_law_ends := ⟨rfl⟩
instance : Vp.Fn Γ 38 d_law_v1 := ⟨rfl⟩
instance : Vp.Gl Γ 3 (.str (PySem.Str.ofString "0123456789")) := ⟨rfl⟩
instance : Vp.Gl Γ 4 (.int (6)) := ⟨rfl⟩
end K01
namespace K01
open PySem Mp Cf
abbrev P : Program := PySem.Challenge.pw_closedfull_k01_words_and_numbers
theorem chk : defsB nm Γ Ns (topDefs P) = true := by decide +kernel
theorem chkI : iniB (clsInit P).2 = true := by decide +kernel
end K01
set_option Elab.async false
set_option linter.all false
set_option maxRecDepth 100000
set_option maxHeartbeats 0
namespace K01
open PySem PySem.W Mp PyProof.Rows
abbrev R : PySem.W.OpenRow := PySem.W.OpenLaw.row PySem.Challenge.rw_closedfull_k01_words_and_numbers
abbrev iL : Nat := P.main.body.length - 1
def loo : List Str := (P.main.scope.names.map (·.1)).filter fun x => decide (x ≠ "law")
abbrev fnD : List He.DefD := (topDefs P).map dOf ++ [iniD P]
abbrev hk : PySem.W.Hook := hkP 5 P nm Γ
def ob (s : PySem.W.SharedT) : He.AlX := He.obsX 5 [] fnD [] [] (exB nm Γ (clsInit P).1) (HandSHeadRun.getT s)
theorem ob_eq (s : PySem.W.SharedT) : ob s = hk.obs s.abs := He.obsX_eq (HandSHeadRun.getT_eq s)
theorem run (w : World) : HandSHeadRun.RunEq R (PySem.W.view R.prog [iL]) hk ob 20000 loo w := by
  intro os
  kernel_rfl
end K01
set_option Elab.async false
set_option linter.all false
set_option maxRecDepth 100000
set_option maxHeartbeats 0
namespace K01
open PySem Mp Cf Vp
theorem pre : Pre Γ := ⟨rfl, rfl, rfl, rfl⟩
/-- bounds of draws, callees first -/
def btL : List (Nat × Nat) := fnL.foldl (fun acc fd => (fd.1, if fd.1 = 5 then 1 else bSs (fun f => (acc.lookup f).getD 0) 10 fd.2.body) :: acc) []
def bt (f : Nat) : Nat := (btL.lookup f).getD 0
def btOk (fd : Nat × FnD) : Bool := decide (fd.1 = 2 ∨ fd.1 = 3 ∨ fd.1 = 4) || (decide (fd.1 = 5) || decide (bSs bt 10 fd.2.body ≤ bt fd.1))
theorem bt_ok : fnL.all btOk = true := by decide +kernel
theorem lk : ∀ (l : List (Nat × FnD)) (f : Nat) (d : FnD), l.lookup f = some d → (f, d) ∈ l
  | [], _, _, h => by cases h
  | (a, b) :: l, f, d, h => by
    rw [List.lookup_cons] at h
    by_cases e : f == a
    · rw [e] at h
      injection h with h
      rw [h, eq_of_beq e]
      exact List.mem_cons_self
    · rw [Bool.eq_false_iff.mpr e] at h
      exact List.mem_cons_of_mem _ (lk l f d h)
theorem bnd : Bnd Γ 10 bt := ⟨by decide +kernel, fun f d h h1 h2 => by
  have := List.all_eq_true.mp bt_ok (f, d) (lk fnL f d h)
  unfold btOk at this
  rw [Bool.or_eq_true, Bool.or_eq_true] at this
  rcases this with a | a | a
  · exact absurd (of_decide_eq_true a) h1
  · exact absurd (of_decide_eq_true a) h2
  · exact of_decide_eq_true a⟩
instance : Ex Γ where
  hc := by decide +kernel
  exc := by decide +kernel
  sub := fun c d hc hd => by
    have : ∀ c, c < 23 → ∀ d, d < 23 → Γ.sub c d = (c == d || d == 0) := by decide +kernel
    exact this c hc d hd
  ty := by decide +kernel
  tys := by decide +kernel
theorem plain (ns : List Int) (hl : ns.length ≤ 63) : ∃ h', call Γ 10 (30 + 1) lawIx [.ref 0] [.frl (ns.map W.int)] = some (.ok (.bl true), h') :=
  law_top (n := 29) (rest := lawR) pre bnd rfl rfl rfl rfl (by decide +kernel) hl (law_plain (n := 22))
end K01
set_option Elab.async false
set_option linter.all false
set_option maxRecDepth 100000
set_option maxHeartbeats 0
open PySem PySem.W PySem.Calls PyProof.Rows
theorem PySem.Challenge.cw_closedfull_k01_words_and_numbers_holds : PySem.Challenge.rw_closedfull_k01_words_and_numbers.Holds := by
  w_on; o_law
  refine HandSHeadRun.head_any (r := OpenLaw.row PySem.Challenge.rw_closedfull_k01_words_and_numbers) (q := view (OpenLaw.row PySem.Challenge.rw_closedfull_k01_words_and_numbers).prog [K01.iL]) (H := K01.hk) (ob := K01.ob) (M := 20000) (loose := K01.loo) (d := HandSHeadRun.topDef (OpenLaw.row PySem.Challenge.rw_closedfull_k01_words_and_numbers).prog K01.iL) (kwd := []) K01.ob_eq
    (by kernel_rfl) (fun s => by kernel_rfl) K01.run (by kernel_rfl) (by kernel_rfl) (by kernel_rfl) (by rfl) (by first | assumption | decide +kernel) (by decide +kernel) ⟨rfl, rfl, rfl, rfl, rfl, by decide +kernel⟩ ?hw ?hc
  case hw => w_witness2
  case hc => exact Mp.law_walk (x := "script") (Ns := K01.Ns) (wf := 10) (n := 30) (f := K01.lawIx) rfl (by kernel_rfl) ⟨rfl, by decide, by decide⟩ (by kernel_rfl) (by kernel_rfl) K01.chk K01.chkI (fun _ => rfl) K01.plain
