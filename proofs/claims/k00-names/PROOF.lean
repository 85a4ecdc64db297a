import PyProof.Rows.All
import Wide.All
import OpenK.AllK
import Wide.FinOn
import HandS.ForMost
import HandS.ForExc
import HandS.Wide
import HandS.IsInst
import HandS.ExcIs
import KE.KExcIs
import HandS.HotCalls
import HandS.Conv
import HandS.ExcInit
import HandS.Defaults
import HandS.ExcInitHot
import HandS.HeadHook4
import HandS.HeadEnd
import HandS.HeadWalk
import HandS.Head2
import Lean
import PySem.Challenge.RW_closedfull_k00_names
set_option Elab.async false
set_option linter.all false
set_option maxRecDepth 100000
/-! Mp: a small interpreter of its own over a plain heap. A: values, heap, text, evaluator. -/
namespace Mp
open PySem
/-- a value; ref n: the n-th object of the heap; cls c: the c-th class of the program -/
inductive W where
  | non | bl (b : Bool) | int (i : Int) | str (x : Str) | ref (n : Nat) | ty (n : String) | cls (c : Nat)
  deriving DecidableEq, Inhabited
/-- an object -/
inductive Ob where
  | lst (xs : List W) | tup (xs : List W) | frl (xs : List W)
  | dct (kvs : List (L2.Key × W)) | ins (c : Nat) (fs : List (Str × W)) | exc (c : Nat) (w : W) | dead
  deriving DecidableEq, Inhabited
abbrev Hq := List Ob
/-- an end: a value, or an exception of class c with its what -/
inductive Er (α : Type) where
  | ok (a : α) | exc (c : Nat) (w : W)
abbrev M (α : Type) := Option (Er α × Hq)
def ret {α : Type} (a : α) (h : Hq) : M α := some (.ok a, h)
def bnd {α β : Type} (r : M α) (f : α → Hq → M β) : M β :=
  match r with
  | none => none
  | some (.ok a, h) => f a h
  | some (.exc c w, h) => some (.exc c w, h)
@[simp] theorem bnd_none {α β : Type} (f : α → Hq → M β) : bnd none f = none := rfl
@[simp] theorem bnd_ok {α β : Type} (a : α) (h : Hq) (f : α → Hq → M β) : bnd (some (.ok a, h)) f = f a h := rfl
@[simp] theorem bnd_ret {α β : Type} (a : α) (h : Hq) (f : α → Hq → M β) : bnd (ret a h) f = f a h := rfl
@[simp] theorem bnd_exc {α β : Type} (c : Nat) (w : W) (h : Hq) (f : α → Hq → M β) : bnd (some (.exc c w, h)) f = some (.exc c w, h) := rfl
def alloc (o : Ob) (h : Hq) : M W := some (.ok (.ref h.length), h ++ [o])
/-- the line of sizes -/
abbrev line : Nat := 16777216

/-! ### by values -/
inductive BOp | add | sub | mul | fdiv | mod | pow
  deriving DecidableEq
inductive COp | eq | ne | lt | le | gt | ge | isin | nin
  deriving DecidableEq
def lstOf (h : Hq) : W → Option (List W)
  | .ref a => match h[a]? with
    | some (.lst xs) => some xs
    | some (.frl xs) => some xs
    | _ => none
  | _ => none
def tupOf (h : Hq) : W → Option (List W)
  | .ref a => match h[a]? with
    | some (.tup xs) => some xs
    | _ => none
  | _ => none
def seqOf (h : Hq) (w : W) : Option (List W) := match lstOf h w with
  | some xs => some xs
  | none => tupOf h w
def addV (x y : W) (h : Hq) : M W := match x, y with
  | .int i, .int j => ret (.int (i + j)) h
  | .str a, .str b => if a.length + b.length ≤ line then ret (.str (a ++ b)) h else none
  | .ref a, .ref b => match h[a]?, h[b]? with
    | some (.lst xs), some (.lst ys) => if xs.length + ys.length ≤ line then alloc (.lst (xs ++ ys)) h else none
    | some (.tup xs), some (.tup ys) => if xs.length + ys.length ≤ line ∧ xs ≠ [] then (if ys = [] then ret x h else alloc (.tup (xs ++ ys)) h) else none
    | _, _ => none
  | _, _ => none
def subV (x y : W) (h : Hq) : M W := match x, y with
  | .int i, .int j => ret (.int (i - j)) h
  | _, _ => none
/-- a text k times -/
def repS (x : Str) (n : Int) : Str := if n < 1 then Str.empty else if (n == 1 || x.length == 0) = true then x else ⟨(List.replicate n.toNat x.cps).foldl (· ++ ·) #[]⟩
def mulV (x y : W) (h : Hq) : M W := match x, y with
  | .int i, .int j => if i.natAbs.log2 + j.natAbs.log2 < 1000000 then ret (.int (i * j)) h else none
  | .str a, .int n => if -1000000 ≤ n ∧ n ≤ 1000000 ∧ a.length * n.toNat ≤ line then ret (.str (repS a n)) h else none
  | .ref a, .int n => match h[a]? with
    | some (.lst xs) => if -1000000 ≤ n ∧ n ≤ 1000000 ∧ xs.length * n.toNat ≤ line then alloc (.lst (List.replicate n.toNat xs).flatten) h else none
    | _ => none
  | _, _ => none
def fdivV (x y : W) (h : Hq) : M W := match x, y with
  | .int i, .int j => if 0 < j ∧ j.natAbs.log2 < 9000 then ret (.int (i / j)) h else none
  | _, _ => none
def modV (x y : W) (h : Hq) : M W := match x, y with
  | .int i, .int j => if 0 < j then ret (.int (i % j)) h else none
  | _, _ => none
def powV (x y : W) (h : Hq) : M W := match x, y with
  | .int i, .int n => if 0 ≤ n ∧ (Builtin.Int.intBits i : Int) * n ≤ 134217728 then ret (.int (i ^ n.toNat)) h else none
  | _, _ => none
def augV (o : BOp) (x y : W) (h : Hq) : M W := match o, x, y with
  | .add, .int i, .int j => ret (.int (i + j)) h
  | .add, .str a, .str b => if a.length + b.length ≤ line then ret (.str (a ++ b)) h else none
  | .sub, .int i, .int j => ret (.int (i - j)) h
  | _, _, _ => none
def binV : BOp → W → W → Hq → M W
  | .add => addV | .sub => subV | .mul => mulV | .fdiv => fdivV | .mod => modV | .pow => powV
/-- plain values that == tells as data -/
def scalW : W → W → Bool
  | .non, .non => true | .non, .int _ => true | .int _, .non => true | .non, .bl _ => true | .bl _, .non => true | .non, .str _ => true | .str _, .non => true
  | .int _, .int _ => true | .bl _, .bl _ => true | .str _, .str _ => true
  | .int _, .str _ => true | .str _, .int _ => true | .bl _, .str _ => true | .str _, .bl _ => true
  | _, _ => false
/-- a value read as data, n deep -/
def rdD (h : Hq) : Nat → W → Option PyData
  | 0, _ => none
  | n + 1, w => match w with
    | .non => some .none
    | .bl b => some (.bool b)
    | .int i => some (.int i)
    | .str x => some (.str x)
    | .ref a => match h[a]? with
      | some (.lst xs) => (xs.mapM (rdD h n)).map .list
      | some (.frl xs) => (xs.mapM (rdD h n)).map .list
      | some (.tup xs) => (xs.mapM (rdD h n)).map .tuple
      | _ => none
    | _ => none
def eqV (x y : W) (h : Hq) : Option Bool :=
  if scalW x y then some (decide (x = y)) else match rdD h 12 x, rdD h 12 y with
    | some d, some e => if SeqAt.shaped d && SeqAt.shaped e then some (PyData.eqv d e) else none
    | _, _ => none
def flatW : W → Bool
  | .non => true | .bl _ => true | .int _ => true | .str _ => true | _ => false
def eqF : W → W → Bool
  | .non, .non => true
  | .bl a, .bl b => a == b
  | .bl a, .int b => (if a then 1 else 0) == b
  | .int a, .bl b => a == (if b then 1 else 0)
  | .int a, .int b => a == b
  | .str a, .str b => a == b
  | _, _ => false
def keyOf : W → Option L2.Key
  | .int i => some (.inl i)
  | .str x => some (.inr x)
  | _ => none
/-- a text in a text -/
def hasS (x z : Str) : Bool := !(Builtin.Str.occurrences z x 0 z.length 1).isEmpty
/-- x in y -/
def inW (x y : W) (h : Hq) : Option Bool := match x, y with
  | .str a, .str b => some (hasS a b)
  | x, .ref a => match h[a]? with
    | some (.lst ys) => if flatW x && ys.all flatW then some (ys.any fun y => eqF y x) else none
    | some (.frl ys) => if flatW x && ys.all flatW then some (ys.any fun y => eqF y x) else none
    | some (.tup ys) => if flatW x && ys.all flatW then some (ys.any fun y => eqF y x) else none
    | _ => none
  | _, _ => none
def ltS (a b : Str) : Bool := decide (a.cps.toList < b.cps.toList)
def ordV (f : Int → Int → Bool) (g : Str → Str → Bool) (x y : W) : Option Bool := match x, y with
  | .int i, .int j => some (f i j)
  | .str a, .str b => some (g a b)
  | _, _ => none
def cmpV : COp → W → W → Hq → Option Bool
  | .eq, x, y, h => eqV x y h
  | .ne, x, y, h => (eqV x y h).map (!·)
  | .lt, x, y, _ => ordV (fun i j => decide (i < j)) ltS x y
  | .le, x, y, _ => ordV (fun i j => decide (i ≤ j)) (fun a b => !ltS b a) x y
  | .gt, x, y, _ => ordV (fun i j => decide (j < i)) (fun a b => ltS b a) x y
  | .ge, x, y, _ => ordV (fun i j => decide (j ≤ i)) (fun a b => !ltS a b) x y
  | .isin, x, y, h => inW x y h
  | .nin, x, y, h => (inW x y h).map (!·)
def optB (o : Option Bool) (h : Hq) : M W := match o with
  | some b => ret (.bl b) h
  | none => none
/-- truth -/
def truV (h : Hq) : W → Option Bool
  | .non => some false
  | .bl b => some b
  | .int i => some (i != 0)
  | .str x => if x.length ≤ line then some ((x.length : Int) != 0) else none
  | .ref a => match h[a]? with
    | some (.lst xs) => some (!xs.isEmpty)
    | some (.frl xs) => some (!xs.isEmpty)
    | some (.tup xs) => some (!xs.isEmpty)
    | some (.dct kvs) => some (!kvs.isEmpty)
    | _ => none
  | _ => none
def optT (o : Option Bool) (h : Hq) : M Bool := match o with
  | some b => ret b h
  | none => none
/-- x[i] -/
def ixV (x i : W) (h : Hq) : M W := match i with
  | .int k => match x with
    | .str z => if z.length ≤ line then (match L2.atI z.cps.toList k with
      | some c => ret (.str ⟨#[c]⟩) h
      | none => none) else none
    | .ref a => match h[a]? with
      | some (.lst xs) => (match L2.atI xs k with | some v => ret v h | none => none)
      | some (.frl xs) => (match L2.atI xs k with | some v => ret v h | none => none)
      | some (.tup xs) => (match L2.atI xs k with | some v => ret v h | none => none)
      | _ => none
    | _ => none
  | _ => none
def cutL {α : Type} (xs : List α) (lo hi : Option Int) : List α := (xs.drop (HT.sIx xs.length 0 lo)).take (HT.sIx xs.length xs.length hi - HT.sIx xs.length 0 lo)
/-- x[lo:hi] -/
def cutW (x : W) (lo hi : Option Int) (h : Hq) : M W := match x with
  | .str z => if z.length ≤ line then ret (.str (L2.cutS z lo hi)) h else none
  | .ref a => match h[a]? with
    | some (.lst xs) => alloc (.lst (cutL xs lo hi)) h
    | some (.frl xs) => alloc (.lst (cutL xs lo hi)) h
    | _ => none
  | _ => none
/-- o[i] = v -/
def setV (o i v : W) (h : Hq) : Option Hq := match o with
  | .ref a => match h[a]? with
    | some (.lst xs) => (match i with
      | .int k => (L2.ixN xs.length k).map fun j => h.set a (.lst (xs.set j v))
      | _ => none)
    | _ => none
  | _ => none
/-- built-in functions and types that are called -/
inductive Fn | len | int | str | abs | min | max | list | isi
  deriving DecidableEq
/-- a value's type, a built-in one -/
def tyOf (h : Hq) : W → Option String
  | .non => some "NoneType"
  | .bl _ => some "bool"
  | .int _ => some "int"
  | .str _ => some "str"
  | .ref a => match h[a]? with
    | some (.lst _) => some "list"
    | some (.frl _) => some "list"
    | some (.tup _) => some "tuple"
    | some (.dct _) => some "dict"
    | _ => none
  | _ => none
/-- an object's own class; is it an exception -/
def clsOf (h : Hq) : W → Option (Bool × Nat)
  | .ref a => match h[a]? with
    | some (.ins c _) => some (false, c)
    | some (.exc c _) => some (true, c)
    | _ => none
  | _ => none
/-- methods of built-in types -/
inductive Mt | append | pop | upper
  deriving DecidableEq
/-- the receiver's kind, ahead of the arguments -/
def mthPre (m : Mt) (x : W) (h : Hq) : Bool := match m with
  | .append => (lstOf h x).isSome
  | .pop => (lstOf h x).isSome
  | .upper => (match x with | .str _ => true | _ => false)
/-! ### the text -/
mutual
inductive E where
  | var (i : Nat) | cst (w : W) | glob (g : Nat) | ty (n : String) | cls (c : Nat)
  | bin (o : BOp) (a b : E) | neg (a : E)
  | cmp (o : COp) (a b : E) | isN (k : Bool) (a : E) | chn (o p : COp) (a b c : E)
  | not (a : E) | and (a b : E) | or (a b : E) | ite (c a b : E)
  | call (f : Nat) (es : Es) | fn (b : Fn) (es : Es) | mth (m : Mt) (o : E) (es : Es)
  | attr (f : Str) (o : E)
  | lrg (a : E) | lrg2 (a b : E) | ix (a i : E) | cut (a : E) (lo hi : Op)
  | tup (es : Es) | lst (es : Es)
  | comp (x : Nat) (s : Src) (c : Op) (el : E)
inductive Es where | nil | cons (e : E) (es : Es)
inductive Op where | no | yes (e : E)
inductive Src where | any (e : E) | rng (e : E) | rng2 (a b : E)
end
inductive Tg where | one (i : Nat) | two (i j : Nat) | three (i j k : Nat)
mutual
inductive S where
  | asg (i : Nat) (e : E) | asc (i : Nat) (e : E)
  | unp (is : List Nat) (e : E) | sto (o i e : E)
  | aug (i : Nat) (o : BOp) (e : E) | exp (e : E)
  | ite (c : E) (a b : Ss) | whl (c : E) (b : Ss) | for (t : Nat) (s : Src) (b : Ss)
  | ret (e : E) | ret0 | rse (c : Nat) (e : E) | try (b : Ss) (c : Nat) (i : Nat) (hb : Ss)
  | brk | cnt | pas
inductive Ss where | nil | cons (s : S) (r : Ss)
end
structure FnD where
  ar : Nat
  n : Nat
  body : Ss
structure Gam where
  fn : Nat → Option FnD
  glob : Nat → Option W
  /-- which are classes of the program; which of them are exceptions -/
  hc : Nat → Bool
  exc : Nat → Bool
  sub : Nat → Nat → Bool
  /-- the class c under a built-in class -/
  subT : Nat → String → Bool
  tys : List String
abbrev Calls := Nat → List W → Hq → M W
abbrev Env := List (Option W)
/-- a statement's end -/
inductive Fl where
  | nx (ρ : Env) | ret (v : W) | brk (ρ : Env) | ct (ρ : Env) | exc (c : Nat) (w : W) (ρ : Env)
abbrev RS := Option (Fl × Hq)
def lft {α : Type} (r : M α) (ρ : Env) (f : α → Hq → RS) : RS := match r with
  | none => none
  | some (.ok a, h) => f a h
  | some (.exc c w, h) => some (.exc c w ρ, h)
@[simp] theorem lft_none {α : Type} (ρ : Env) (f : α → Hq → RS) : lft none ρ f = none := rfl
@[simp] theorem lft_ok {α : Type} (a : α) (h : Hq) (ρ : Env) (f : α → Hq → RS) : lft (some (.ok a, h)) ρ f = f a h := rfl
@[simp] theorem lft_ret {α : Type} (a : α) (h : Hq) (ρ : Env) (f : α → Hq → RS) : lft (Mp.ret a h) ρ f = f a h := rfl
@[simp] theorem lft_exc {α : Type} (c : Nat) (w : W) (h : Hq) (ρ : Env) (f : α → Hq → RS) : lft (some (.exc c w, h) : M α) ρ f = some (.exc c w ρ, h) := rfl
def sq (r : RS) (f : Env → Hq → RS) : RS := match r with
  | some (.nx ρ, h) => f ρ h
  | r => r
@[simp] theorem sq_none (f : Env → Hq → RS) : sq none f = none := rfl
@[simp] theorem sq_nx (ρ : Env) (h : Hq) (f : Env → Hq → RS) : sq (some (.nx ρ, h)) f = f ρ h := rfl
@[simp] theorem sq_ret (v : W) (h : Hq) (f : Env → Hq → RS) : sq (some (.ret v, h)) f = some (.ret v, h) := rfl
@[simp] theorem sq_brk (ρ : Env) (h : Hq) (f : Env → Hq → RS) : sq (some (.brk ρ, h)) f = some (.brk ρ, h) := rfl
@[simp] theorem sq_ct (ρ : Env) (h : Hq) (f : Env → Hq → RS) : sq (some (.ct ρ, h)) f = some (.ct ρ, h) := rfl
@[simp] theorem sq_exc (c : Nat) (w : W) (ρ : Env) (h : Hq) (f : Env → Hq → RS) : sq (some (.exc c w ρ, h)) f = some (.exc c w ρ, h) := rfl
def isiV (Γ : Gam) (h : Hq) (x t : W) : Option Bool := match tyOf h x with
  | some a => (match t with
    | .ty b => L2.kitB a b
    | _ => none)
  | none => (match clsOf h x with
    | some (e, c) => if Γ.hc c = true ∧ Γ.exc c = e then (match t with
      | .cls d => if Γ.hc d = true then some (Γ.sub c d) else none
      | .ty b => if b ∈ Γ.tys then some (Γ.subT c b) else none
      | _ => none) else none
    | none => none)
def rngL (i j : Int) : List W := (List.range (j - i).toNat).map fun (k : Nat) => W.int (i + k)
def rngOk (i : Int) : Bool := decide (-1000000000 ≤ i ∧ i ≤ 1000000000)
def fnV (Γ : Gam) (b : Fn) (vs : List W) (h : Hq) : M W := match b, vs with
  | .len, [.str z] => if z.length ≤ line then ret (.int z.length) h else none
  | .len, [.ref a] => (match h[a]? with
    | some (.lst xs) => ret (.int xs.length) h
    | some (.frl xs) => ret (.int xs.length) h
    | some (.tup xs) => ret (.int xs.length) h
    | _ => none)
  | .int, [.int i] => ret (.int i) h
  | .abs, [.int i] => ret (.int (if i < 0 then -i else i)) h
  | .min, [.int i, .int j] => ret (.int (if j < i then j else i)) h
  | .max, [.int i, .int j] => ret (.int (if j > i then j else i)) h
  | .str, [.int i] => if i.natAbs.log2 < 1920 then ret (.str (toString i)) h else none
  | .list, [.ref a] => (match h[a]? with
    | some (.lst xs) => alloc (.lst xs) h
    | some (.frl xs) => alloc (.lst xs) h
    | some (.tup xs) => alloc (.lst xs) h
    | _ => none)
  | .isi, [x, t] => optB (isiV Γ h x t) h
  | _, _ => none
def lrgV (x y : W) (h : Hq) : M W := match x, y with
  | .int i, .int j => if rngOk i && rngOk j && decide ((j - i).toNat ≤ line) then alloc (.lst (rngL i j)) h else none
  | _, _ => none
def mthV (m : Mt) (o : W) (vs : List W) (h : Hq) : M W := match m, o, vs with
  | .append, .ref a, [y] => (match h[a]? with
    | some (.lst xs) => if xs.length < line then ret .non (h.set a (.lst (xs ++ [y]))) else none
    | _ => none)
  | .pop, .ref a, [] => (match h[a]? with
    | some (.lst xs) => (match xs[xs.length - 1]? with
      | some y => ret y (h.set a (.lst xs.dropLast))
      | none => none)
    | _ => none)
  | .upper, .str z, [] => if z.length ≤ 5592405 then ret (.str (Txt.upper z)) h else none
  | _, _, _ => none
def attrV (Γ : Gam) (f : Str) (o : W) (h : Hq) : M W := match o with
  | .ref a => (match h[a]? with
    | some (.exc c w) => if (Γ.hc c && Γ.exc c) = true then ret w h else none
    | _ => none)
  | _ => none
/-- what a loop walks: the object that must stay, the items -/
abbrev Wk := Option (Nat × Ob) × List W
def stays (g : Option (Nat × Ob)) (h : Hq) : Bool := match g with
  | none => true
  | some (a, o) => decide (h[a]? = some o)
def walkOf (w : W) (h : Hq) : M Wk := match w with
  | .str z => ret (none, z.cps.toList.map fun c => W.str ⟨#[c]⟩) h
  | .ref a => match h[a]? with
    | some (.lst xs) => ret (some (a, .lst xs), xs) h
    | some (.frl xs) => ret (some (a, .frl xs), xs) h
    | some (.tup xs) => ret (some (a, .tup xs), xs) h
    | _ => none
  | _ => none
/-- a loop's turns -/
def forL (g : Option (Nat × Ob)) (t : Nat) (body : Env → Hq → RS) : List W → Env → Hq → RS
  | [], ρ, h => if stays g h then some (.nx ρ, h) else none
  | x :: xs, ρ, h => if stays g h then (match body (ρ.set t (some x)) h with
    | some (.nx ρ', h') => forL g t body xs ρ' h'
    | some (.ct ρ', h') => forL g t body xs ρ' h'
    | some (.brk ρ', h') => some (.nx ρ', h')
    | r => r) else none
/-- a comprehension's turns: the new list stands at D; an exception is not carried -/
def compL (g : Option (Nat × Ob)) (D : Nat) (t : W → Hq → M Bool) (el : W → Hq → M W) : List W → Hq → Option Hq
  | [], h => if stays g h then some h else none
  | x :: xs, h => if stays g h then (match t x h with
    | some (.ok true, h1) => (match el x h1 with
      | some (.ok y, h2) => (match h2[D]? with
        | some (.lst acc) => if acc.length < line then compL g D t el xs (h2.set D (.lst (acc ++ [y]))) else none
        | _ => none)
      | _ => none)
    | some (.ok false, h1) => compL g D t el xs h1
    | _ => none) else none
def whileL (t : Env → Hq → M Bool) (body : Env → Hq → RS) : Nat → Env → Hq → RS
  | 0, _, _ => none
  | n + 1, ρ, h => match t ρ h with
    | none => none
    | some (.exc c w, h) => some (.exc c w ρ, h)
    | some (.ok false, h) => some (.nx ρ, h)
    | some (.ok true, h) => match body ρ h with
      | some (.nx ρ', h') => whileL t body n ρ' h'
      | some (.ct ρ', h') => whileL t body n ρ' h'
      | some (.brk ρ', h') => some (.nx ρ', h')
      | r => r
mutual
def evE (Γ : Gam) (k : Calls) : E → Env → Hq → M W
  | .var i, ρ, h => (match ρ[i]? with | some (some v) => ret v h | _ => none)
  | .cst w, _, h => ret w h
  | .glob g, _, h => (match Γ.glob g with | some v => ret v h | none => none)
  | .ty n, _, h => ret (.ty n) h
  | .cls c, _, h => ret (.cls c) h
  | .bin o a b, ρ, h => bnd (evE Γ k a ρ h) fun x h => bnd (evE Γ k b ρ h) fun y h => binV o x y h
  | .neg a, ρ, h => bnd (evE Γ k a ρ h) fun x h => (match x with | .int i => ret (.int (-i)) h | _ => none)
  | .cmp o a b, ρ, h => bnd (evE Γ k a ρ h) fun x h => bnd (evE Γ k b ρ h) fun y h => optB (cmpV o x y h) h
  | .isN s a, ρ, h => bnd (evE Γ k a ρ h) fun x h => ret (.bl (s == decide (x = .non))) h
  | .chn o p a b c, ρ, h => bnd (evE Γ k a ρ h) fun x h => bnd (evE Γ k b ρ h) fun y h => bnd (optT (cmpV o x y h) h) fun t h =>
      if t = true then bnd (evE Γ k c ρ h) fun z h => optB (cmpV p y z h) h else ret (.bl false) h
  | .not a, ρ, h => bnd (evE Γ k a ρ h) fun x h => (match x with | .bl b => ret (.bl (!b)) h | _ => none)
  | .and a b, ρ, h => bnd (evE Γ k a ρ h) fun x h => (match x with | .bl true => evE Γ k b ρ h | .bl false => ret (.bl false) h | _ => none)
  | .or a b, ρ, h => bnd (evE Γ k a ρ h) fun x h => (match x with | .bl true => ret (.bl true) h | .bl false => evE Γ k b ρ h | _ => none)
  | .ite c a b, ρ, h => bnd (evT Γ k c ρ h) fun t h => if t = true then evE Γ k a ρ h else evE Γ k b ρ h
  | .call f es, ρ, h => bnd (evEs Γ k es ρ h) fun vs h => k f vs h
  | .fn b es, ρ, h => bnd (evEs Γ k es ρ h) fun vs h => fnV Γ b vs h
  | .mth m o es, ρ, h => bnd (evE Γ k o ρ h) fun x h => if mthPre m x h = true then bnd (evEs Γ k es ρ h) fun vs h => mthV m x vs h else none
  | .attr f o, ρ, h => bnd (evE Γ k o ρ h) fun x h => attrV Γ f x h
  | .lrg a, ρ, h => bnd (evE Γ k a ρ h) fun x h => lrgV (.int 0) x h
  | .lrg2 a b, ρ, h => bnd (evE Γ k a ρ h) fun x h => bnd (evE Γ k b ρ h) fun y h => lrgV x y h
  | .ix a i, ρ, h => bnd (evE Γ k a ρ h) fun x h => bnd (evE Γ k i ρ h) fun y h => ixV x y h
  | .cut a lo hi, ρ, h => bnd (evE Γ k a ρ h) fun x h => bnd (evO Γ k lo ρ h) fun l h => bnd (evO Γ k hi ρ h) fun u h => cutW x l u h
  | .tup es, ρ, h => bnd (evEs Γ k es ρ h) fun vs h => if vs.length ≤ line then alloc (.tup vs) h else none
  | .lst es, ρ, h => bnd (evEs Γ k es ρ h) fun vs h => if vs.length ≤ line then alloc (.lst vs) h else none
  | .comp x s c el, ρ, h => bnd (evS Γ k s ρ h) fun w h =>
      match compL w.1 h.length (fun v h => evC Γ k c (ρ.set x (some v)) h) (fun v h => evE Γ k el (ρ.set x (some v)) h) w.2 (h ++ [.lst []]) with
      | some h' => ret (.ref h.length) h'
      | none => none
def evT (Γ : Gam) (k : Calls) : E → Env → Hq → M Bool
  | .not a, ρ, h => bnd (evT Γ k a ρ h) fun b h => ret (!b) h
  | .and a b, ρ, h => bnd (evT Γ k a ρ h) fun t h => if t = true then evT Γ k b ρ h else ret false h
  | .or a b, ρ, h => bnd (evT Γ k a ρ h) fun t h => if t = true then ret true h else evT Γ k b ρ h
  | .cmp o a b, ρ, h => bnd (evE Γ k a ρ h) fun x h => bnd (evE Γ k b ρ h) fun y h => optT (cmpV o x y h) h
  | .isN s a, ρ, h => bnd (evE Γ k a ρ h) fun x h => ret (s == decide (x = .non)) h
  | .chn o p a b c, ρ, h => bnd (evE Γ k a ρ h) fun x h => bnd (evE Γ k b ρ h) fun y h => bnd (optT (cmpV o x y h) h) fun t h =>
      if t = true then bnd (evE Γ k c ρ h) fun z h => optT (cmpV p y z h) h else ret false h
  | .ite _ _ _, _, _ => none
  | .var i, ρ, h => (match ρ[i]? with | some (some v) => optT (truV h v) h | _ => none)
  | .call f es, ρ, h => bnd (evEs Γ k es ρ h) fun vs h => bnd (k f vs h) fun x h => optT (truV h x) h
  | .fn b es, ρ, h => bnd (evEs Γ k es ρ h) fun vs h => bnd (fnV Γ b vs h) fun x h => optT (truV h x) h
  | .ix a i, ρ, h => bnd (evE Γ k a ρ h) fun x h => bnd (evE Γ k i ρ h) fun y h => bnd (ixV x y h) fun x h => optT (truV h x) h
  | .attr f o, ρ, h => bnd (evE Γ k o ρ h) fun x h => bnd (attrV Γ f x h) fun x h => optT (truV h x) h
  | .mth m o es, ρ, h => bnd (evE Γ k o ρ h) fun x h => if mthPre m x h = true then bnd (evEs Γ k es ρ h) fun vs h => bnd (mthV m x vs h) fun x h => optT (truV h x) h else none
  | _, _, _ => none
def evEs (Γ : Gam) (k : Calls) : Es → Env → Hq → M (List W)
  | .nil, _, h => ret [] h
  | .cons e es, ρ, h => bnd (evE Γ k e ρ h) fun v h => bnd (evEs Γ k es ρ h) fun vs h => ret (v :: vs) h
def evO (Γ : Gam) (k : Calls) : Op → Env → Hq → M (Option Int)
  | .no, _, h => ret none h
  | .yes e, ρ, h => bnd (evE Γ k e ρ h) fun v h => (match v with | .int i => ret (some i) h | _ => none)
def evC (Γ : Gam) (k : Calls) : Op → Env → Hq → M Bool
  | .no, _, h => ret true h
  | .yes e, ρ, h => evT Γ k e ρ h
def evS (Γ : Gam) (k : Calls) : Src → Env → Hq → M Wk
  | .any e, ρ, h => bnd (evE Γ k e ρ h) fun v h => walkOf v h
  | .rng e, ρ, h => bnd (evE Γ k e ρ h) fun v h => (match v with | .int j => if rngOk j then ret (none, rngL 0 j) h else none | _ => none)
  | .rng2 a b, ρ, h => bnd (evE Γ k a ρ h) fun v h => bnd (evE Γ k b ρ h) fun w h => (match v, w with | .int i, .int j => if rngOk i && rngOk j then ret (none, rngL i j) h else none | _, _ => none)
end
/-- the handled exception is let go -/
def killX : Ob → Ob
  | .exc _ _ => .dead
  | o => o
/-- slots from a list -/
def setAll : List Nat → List W → Env → Option Env
  | [], [], ρ => some ρ
  | i :: is, v :: vs, ρ => setAll is vs (ρ.set i (some v))
  | _, _, _ => none
mutual
def exS (Γ : Gam) (wf : Nat) (k : Calls) : S → Env → Hq → RS
  | .asg i e, ρ, h => lft (evE Γ k e ρ h) ρ fun v h => some (.nx (ρ.set i (some v)), h)
  | .asc i e, ρ, h => lft (evE Γ k e ρ h) ρ fun v h => some (.nx (ρ.set i (some v)), h)
  | .unp is e, ρ, h => lft (evE Γ k e ρ h) ρ fun v h => (match tupOf h v with
    | some xs => (match setAll is xs ρ with | some ρ' => some (.nx ρ', h) | none => none)
    | none => none)
  | .sto o i e, ρ, h => lft (evE Γ k e ρ h) ρ fun v h => lft (evE Γ k o ρ h) ρ fun x h => lft (evE Γ k i ρ h) ρ fun y h =>
      (match setV x y v h with | some h' => some (.nx ρ, h') | none => none)
  | .aug i o e, ρ, h => (match ρ[i]? with
    | some (some x) => lft (evE Γ k e ρ h) ρ fun y h => lft (augV o x y h) ρ fun z h => some (.nx (ρ.set i (some z)), h)
    | _ => none)
  | .exp e, ρ, h => lft (evE Γ k e ρ h) ρ fun _ h => some (.nx ρ, h)
  | .ite c a b, ρ, h => lft (evT Γ k c ρ h) ρ fun t h => if t = true then exSs Γ wf k a ρ h else exSs Γ wf k b ρ h
  | .whl c b, ρ, h => whileL (fun ρ h => evT Γ k c ρ h) (fun ρ h => exSs Γ wf k b ρ h) wf ρ h
  | .for t s b, ρ, h => lft (evS Γ k s ρ h) ρ fun w h => forL w.1 t (fun ρ h => exSs Γ wf k b ρ h) w.2 ρ h
  | .ret e, ρ, h => lft (evE Γ k e ρ h) ρ fun v h => some (.ret v, h)
  | .ret0, _, h => some (.ret .non, h)
  | .rse c e, ρ, h => lft (evE Γ k e ρ h) ρ fun v h => some (.exc c v ρ, h)
  | .try b c i hb, ρ, h => (match exSs Γ wf k b ρ h with
    | some (.exc c' w ρ', h') => if (Γ.hc c' && Γ.exc c') = true then (if Γ.sub c' c = true then (match exSs Γ wf k hb (ρ'.set i (some (.ref h'.length))) (h' ++ [.exc c' w]) with
        | some (.nx ρ2, h2) => some (.nx (ρ2.set i none), h2.map killX)
        | some (.ret v, h2) => some (.ret v, h2.map killX)
        | _ => none) else some (.exc c' w ρ', h')) else none
    | r => r)
  | .brk, ρ, h => some (.brk ρ, h)
  | .cnt, ρ, h => some (.ct ρ, h)
  | .pas, ρ, h => some (.nx ρ, h)
def exSs (Γ : Gam) (wf : Nat) (k : Calls) : Ss → Env → Hq → RS
  | .nil, ρ, h => some (.nx ρ, h)
  | .cons s r, ρ, h => sq (exS Γ wf k s ρ h) fun ρ h => exSs Γ wf k r ρ h
end
/-- a def's frame at its start -/
def start (n : Nat) (vs : List W) : Env := vs.map some ++ List.replicate (n - vs.length) none
def endF : RS → M W
  | some (.nx _, h) => some (.ok .non, h)
  | some (.ret v, h) => some (.ok v, h)
  | some (.exc c w _, h) => some (.exc c w, h)
  | _ => none
/-- a call, n deep -/
def call (Γ : Gam) (wf : Nat) : Nat → Calls
  | 0, _, _, _ => none
  | n + 1, f, vs, h => match Γ.fn f with
    | some d => if vs.length = d.ar then endF (exSs Γ wf (call Γ wf n) d.body (start d.n vs) h) else none
    | none => none
end Mp
set_option Elab.async false
set_option linter.all false
set_option maxRecDepth 100000
set_option maxHeartbeats 4000000
/-! Mp B: how the plain heap lies in the abstract one; what is asked of a computation. -/
namespace Mp
open PySem PySem.Spec PyProof.Rows L2
abbrev Plc := Nat → Addr
/-- what the place of a plain object and of a class is -/
def tv (cl m : Plc) : W → V
  | .non => .non | .bl b => .bl b | .int i => .int i | .str x => .str x | .ref n => .ref (m n) | .ty n => .ty n | .cls c => .ref (cl c)
def wfW (n : Nat) : W → Prop
  | .ref k => k < n
  | _ => True
def wfO (n : Nat) : Ob → Prop
  | .lst xs => ∀ w ∈ xs, wfW n w
  | .tup xs => ∀ w ∈ xs, wfW n w
  | .frl xs => ∀ w ∈ xs, wfW n w
  | .dct kvs => ∀ p ∈ kvs, wfW n p.2
  | .ins _ fs => ∀ p ∈ fs, wfW n p.2
  | .exc _ w => wfW n w
  | .dead => True
theorem wfW.mono {n k : Nat} (h : n ≤ k) : ∀ {w : W}, wfW n w → wfW k w
  | .ref _, q => Nat.lt_of_lt_of_le q h
  | .non, _ => trivial | .bl _, _ => trivial | .int _, _ => trivial | .str _, _ => trivial | .ty _, _ => trivial | .cls _, _ => trivial
theorem wfO.mono {n k : Nat} (h : n ≤ k) : ∀ {o : Ob}, wfO n o → wfO k o
  | .lst _, q => fun w hw => (q w hw).mono h
  | .tup _, q => fun w hw => (q w hw).mono h
  | .frl _, q => fun w hw => (q w hw).mono h
  | .dct _, q => fun p hp => (q p hp).mono h
  | .ins _ _, q => fun p hp => (q p hp).mono h
  | .exc _ _, q => wfW.mono h (show wfW n _ from q)
  | .dead, _ => trivial
/-- the fixed part: where the classes stand, the written part, the exception that is handled -/
structure St0 where
  cl : Plc
  K : PySem.W.Frag
  px : Option (Addr × Obj)
abbrev wht : Str := Str.ofString "what"
/-- a list that is read and never written: frozen, or of the written part -/
def Frl (K : PySem.W.Frag) (H : Hp) (a : Addr) (xs : List V) : Prop :=
  (∃ o, H a = some (.frz o (.lst xs))) ∨ ∃ (o : Obj) (its : Array Value) (n : Nat), K.lookup a = some o ∧ o.cls = .type "list" ∧ o.dict = none ∧ o.data = .seq its n ∧ its.size ≤ sizeLine ∧ Vals xs its.toList
theorem Frl.sq {K : PySem.W.Frag} {H : Hp} {a : Addr} {xs : List V} : Frl K H a xs → SqL K H a xs
  | .inl ⟨o, e⟩ => .inl (.inr ⟨o, e⟩)
  | .inr e => .inr e
def ObR (Z : St0) (m : Plc) (H : Hp) (a : Addr) : Ob → Prop
  | .lst xs => H a = some (.lst (xs.map (tv Z.cl m)))
  | .tup xs => H a = some (.tup (xs.map (tv Z.cl m)))
  | .frl xs => Frl Z.K H a (xs.map (tv Z.cl m))
  | .dct kvs => H a = some (.dK (kvs.map fun p => (p.1, tv Z.cl m p.2)))
  | .ins c fs => ∃ dx, H a = some (.ins (Z.cl c) dx (fs.map fun p => (p.1, tv Z.cl m p.2)))
  | .exc c w => ∃ oe d, Z.px = some (a, oe) ∧ oe.cls = .ref (Z.cl c) ∧ oe.dict = some d ∧ H d = some (.xd [(wht, tv Z.cl m w)])
  | .dead => True
def isMut : Ob → Bool
  | .lst _ => true | .dct _ => true | .ins _ _ => true | _ => false
structure RelH (Z : St0) (m : Plc) (h : Hq) (H : Hp) : Prop where
  ob : ∀ (i : Nat) (o : Ob), h[i]? = some o → ObR Z m H (m i) o
  inj : ∀ (i j : Nat) (o u : Ob), h[i]? = some o → h[j]? = some u → isMut o = true → isMut u = true → m i = m j → i = j
  wf : ∀ (i : Nat) (o : Ob), h[i]? = some o → wfO h.length o
/-- the places of what stood stay -/
structure Ext (m m' : Plc) (h h' : Hq) : Prop where
  le : h.length ≤ h'.length
  eq : ∀ i, i < h.length → m' i = m i
theorem Ext.refl {m : Plc} {h : Hq} : Ext m m h h := ⟨Nat.le_refl _, fun _ _ => rfl⟩
theorem Ext.trans {m m1 m2 : Plc} {h h1 h2 : Hq} (a : Ext m m1 h h1) (b : Ext m1 m2 h1 h2) : Ext m m2 h h2 :=
  ⟨Nat.le_trans a.le b.le, fun i hi => (b.eq i (Nat.lt_of_lt_of_le hi a.le)).trans (a.eq i hi)⟩
theorem Ext.tv {cl m m' : Plc} {h h' : Hq} (e : Ext m m' h h') : ∀ {w : W}, wfW h.length w → tv cl m' w = tv cl m w
  | .ref n, q => congrArg V.ref (e.eq n q)
  | .non, _ => rfl | .bl _, _ => rfl | .int _, _ => rfl | .str _, _ => rfl | .ty _, _ => rfl | .cls _, _ => rfl
theorem Ext.map {cl m m' : Plc} {h h' : Hq} (e : Ext m m' h h') {xs : List W} (q : ∀ w ∈ xs, wfW h.length w) : xs.map (Mp.tv cl m') = xs.map (Mp.tv cl m) :=
  List.map_congr_left fun w hw => e.tv (q w hw)
theorem Ext.map2 {κ : Type} {cl m m' : Plc} {h h' : Hq} (e : Ext m m' h h') {xs : List (κ × W)} (q : ∀ p ∈ xs, wfW h.length p.2) : xs.map (fun p => (p.1, Mp.tv cl m' p.2)) = xs.map (fun p => (p.1, Mp.tv cl m p.2)) :=
  List.map_congr_left fun p hp => by rw [e.tv (q p hp)]
/-- slots -/
def envV (cl m : Plc) (ρ : Env) : L2.St := ρ.map (Option.map (tv cl m))
def wfE (n : Nat) (ρ : Env) : Prop := ∀ w, some w ∈ ρ → wfW n w
theorem wfE.mono {n k : Nat} (h : n ≤ k) {ρ : Env} (q : wfE n ρ) : wfE k ρ := fun w hw => (q w hw).mono h
theorem Ext.env {cl m m' : Plc} {h h' : Hq} (e : Ext m m' h h') {ρ : Env} (q : wfE h.length ρ) : envV cl m' ρ = envV cl m ρ :=
  List.map_congr_left fun o ho => by
    cases o with
    | none => rfl
    | some w => exact congrArg some (e.tv (q w ho))
theorem wfE.set {n : Nat} {ρ : Env} {i : Nat} {w : W} (q : wfE n ρ) (hw : wfW n w) : wfE n (ρ.set i (some w)) := fun x hx => by
  rcases List.mem_or_eq_of_mem_set hx with h | h
  · exact q x h
  · cases h; exact hw
theorem wfE.setN {n : Nat} {ρ : Env} {i : Nat} (q : wfE n ρ) : wfE n (ρ.set i none) := fun x hx => by
  rcases List.mem_or_eq_of_mem_set hx with h | h
  · exact q x h
  · cases h
theorem envV_set (cl m : Plc) (ρ : Env) (i : Nat) (w : W) : envV cl m (ρ.set i (some w)) = (envV cl m ρ).set i (some (tv cl m w)) := by
  unfold envV; rw [List.map_set]; rfl
theorem envV_setN (cl m : Plc) (ρ : Env) (i : Nat) : envV cl m (ρ.set i none) = (envV cl m ρ).set i none := by
  unfold envV; rw [List.map_set]; rfl
theorem envV_get {cl m : Plc} {ρ : Env} {i : Nat} {w : W} (h : ρ[i]? = some (some w)) : (envV cl m ρ)[i]? = some (some (tv cl m w)) := by
  unfold envV; rw [List.getElem?_map, h]; rfl
theorem wfE.get {n : Nat} {ρ : Env} (q : wfE n ρ) {i : Nat} {w : W} (h : ρ[i]? = some (some w)) : wfW n w := q w (List.mem_of_getElem? h)
/-- a plain object's description stays where what it leans on stays -/
theorem ObR.ext {Z : St0} {m m' : Plc} {h h' : Hq} {H : Hp} {a : Addr} (e : Ext m m' h h') : ∀ {o : Ob}, wfO h.length o → ObR Z m H a o → ObR Z m' H a o
  | .lst xs, q, r => by show _ = _; rw [e.map q]; exact r
  | .tup xs, q, r => by show _ = _; rw [e.map q]; exact r
  | .frl xs, q, r => by show Frl _ _ _ _; rw [e.map q]; exact r
  | .dct xs, q, r => by show _ = _; rw [e.map2 q]; exact r
  | .ins c xs, q, r => by
    obtain ⟨dx, r⟩ := r
    exact ⟨dx, by rw [e.map2 q]; exact r⟩
  | .exc c w, q, r => by
    obtain ⟨oe, d, h1, h2, h3, h4⟩ := r
    exact ⟨oe, d, h1, h2, h3, by rw [e.tv q]; exact h4⟩
  | .dead, _, _ => trivial
/-- .. at another abstract heap that has the same there -/
theorem ObR.at {Z : St0} {m : Plc} {H H' : Hp} {a : Addr} : ∀ {o : Ob}, ObR Z m H a o → (∀ u, H a = some u → H' a = some u) → (∀ d fs, H d = some (.xd fs) → H' d = some (.xd fs)) → ObR Z m H' a o
  | .lst _, r, k, _ => k _ r
  | .tup _, r, k, _ => k _ r
  | .frl _, r, k, _ => r.elim (fun ⟨o, e⟩ => .inl ⟨o, k _ e⟩) .inr
  | .dct _, r, k, _ => k _ r
  | .ins _ _, r, k, _ => let ⟨dx, e⟩ := r; ⟨dx, k _ e⟩
  | .exc _ _, r, _, k => let ⟨oe, d, h1, h2, h3, h4⟩ := r; ⟨oe, d, h1, h2, h3, k _ _ h4⟩
  | .dead, _, _, _ => trivial
theorem ObR.mut {Z : St0} {m : Plc} {H : Hp} {a : Addr} : ∀ {o : Ob}, isMut o = true → ObR Z m H a o → ∃ u, H a = some u ∧ (∀ xs, u ≠ .tup xs) ∧ (∀ q v, u ≠ .frz q v) ∧ (∀ fs, u ≠ .xd fs)
  | .lst _, _, r => ⟨_, r, (fun _ z => nomatch z), (fun _ _ z => nomatch z), (fun _ z => nomatch z)⟩
  | .dct _, _, r => ⟨_, r, (fun _ z => nomatch z), (fun _ _ z => nomatch z), (fun _ z => nomatch z)⟩
  | .ins _ _, _, r => let ⟨_, e⟩ := r; ⟨_, e, (fun _ z => nomatch z), (fun _ _ z => nomatch z), (fun _ z => nomatch z)⟩
/-- a new object -/
theorem RelH.push {Z : St0} {m : Plc} {h : Hq} {H H' : Hp} {p : Addr} {o : Ob} (R : RelH Z m h H) (hp : H p = none) (hk : ∀ b, b ≠ p → H' b = H b)
    (ho : ∀ m', Ext m m' h (h ++ [o]) → m' h.length = p → ObR Z m' H' p o) (hw : wfO (h.length + 1) o) :
    ∃ m', Ext m m' h (h ++ [o]) ∧ m' h.length = p ∧ RelH Z m' (h ++ [o]) H' := by
  refine ⟨fun i => if i = h.length then p else m i, ?_, if_pos rfl, ?_⟩
  · exact ⟨by rw [List.length_append]; exact Nat.le_add_right _ _, fun i hi => if_neg (Nat.ne_of_lt hi)⟩
  have E : Ext m (fun i => if i = h.length then p else m i) h (h ++ [o]) := ⟨by rw [List.length_append]; exact Nat.le_add_right _ _, fun i hi => if_neg (Nat.ne_of_lt hi)⟩
  have split : ∀ (i : Nat) (u : Ob), (h ++ [o])[i]? = some u → (i < h.length ∧ h[i]? = some u) ∨ (i = h.length ∧ u = o) := fun i u e => by
    by_cases hi : i < h.length
    · rw [List.getElem?_append_left hi] at e; exact .inl ⟨hi, e⟩
    · rw [List.getElem?_append_right (by omega)] at e
      have : i - h.length = 0 := by
        by_cases z : i - h.length = 0
        · exact z
        · rw [List.getElem?_eq_none (by simp; omega)] at e; cases e
      rw [this] at e
      exact .inr ⟨by omega, (Option.some.inj e).symm⟩
  have ne : ∀ (i : Nat) (u : Ob), h[i]? = some u → ∀ v, H (m i) = some v → m i ≠ p := fun i u _ v e z => by rw [z, hp] at e; cases e
  refine ⟨fun i u e => ?_, fun i j u v e1 e2 h1 h2 he => ?_, fun i u e => ?_⟩
  · rcases split i u e with ⟨hi, e'⟩ | ⟨hi, rfl⟩
    · show ObR Z _ H' (if i = h.length then p else m i) u
      rw [if_neg (Nat.ne_of_lt hi)]
      refine ((R.ob i u e').ext E (R.wf i u e')).at (fun v hv => ?_) fun d fs hd => ?_
      · rw [hk _ (ne i u e' v hv)]; exact hv
      · rw [hk _ (fun z => by rw [z, hp] at hd; cases hd)]; exact hd
    · subst hi
      show ObR Z _ H' (if h.length = h.length then p else m h.length) u
      rw [if_pos rfl]
      exact ho _ E (if_pos rfl)
  · have he : (if i = h.length then p else m i) = (if j = h.length then p else m j) := he
    rcases split i u e1 with ⟨hi, f1⟩ | ⟨hi, rfl⟩
    · rw [if_neg (Nat.ne_of_lt hi)] at he
      obtain ⟨x, hx, _⟩ := (R.ob i u f1).mut h1
      rcases split j v e2 with ⟨hj, f2⟩ | ⟨hj, _⟩
      · rw [if_neg (Nat.ne_of_lt hj)] at he
        exact R.inj i j u v f1 f2 h1 h2 he
      · rw [if_pos hj] at he
        exact absurd he (ne i u f1 x hx)
    · rw [if_pos hi] at he
      rcases split j v e2 with ⟨hj, f2⟩ | ⟨hj, _⟩
      · rw [if_neg (Nat.ne_of_lt hj)] at he
        obtain ⟨x, hx, _⟩ := (R.ob j v f2).mut h2
        exact absurd he.symm (ne j v f2 x hx)
      · exact hi.trans hj.symm
  · rw [List.length_append]
    rcases split i u e with ⟨hi, e'⟩ | ⟨hi, rfl⟩
    · exact (R.wf i u e').mono (Nat.le_add_right _ _)
    · exact hw
/-- an object is written -/
theorem RelH.write {Z : St0} {m : Plc} {h : Hq} {H H' : Hp} {i : Nat} {o u : Ob} (R : RelH Z m h H) (hi : h[i]? = some o) (mo : isMut o = true) (hk : ∀ b, b ≠ m i → H' b = H b)
    (hu : ObR Z m H' (m i) u) (hw : wfO h.length u) : RelH Z m (h.set i u) H' := by
  obtain ⟨x, hx, h1, h2, h3⟩ := (R.ob i o hi).mut mo
  have hlt : i < h.length := (List.getElem?_eq_some_iff.mp hi).1
  have split : ∀ (j : Nat) (v : Ob), (h.set i u)[j]? = some v → (j = i ∧ v = u) ∨ (j ≠ i ∧ h[j]? = some v) := fun j v e => by
    by_cases hj : i = j
    · subst hj; rw [List.getElem?_set_self hlt] at e; exact .inl ⟨rfl, (Option.some.inj e).symm⟩
    · rw [List.getElem?_set_ne hj] at e; exact .inr ⟨Ne.symm hj, e⟩
  refine ⟨fun j v e => ?_, fun j k v w e1 e2 m1 m2 he => ?_, fun j v e => ?_⟩
  · rcases split j v e with ⟨rfl, rfl⟩ | ⟨hj, e⟩
    · exact hu
    · have r := R.ob j v e
      have dd : ∀ d fs, H d = some (.xd fs) → H' d = some (.xd fs) := fun d fs hd => by
        rw [hk d (fun z => by rw [z, hx] at hd; exact h3 fs (Option.some.inj hd))]; exact hd
      cases v with
      | lst xs => exact r.at (fun q hq => by rw [hk _ (fun z => hj (R.inj j i _ _ e hi rfl mo z))]; exact hq) dd
      | dct xs => exact r.at (fun q hq => by rw [hk _ (fun z => hj (R.inj j i _ _ e hi rfl mo z))]; exact hq) dd
      | ins c xs => exact r.at (fun q hq => by rw [hk _ (fun z => hj (R.inj j i _ _ e hi rfl mo z))]; exact hq) dd
      | tup xs =>
        have r' : H (m j) = some (.tup _) := r
        exact r.at (fun q hq => by rw [hk _ (fun z => by rw [z, hx] at r'; exact h1 _ (Option.some.inj r'))]; exact hq) dd
      | frl xs =>
        rcases r with ⟨q, r⟩ | r
        · exact .inl ⟨q, by rw [hk _ (fun z => by rw [z, hx] at r; exact h2 _ _ (Option.some.inj r))]; exact r⟩
        · exact .inr r
      | exc c w => obtain ⟨oe, d, p1, p2, p3, p4⟩ := r; exact ⟨oe, d, p1, p2, p3, dd _ _ p4⟩
      | dead => trivial
  · have old : ∀ (j : Nat) (v : Ob), (h.set i u)[j]? = some v → isMut v = true → ∃ v', h[j]? = some v' ∧ isMut v' = true := fun j v e mv => by
      rcases split j v e with ⟨rfl, rfl⟩ | ⟨hj, e⟩
      · exact ⟨o, hi, mo⟩
      · exact ⟨v, e, mv⟩
    obtain ⟨v', e1', mv'⟩ := old j v e1 m1
    obtain ⟨w', e2', mw'⟩ := old k w e2 m2
    exact R.inj j k v' w' e1' e2' mv' mw' he
  · rw [List.length_set]
    rcases split j v e with ⟨rfl, rfl⟩ | ⟨hj, e⟩
    · exact hw
    · exact R.wf j v e
/-- nothing of ours is touched -/
theorem RelH.same {Z : St0} {m : Plc} {h : Hq} {H H' : Hp} (R : RelH Z m h H) (hk : ∀ b u, H b = some u → H' b = some u) : RelH Z m h H' :=
  ⟨fun i o e => (R.ob i o e).at (fun u q => hk _ u q) fun d fs q => hk d _ q, R.inj, R.wf⟩

/-! ### what is asked of a computation -/
abbrev Ok (α : Type) := Plc → Hp → α → Hq → Prop
def Res {α : Type} (Z : St0) (m : Plc) (h : Hq) (r : M α) (Q : Ok α) (X : Value → Option Addr → Hp → Prop) : Prop :=
  match r with
  | none => False
  | some (.ok a, h') => ∀ m' H', Ext m m' h h' → RelH Z m' h' H' → Q m' H' a h'
  | some (.exc c w, h') => ∀ m' H' d, Ext m m' h h' → RelH Z m' h' H' → wfW h'.length w → H' d = some (.xd [(wht, tv Z.cl m' w)]) → X (.ref (Z.cl c)) (some d) H'
theorem Res.mono {α : Type} {Z : St0} {m : Plc} {h : Hq} {r : M α} {Q Q' : Ok α} {X : Value → Option Addr → Hp → Prop} (a : Res Z m h r Q X)
    (k : ∀ m' H' v h', Ext m m' h h' → RelH Z m' h' H' → Q m' H' v h' → Q' m' H' v h') : Res Z m h r Q' X := by
  match r, a with
  | some (.ok v, h'), a => exact fun m' H' e R => k m' H' v h' e R (a m' H' e R)
  | some (.exc c w, h'), a => exact a
theorem Res.bnd {α β : Type} {Z : St0} {m : Plc} {h : Hq} {r : M α} {f : α → Hq → M β} {Q : Ok β} {X : Value → Option Addr → Hp → Prop} (a : Res Z m h (bnd r f) Q X) :
    Res Z m h r (fun m1 _ v h1 => Res Z m1 h1 (f v h1) Q X) X := by
  match r, a with
  | some (.ok v, h1), a =>
    intro m1 H1 e1 R1
    have a : Res Z m h (f v h1) Q X := a
    match hf : f v h1, a with
    | some (.ok u, h2), a => rw [hf] at *; exact fun m2 H2 e2 R2 => a m2 H2 (e1.trans e2) R2
    | some (.exc c w, h2), a => rw [hf] at *; exact fun m2 H2 d e2 R2 => a m2 H2 d (e1.trans e2) R2
    | none, a => exact a.elim
  | some (.exc c w, h'), a => exact a
theorem Res.of_ret {α : Type} {Z : St0} {m : Plc} {h : Hq} {v : α} {H : Hp} {Q : Ok α} {X : Value → Option Addr → Hp → Prop} (a : Res Z m h (ret v h) Q X) (R : RelH Z m h H) : Q m H v h := a m H .refl R
/-- a new object's end -/
theorem Res.of_alloc {Z : St0} {m : Plc} {h : Hq} {o : Ob} {H H' : Hp} {p : Addr} {Q : Ok W} {X : Value → Option Addr → Hp → Prop} (a : Res Z m h (alloc o h) Q X) (R : RelH Z m h H) (hp : H p = none) (hk : ∀ b, b ≠ p → H' b = H b)
    (ho : ∀ m', Ext m m' h (h ++ [o]) → m' h.length = p → ObR Z m' H' p o) (hw : wfO (h.length + 1) o) : ∃ m', Ext m m' h (h ++ [o]) ∧ tv Z.cl m' (.ref h.length) = .ref p ∧ RelH Z m' (h ++ [o]) H' ∧ Q m' H' (.ref h.length) (h ++ [o]) := by
  obtain ⟨m', e, hm, R'⟩ := R.push hp hk ho hw
  exact ⟨m', e, congrArg V.ref hm, R', a m' H' e R'⟩
end Mp
set_option Elab.async false
set_option linter.all false
set_option maxRecDepth 100000
set_option maxHeartbeats 4000000
/-! Mp C: each operation by values: what the interpreter gives, the hand layer's reading asks. -/
namespace Mp
open PySem PySem.Spec PyProof.Rows L2
/-- what a value's end asks -/
abbrev qW (Z : St0) (Q : VK) : Ok W := fun m' H' v h' => wfW h'.length v → Q (tv Z.cl m' v) H'
theorem allocL {Z : St0} {m : Plc} {h : Hq} {H : Hp} {xs : List W} {Q : VK} {X : Value → Option Addr → Hp → Prop} (a : Res Z m h (alloc (.lst xs) h) (qW Z Q) X) (R : RelH Z m h H) (hw : ∀ w ∈ xs, wfW h.length w) :
    ∀ p, H p = none → Q (.ref p) (upd H p (.lst (xs.map (tv Z.cl m)))) := fun p hp => by
  obtain ⟨m', e, et, R', q⟩ := a.of_alloc (H' := upd H p (.lst (xs.map (tv Z.cl m)))) R hp (fun b hb => upd_ne hb) (fun m' e _ => by show _ = _; rw [upd_same, e.map hw]) (fun w hw' => (hw w hw').mono (Nat.le_succ _))
  have q := q (by show h.length < (h ++ [Ob.lst xs]).length; rw [List.length_append]; exact Nat.lt_succ_self _)
  rw [et] at q
  exact q
theorem allocT {Z : St0} {m : Plc} {h : Hq} {H : Hp} {xs : List W} {Q : VK} {X : Value → Option Addr → Hp → Prop} (a : Res Z m h (alloc (.tup xs) h) (qW Z Q) X) (R : RelH Z m h H) (hw : ∀ w ∈ xs, wfW h.length w) :
    ∀ p, H p = none → Q (.ref p) (upd H p (.tup (xs.map (tv Z.cl m)))) := fun p hp => by
  obtain ⟨m', e, et, R', q⟩ := a.of_alloc (H' := upd H p (.tup (xs.map (tv Z.cl m)))) R hp (fun b hb => upd_ne hb) (fun m' e _ => by show _ = _; rw [upd_same, e.map hw]) (fun w hw' => (hw w hw').mono (Nat.le_succ _))
  have q := q (by show h.length < (h ++ [Ob.tup xs]).length; rw [List.length_append]; exact Nat.lt_succ_self _)
  rw [et] at q
  exact q
/-- a rule of two values serves the interpreter's function -/
def Op2 (Z : St0) (r : R2) (f : W → W → Hq → M W) : Prop := ∀ (m : Plc) (h : Hq) (H : Hp) (x y : W) (Q : VK) (X : Value → Option Addr → Hp → Prop),
  RelH Z m h H → wfW h.length x → wfW h.length y → Res Z m h (f x y h) (qW Z Q) X → r (tv Z.cl m x) (tv Z.cl m y) H Q
theorem line_eq : line = sizeLine := sizeLine_eq.symm
section
variable {Z : St0} {X : Cx}
theorem Res.none' {α : Type} {m : Plc} {h : Hq} {Q : Ok α} {X : Value → Option Addr → Hp → Prop} {P : Prop} (a : Res Z m h (none : M α) Q X) : P := False.elim a
abbrev rAdd4 (K : PySem.W.Frag) : R2 := fun x y H Q => rI0 (fun i j => .int (i + j)) x y H Q ∨ (∃ i j, x = .str i ∧ y = .str j ∧ i.length + j.length ≤ sizeLine ∧ Q (.str (i ++ j)) H) ∨ rCat x y H Q ∨ rCatT K x y H Q
theorem opAdd : OpR X (binaryOp .Add) (rAdd4 X.K) := op_add.or (op_add_str.or (op_cat.or op_catT))
theorem op2_add : Op2 Z (rAdd4 Z.K) addV := by
  intro m h H x y Q X R wx wy a
  cases x with
  | int i => cases y with
    | int j => exact .inl ⟨i, j, rfl, rfl, a.of_ret R trivial⟩
    | _ => exact a.none'
  | str s => cases y with
    | str t =>
      unfold addV at a
      dsimp only at a
      split at a
      · rename_i hz
        exact .inr (.inl ⟨s, t, rfl, rfl, by rw [← line_eq]; exact hz, a.of_ret R trivial⟩)
      · exact a.none'
    | _ => exact a.none'
  | ref i => cases y with
    | ref j =>
      unfold addV at a
      dsimp only at a
      split at a
      · rename_i xs ys hi hj
        split at a
        · rename_i hz
          have ri : H (m i) = some (.lst (xs.map (tv Z.cl m))) := R.ob i _ hi
          have rj : H (m j) = some (.lst (ys.map (tv Z.cl m))) := R.ob j _ hj
          refine .inr (.inr (.inl ⟨m i, m j, _, _, rfl, rfl, ri, rj, by rw [List.length_map, List.length_map, ← line_eq]; exact hz, ?_⟩))
          have q := allocL a R (fun w hw => (List.mem_append.mp hw).elim (fun z => R.wf i _ hi w z) fun z => R.wf j _ hj w z)
          rw [List.map_append] at q
          exact q
        · exact a.none'
      · rename_i xs ys hi hj
        split at a
        · rename_i hz
          have ri : H (m i) = some (.tup (xs.map (tv Z.cl m))) := R.ob i _ hi
          have rj : H (m j) = some (.tup (ys.map (tv Z.cl m))) := R.ob j _ hj
          refine .inr (.inr (.inr ⟨m i, m j, _, _, rfl, rfl, .of ri, .of rj, fun z => hz.2 (List.map_eq_nil_iff.mp z), by rw [List.length_map, List.length_map, ← line_eq]; exact hz.1, fun z => ?_, fun z => ?_⟩))
          · rw [if_pos (List.map_eq_nil_iff.mp z)] at a
            exact a.of_ret R wx
          · rw [if_neg (fun e => z (by rw [e]; rfl))] at a
            have q := allocT a R (fun w hw => (List.mem_append.mp hw).elim (fun z => R.wf i _ hi w z) fun z => R.wf j _ hj w z)
            rw [List.map_append] at q
            exact q
        · exact a.none'
      · exact a.none'
    | _ => exact a.none'
  | _ => exact a.none'
theorem op2_sub : Op2 Z (rI0 fun i j => .int (i - j)) subV := by
  intro m h H x y Q X R wx wy a
  cases x with
  | int i => cases y with
    | int j => exact ⟨i, j, rfl, rfl, a.of_ret R trivial⟩
    | _ => exact a.none'
  | _ => exact a.none'
/-- a text, k times -/
def rRepS : R2 := fun x y H Q => ∃ s n, x = .str s ∧ y = .int n ∧ (-1000000 ≤ n ∧ n ≤ 1000000 ∧ s.length * n.toNat ≤ line) ∧ Q (.str (repS s n)) H
theorem op_rep_str : OpR X (binaryOp .Mult) rRepS := by
  intro pins s σ H x y v u Q I rx ry h
  obtain ⟨z, n, rfl, rfl, ⟨h1, h2, h3⟩, q⟩ := h
  obtain ⟨t, rfl⟩ := rx
  obtain ⟨t', rfl⟩ := ry
  have hl : ¬ n < 1 → (n == 1 || z.length == 0) = false → Builtin.Str.tooLong (z.length * n.toNat) = false := fun _ _ => by
    unfold Builtin.Str.tooLong
    exact decide_eq_false (by rw [sizeLine_eq]; exact Nat.not_lt.mpr h3)
  refine P.mul_str (by rw [decide_eq_false (by omega), decide_eq_false (by omega)] <;> rfl) (fun g1 g2 => ?_) hl ?_
  · have g3 : 1 ≤ n := by omega
    have g4 : (z.length : Int) * n ≤ 16777216 := by
      have : ((z.length * n.toNat : Nat) : Int) ≤ ((line : Nat) : Int) := Int.ofNat_le.mpr h3
      rw [Int.natCast_mul, Int.toNat_of_nonneg (by omega)] at this
      exact this
    have g5 : (z.length : Int) ≤ (2 ^ 63 - 1) / n := by
      rw [Int.le_ediv_iff_mul_le (by omega)]
      omega
    omega
  · unfold repS at q
    split
    · rename_i c
      rw [if_pos c] at q
      exact ⟨by decide, .str Str.empty, H, I.tok _, ⟨_, rfl⟩, q⟩
    · rename_i c
      rw [if_neg c] at q
      split
      · rename_i d
        rw [if_pos d] at q
        exact ⟨.str z, H, I, ⟨_, rfl⟩, q⟩
      · rename_i d
        rw [if_neg d] at q
        exact ⟨PySem.fits_reps (hl (by omega) (by simpa using d)), .str _, H, I.tok _, ⟨_, rfl⟩, q⟩

abbrev rMul3 : R2 := fun x y H Q => rI CMulW (fun i j => .int (i * j)) x y H Q ∨ rRepS x y H Q ∨ rRep x y H Q
theorem opMul : OpR X (binaryOp .Mult) rMul3 := op_mulW.or (op_rep_str.or op_rep)
theorem op2_mul : Op2 Z rMul3 mulV := by
  intro m h H x y Q X R wx wy a
  cases x with
  | int i => cases y with
    | int j =>
      unfold mulV at a
      dsimp only at a
      split at a
      · rename_i hc
        exact .inl ⟨i, j, rfl, rfl, hc, a.of_ret R trivial⟩
      · exact a.none'
    | _ => exact a.none'
  | str s => cases y with
    | int n =>
      unfold mulV at a
      dsimp only at a
      split at a
      · rename_i hc
        exact .inr (.inl ⟨s, n, rfl, rfl, hc, a.of_ret R trivial⟩)
      · exact a.none'
    | _ => exact a.none'
  | ref i => cases y with
    | int n =>
      unfold mulV at a
      dsimp only at a
      split at a
      · rename_i xs hi
        split at a
        · rename_i hc
          have ri : H (m i) = some (.lst (xs.map (tv Z.cl m))) := R.ob i _ hi
          refine .inr (.inr ⟨m i, n, _, rfl, rfl, ri, by omega, by omega, by rw [List.length_map, ← line_eq]; exact hc.2.2, ?_⟩)
          have q := allocL a R (fun w hw => by
            obtain ⟨l, hl, hw⟩ := List.mem_flatten.mp hw
            rw [(List.mem_replicate.mp hl).2] at hw
            exact R.wf i _ hi w hw)
          rw [List.map_flatten, List.map_replicate] at q
          exact q
        · exact a.none'
      · exact a.none'
    | _ => exact a.none'
  | _ => exact a.none'
theorem op2_fdiv : Op2 Z (rI CDivW fun i j => .int (i / j)) fdivV := by
  intro m h H x y Q X R wx wy a
  cases x with
  | int i => cases y with
    | int j =>
      unfold fdivV at a
      dsimp only at a
      split at a
      · rename_i hc
        exact ⟨i, j, rfl, rfl, hc, a.of_ret R trivial⟩
      · exact a.none'
    | _ => exact a.none'
  | _ => exact a.none'
theorem op2_mod : Op2 Z (rI (fun _ j => 0 < j) fun i j => .int (i % j)) modV := by
  intro m h H x y Q X R wx wy a
  cases x with
  | int i => cases y with
    | int j =>
      unfold modV at a
      dsimp only at a
      split at a
      · rename_i hc
        exact ⟨i, j, rfl, rfl, hc, a.of_ret R trivial⟩
      · exact a.none'
    | _ => exact a.none'
  | _ => exact a.none'
def CPowW (i n : Int) : Prop := 0 ≤ n ∧ (Builtin.Int.intBits i : Int) * n ≤ 134217728
theorem op_powW : OpR X (binaryOp .Pow) (rI CPowW fun i j => .int (i ^ j.toNat)) := opI fun _ _ _ _ _ _ _ hc q => pow_int hc.1 hc.2 q
theorem op2_pow : Op2 Z (rI CPowW fun i j => .int (i ^ j.toNat)) powV := by
  intro m h H x y Q X R wx wy a
  cases x with
  | int i => cases y with
    | int j =>
      unfold powV at a
      dsimp only at a
      split at a
      · rename_i hc
        exact ⟨i, j, rfl, rfl, hc, a.of_ret R trivial⟩
      · exact a.none'
    | _ => exact a.none'
  | _ => exact a.none'
/-- the binary operators -/
def opOf : BOp → Operator
  | .add => .Add | .sub => .Sub | .mul => .Mult | .fdiv => .FloorDiv | .mod => .Mod | .pow => .Pow
def rBin (K : PySem.W.Frag) : BOp → R2
  | .add => rAdd4 K | .sub => rI0 fun i j => .int (i - j) | .mul => rMul3 | .fdiv => rI CDivW fun i j => .int (i / j)
  | .mod => rI (fun _ j => 0 < j) fun i j => .int (i % j) | .pow => rI CPowW fun i j => .int (i ^ j.toNat)
theorem opBin : ∀ o : BOp, OpR X (binaryOp (opOf o)) (rBin X.K o)
  | .add => opAdd | .sub => op_sub | .mul => opMul | .fdiv => op_fdivW | .mod => op_mod | .pow => op_powW
theorem op2Bin : ∀ o : BOp, Op2 Z (rBin Z.K o) (binV o)
  | .add => op2_add | .sub => op2_sub | .mul => op2_mul | .fdiv => op2_fdiv | .mod => op2_mod | .pow => op2_pow
/-! ### x op= y -/
def rAug : BOp → R2
  | .add => fun x y H Q => rI0 (fun i j => .int (i + j)) x y H Q ∨ (∃ i j, x = .str i ∧ y = .str j ∧ i.length + j.length ≤ sizeLine ∧ Q (.str (i ++ j)) H)
  | .sub => rI0 fun i j => .int (i - j)
  | _ => fun _ _ _ _ => False
theorem pip_of {op : Operator} {r : R2} (h : OpR X (inplaceOp op) r) : PIp X op r := fun pins s σ H x y v u Q I rx ry q => h pins s σ H x y v u Q I rx ry q
theorem opAug : ∀ o : BOp, PIp X (opOf o) (rAug o)
  | .add => pip_of (iop_add.or iop_add_str)
  | .sub => pip_of iop_sub
  | .mul => fun _ _ _ _ _ _ _ _ _ _ _ _ q => q.elim
  | .fdiv => fun _ _ _ _ _ _ _ _ _ _ _ _ q => q.elim
  | .mod => fun _ _ _ _ _ _ _ _ _ _ _ _ q => q.elim
  | .pow => fun _ _ _ _ _ _ _ _ _ _ _ _ q => q.elim
theorem op2Aug : ∀ o : BOp, Op2 Z (rAug o) (augV o) := by
  intro o m h H x y Q X R wx wy a
  cases o with
  | add => cases x with
    | int i => cases y with
      | int j => exact .inl ⟨i, j, rfl, rfl, a.of_ret R trivial⟩
      | _ => exact a.none'
    | str s => cases y with
      | str t =>
        unfold augV at a
        dsimp only at a
        split at a
        · rename_i hz
          exact .inr ⟨s, t, rfl, rfl, by rw [← line_eq]; exact hz, a.of_ret R trivial⟩
        · exact a.none'
      | _ => exact a.none'
    | _ => exact a.none'
  | sub => cases x with
    | int i => cases y with
      | int j => exact ⟨i, j, rfl, rfl, a.of_ret R trivial⟩
      | _ => exact a.none'
    | _ => exact a.none'
  | _ => exact a.none'
/-! ### comparisons -/
theorem scal_tv {m : Plc} {x y : W} (h : scalW x y = true) : scal (tv Z.cl m x) (tv Z.cl m y) = true ∧ decide (tv Z.cl m x = tv Z.cl m y) = decide (x = y) := by
  cases x <;> cases y <;> first | cases h; done | (refine ⟨rfl, ?_⟩; simp [tv])
theorem rdD_ok {m : Plc} {h : Hq} {H : Hp} (R : RelH Z m h H) : ∀ (n : Nat) (w : W) (d : PyData), rdD h n w = some d → Dp Z.K H (tv Z.cl m w) d := by
  intro n
  induction n with
  | zero => intro w d e; cases e
  | succ n ih =>
    have all : ∀ (xs : List W) (ds : List PyData), xs.mapM (rdD h n) = some ds → DpAll Z.K H (xs.map (tv Z.cl m)) ds := by
      intro xs
      induction xs with
      | nil => intro ds e; simp at e; subst e; exact .nil
      | cons x xs ihx =>
        intro ds e
        rw [List.mapM_cons] at e
        cases e1 : rdD h n x with
        | none => rw [e1] at e; cases e
        | some d1 =>
          cases e2 : xs.mapM (rdD h n) with
          | none => rw [e1, e2] at e; cases e
          | some d2 =>
            rw [e1, e2] at e
            cases e
            exact .cons (ih _ _ e1) (ihx _ e2)
    intro w d e
    cases w with
    | non => cases e; exact .non
    | bl b => cases e; exact .bl b
    | int i => cases e; exact .int i
    | str x => cases e; exact .str x
    | ty n => cases e
    | cls c => cases e
    | ref a =>
      unfold rdD at e
      dsimp only at e
      cases ha : h[a]? with
      | none => rw [ha] at e; cases e
      | some o =>
        rw [ha] at e
        have r := R.ob a o ha
        cases o with
        | lst xs =>
          dsimp only at e
          cases e2 : xs.mapM (rdD h n) with
          | none => rw [e2] at e; cases e
          | some ds => rw [e2] at e; cases e; exact .lst (.of r) (all _ _ e2)
        | frl xs =>
          dsimp only at e
          cases e2 : xs.mapM (rdD h n) with
          | none => rw [e2] at e; cases e
          | some ds => rw [e2] at e; cases e; exact .lst (Frl.sq r) (all _ _ e2)
        | tup xs =>
          dsimp only at e
          cases e2 : xs.mapM (rdD h n) with
          | none => rw [e2] at e; cases e
          | some ds => rw [e2] at e; cases e; exact .tup (.of r) (all _ _ e2)
        | _ => cases e
/-- a comparison by values -/
def Cmp2 (Z : St0) (r : R2) (f : W → W → Hq → Option Bool) : Prop := ∀ (m : Plc) (h : Hq) (H : Hp) (x y : W) (b : Bool) (Q : VK),
  RelH Z m h H → f x y h = some b → Q (.bl b) H → r (tv Z.cl m x) (tv Z.cl m y) H Q
abbrev rEq2 (K : PySem.W.Frag) : R2 := fun x y H Q => rEq x y H Q ∨ rEqD K x y H Q
abbrev rNe2 (K : PySem.W.Frag) : R2 := fun x y H Q => rNe x y H Q ∨ rNeD K x y H Q
theorem cmp_eq : Cmp2 Z (rEq2 Z.K) eqV := by
  intro m h H x y b Q R e q
  unfold eqV at e
  split at e
  · rename_i hs
    obtain ⟨h1, h2⟩ := scal_tv (Z := Z) (m := m) hs
    cases e
    exact .inl ⟨h1, by rw [h2]; exact q⟩
  · split at e
    · rename_i d1 d2 e1 e2
      split at e
      · rename_i hc
        cases e
        obtain ⟨c1, c2⟩ := Bool.and_eq_true_iff.mp hc
        exact .inr ⟨d1, d2, rdD_ok R _ _ _ e1, rdD_ok R _ _ _ e2, c1, c2, q⟩
      · cases e
    · cases e
theorem cmp_ne : Cmp2 Z (rNe2 Z.K) fun x y h => (eqV x y h).map (!·) := by
  intro m h H x y b Q R e q
  have e : Option.map (fun x => !x) (eqV x y h) = some b := e
  cases e0 : eqV x y h with
  | none => rw [e0] at e; cases e
  | some c =>
    rw [e0] at e
    have e : some (!c) = some b := e
    cases e
    unfold eqV at e0
    split at e0
    · rename_i hs
      obtain ⟨h1, h2⟩ := scal_tv (Z := Z) (m := m) hs
      cases e0
      exact .inl ⟨h1, by rw [h2]; exact q⟩
    · split at e0
      · rename_i d1 d2 e1 e2
        split at e0
        · rename_i hc
          cases e0
          obtain ⟨c1, c2⟩ := Bool.and_eq_true_iff.mp hc
          exact .inr ⟨d1, d2, rdD_ok R _ _ _ e1, rdD_ok R _ _ _ e2, c1, c2, q⟩
        · cases e0
      · cases e0
def rOrd (f : Int → Int → Bool) (g : Str → Str → Bool) : R2 := fun x y H Q => rI0 (fun i j => .bl (f i j)) x y H Q ∨ ∃ i j, x = .str i ∧ y = .str j ∧ Q (.bl (g i j)) H
theorem cmp_ord {f : Int → Int → Bool} {g : Str → Str → Bool} : Cmp2 Z (rOrd f g) fun x y _ => ordV f g x y := by
  intro m h H x y b Q R e q
  cases x with
  | int i => cases y with
    | int j => cases e; exact .inl ⟨i, j, rfl, rfl, q⟩
    | _ => cases e
  | str i => cases y with
    | str j => cases e; exact .inr ⟨i, j, rfl, rfl, q⟩
    | _ => cases e
  | _ => cases y <;> cases e
theorem flat_tv {m : Plc} {x : W} (h : flatW x = true) : flatV (tv Z.cl m x) = true := by cases x <;> first | rfl | cases h
theorem flats_tv {m : Plc} {xs : List W} (h : xs.all flatW = true) : (xs.map (tv Z.cl m)).all flatV = true := by
  rw [List.all_map]; exact List.all_eq_true.mpr fun x hx => flat_tv (List.all_eq_true.mp h x hx)
theorem eqF_tv {m : Plc} {x y : W} (hx : flatW x = true) (hy : flatW y = true) : L2.eqV (tv Z.cl m x) (tv Z.cl m y) = eqF x y := by
  cases x <;> cases y <;> first | rfl | cases hx; done | cases hy
theorem inV_tv {m : Plc} {x : W} {xs : List W} (hx : flatW x = true) (h : xs.all flatW = true) : inV (tv Z.cl m x) (xs.map (tv Z.cl m)) = xs.any fun y => eqF y x := by
  unfold inV
  rw [List.any_map]
  rw [Bool.eq_iff_iff, List.any_eq_true, List.any_eq_true]
  constructor
  · rintro ⟨y, hy, e⟩; exact ⟨y, hy, by rw [← eqF_tv (Z := Z) (m := m) (List.all_eq_true.mp h y hy) hx]; exact e⟩
  · rintro ⟨y, hy, e⟩; exact ⟨y, hy, by show L2.eqV _ _ = true; rw [eqF_tv (List.all_eq_true.mp h y hy) hx]; exact e⟩
abbrev rIn2 (K : PySem.W.Frag) (n : Bool) : R2 := fun x y H Q => (∃ i j, x = .str i ∧ y = .str j ∧ Q (.bl (if n then !hasS i j else hasS i j)) H) ∨ rIn K n x y H Q
theorem opIn : OpR X (compareOp .In) (rIn2 X.K false) := op_in_str.or op_in_seq
theorem opNin : OpR X (compareOp .NotIn) (rIn2 X.K true) := op_notIn_str.or op_notIn_seq
theorem in_core {m : Plc} {h : Hq} {H : Hp} {x y : W} {b n : Bool} {Q : VK} (R : RelH Z m h H) (e : inW x y h = some b) (q : Q (.bl (if n then !b else b)) H) : rIn2 Z.K n (tv Z.cl m x) (tv Z.cl m y) H Q := by
  have seq : ∀ (a : Nat) (ys : List W), (SqL Z.K H (m a) (ys.map (tv Z.cl m)) ∨ SqT Z.K H (m a) (ys.map (tv Z.cl m))) → y = .ref a → (if flatW x && ys.all flatW then some (ys.any fun y => eqF y x) else none) = some b → rIn2 Z.K n (tv Z.cl m x) (tv Z.cl m y) H Q := by
    intro a ys hs ey e'
    clear e
    subst ey
    split at e'
    · rename_i hc
      obtain ⟨h1, h2⟩ := Bool.and_eq_true_iff.mp hc
      cases e'
      refine .inr ⟨m a, _, rfl, hs, flat_tv h1, flats_tv h2, ?_⟩
      rw [inV_tv h1 h2]
      exact q
    · cases e'
  cases y with
  | str t => cases x with
    | str s => cases e; exact .inl ⟨s, t, rfl, rfl, q⟩
    | _ => cases e
  | ref a =>
    have e : (match h[a]? with
      | some (.lst ys) => if flatW x && ys.all flatW then some (ys.any fun y => eqF y x) else none
      | some (.frl ys) => if flatW x && ys.all flatW then some (ys.any fun y => eqF y x) else none
      | some (.tup ys) => if flatW x && ys.all flatW then some (ys.any fun y => eqF y x) else none
      | _ => none) = some b := by cases x <;> exact e
    cases ha : h[a]? with
    | none => rw [ha] at e; cases e
    | some o =>
      rw [ha] at e
      have r := R.ob a o ha
      cases o with
      | lst ys => exact seq a ys (.inl (.of r)) rfl e
      | frl ys => exact seq a ys (.inl (Frl.sq r)) rfl e
      | tup ys => exact seq a ys (.inr (.of r)) rfl e
      | _ => cases e
  | _ => cases x <;> cases e
theorem cmp_in : Cmp2 Z (rIn2 Z.K false) inW := fun m h H x y b Q R e q => in_core R e q
theorem cmp_nin : Cmp2 Z (rIn2 Z.K true) fun x y h => (inW x y h).map (!·) := fun m h H x y b Q R e q => by
  have e : Option.map (fun x => !x) (inW x y h) = some b := e
  cases e0 : inW x y h with
  | none => rw [e0] at e; cases e
  | some c =>
    rw [e0] at e
    have e : some (!c) = some b := e
    cases e
    exact in_core R e0 q
def copOf : COp → CmpOp
  | .eq => .Eq | .ne => .NotEq | .lt => .Lt | .le => .LtE | .gt => .Gt | .ge => .GtE | .isin => .In | .nin => .NotIn
def rCmp (K : PySem.W.Frag) : COp → R2
  | .eq => rEq2 K | .ne => rNe2 K | .lt => rOrd (fun i j => decide (i < j)) ltS | .le => rOrd (fun i j => decide (i ≤ j)) (fun a b => !ltS b a)
  | .gt => rOrd (fun i j => decide (j < i)) (fun a b => ltS b a) | .ge => rOrd (fun i j => decide (j ≤ i)) (fun a b => !ltS a b) | .isin => rIn2 K false | .nin => rIn2 K true
theorem opCmp (hu : X.A.units + 64 < cLine) : ∀ o : COp, OpR X (compareOp (copOf o)) (rCmp X.K o)
  | .eq => op_eq.or (op_eqD hu) | .ne => op_ne.or (op_neD hu)
  | .lt => op_lt.or op_lt_str | .le => op_le.or op_le_str | .gt => op_gt.or op_gt_str | .ge => op_ge.or op_ge_str
  | .isin => opIn | .nin => opNin
theorem cmp2 : ∀ o : COp, Cmp2 Z (rCmp Z.K o) (cmpV o)
  | .eq => cmp_eq | .ne => cmp_ne | .lt => cmp_ord | .le => cmp_ord | .gt => cmp_ord | .ge => cmp_ord | .isin => cmp_in | .nin => cmp_nin
end
end Mp
set_option Elab.async false
set_option linter.all false
set_option maxRecDepth 100000
set_option maxHeartbeats 4000000
/-! Mp D: truth, items, slices, stores, built-in functions, methods, by values. -/
namespace Mp
open PySem PySem.Spec PyProof.Rows L2
section
variable {Z : St0} {X : Cx}
theorem isEmpty_map {α β : Type} (f : α → β) (xs : List α) : (xs.map f).isEmpty = xs.isEmpty := by cases xs <;> rfl
theorem tru_tv {m : Plc} {h : Hq} {H : Hp} {w : W} {b : Bool} (R : RelH Z m h H) (e : truV h w = some b) : TruV Z.K (tv Z.cl m w) H b := by
  cases w with
  | non => cases e; rfl
  | bl c => cases e; rfl
  | int i => cases e; rfl
  | str x =>
    unfold truV at e
    dsimp only at e
    split at e
    · rename_i hz; cases e; exact ⟨by rw [← line_eq]; exact hz, rfl⟩
    · cases e
  | ref a =>
    unfold truV at e
    dsimp only at e
    cases ha : h[a]? with
    | none => rw [ha] at e; cases e
    | some o =>
      rw [ha] at e
      have r := R.ob a o ha
      cases o with
      | lst xs => cases e; exact .inl ⟨_, .of r, by rw [isEmpty_map]⟩
      | frl xs => cases e; exact .inl ⟨_, Frl.sq r, by rw [isEmpty_map]⟩
      | tup xs => cases e; exact .inr (.inl ⟨_, .of r, by rw [isEmpty_map]⟩)
      | dct xs => cases e; exact .inr (.inr ⟨_, r, by rw [isEmpty_map]⟩)
      | _ => cases e
  | ty n => cases e
  | cls c => cases e
/-! ### x[i] -/
theorem atI_map {α β : Type} (f : α → β) (xs : List α) (i : Int) : atI (xs.map f) i = (atI xs i).map f := by
  unfold atI
  rw [List.length_map]
  cases ixN xs.length i with
  | none => rfl
  | some j => show (xs.map f)[j]? = (xs[j]?).map f; rw [List.getElem?_map]
theorem atI_mem {α : Type} {xs : List α} {i : Int} {v : α} (h : atI xs i = some v) : v ∈ xs := by
  obtain ⟨j, _, e, _⟩ := atI_get h
  exact List.mem_of_getElem? e
theorem op2_ix : Op2 Z (rIx Z.K) ixV := by
  intro m h H x y Q Xc R wx wy a
  cases y with
  | int k =>
    cases x with
    | str z =>
      unfold ixV at a
      dsimp only at a
      split at a
      · rename_i hz
        split at a
        · rename_i c hc
          exact .inr (.inr ⟨z, k, c, rfl, rfl, by rw [← line_eq]; exact hz, hc, a.of_ret R trivial⟩)
        · exact a.none'
      · exact a.none'
    | ref i =>
      unfold ixV at a
      dsimp only at a
      cases hi : h[i]? with
      | none => rw [hi] at a; exact a.none'
      | some o =>
        rw [hi] at a
        have r := R.ob i o hi
        have wfo := R.wf i o hi
        cases o with
        | lst xs =>
          dsimp only at a
          split at a
          · rename_i v hv
            exact .inl ⟨m i, _, k, _, rfl, rfl, .of r, by rw [atI_map, hv]; rfl, a.of_ret R (wfo v (atI_mem hv))⟩
          · exact a.none'
        | frl xs =>
          dsimp only at a
          split at a
          · rename_i v hv
            exact .inl ⟨m i, _, k, _, rfl, rfl, Frl.sq r, by rw [atI_map, hv]; rfl, a.of_ret R (wfo v (atI_mem hv))⟩
          · exact a.none'
        | tup xs =>
          dsimp only at a
          split at a
          · rename_i v hv
            exact .inr (.inl ⟨m i, _, k, _, rfl, rfl, .of r, by rw [atI_map, hv]; rfl, a.of_ret R (wfo v (atI_mem hv))⟩)
          · exact a.none'
        | _ => exact a.none'
    | _ => exact a.none'
  | _ => cases x <;> exact a.none'
/-! ### slices -/
theorem cut_map {α β : Type} (f : α → β) (xs : List α) (lo hi : Option Int) : (cutL xs lo hi).map f = cutL (xs.map f) lo hi := by
  unfold cutL
  rw [List.length_map, List.map_take, List.map_drop]
theorem cut_mem {α : Type} {xs : List α} {lo hi : Option Int} {x : α} (h : x ∈ cutL xs lo hi) : x ∈ xs := List.mem_of_mem_drop (List.mem_of_mem_take h)
abbrev rSl2 (K : PySem.W.Frag) : V → Option Int → Option Int → Hp → VK → Prop := fun x lo hi H Q => rSlL K x lo hi H Q ∨ rSlS x lo hi H Q
theorem slBoth : SlR X (rSl2 X.K) := sl_list.or sl_str
theorem cut_ok {m : Plc} {h : Hq} {H : Hp} {x : W} {lo hi : Option Int} {Q : VK} {Xc : Value → Option Addr → Hp → Prop} (R : RelH Z m h H) (a : Res Z m h (cutW x lo hi h) (qW Z Q) Xc) : rSl2 Z.K (tv Z.cl m x) lo hi H Q := by
  cases x with
  | str z =>
    unfold cutW at a
    dsimp only at a
    split at a
    · rename_i hz
      exact .inr ⟨z, rfl, by rw [← line_eq]; exact hz, a.of_ret R trivial⟩
    · exact a.none'
  | ref i =>
    unfold cutW at a
    dsimp only at a
    cases hi' : h[i]? with
    | none => rw [hi'] at a; exact a.none'
    | some o =>
      rw [hi'] at a
      have r := R.ob i o hi'
      have wfo := R.wf i o hi'
      cases o with
      | lst xs =>
        refine .inl ⟨m i, _, rfl, .of r, ?_⟩
        have q := allocL a R (fun w hw => wfo w (cut_mem hw))
        rw [cut_map] at q
        exact q
      | frl xs =>
        refine .inl ⟨m i, _, rfl, Frl.sq r, ?_⟩
        have q := allocL a R (fun w hw => wfo w (cut_mem hw))
        rw [cut_map] at q
        exact q
      | _ => exact a.none'
  | _ => exact a.none'
/-! ### o[i] = v -/
theorem set_ok {m : Plc} {h h' : Hq} {H : Hp} {o i v : W} {Q : Hp → Prop} (R : RelH Z m h H) (wv : wfW h.length v) (e : setV o i v h = some h') (q : ∀ H', RelH Z m h' H' → Q H') (ext : h'.length = h.length → True) :
    rSetL (tv Z.cl m o) (tv Z.cl m i) (tv Z.cl m v) H Q := by
  cases o with
  | ref a =>
    unfold setV at e
    dsimp only at e
    cases ha : h[a]? with
    | none => rw [ha] at e; cases e
    | some ob =>
      rw [ha] at e
      cases ob with
      | lst xs =>
        dsimp only at e
        cases i with
        | int k =>
          dsimp only at e
          cases hj : ixN xs.length k with
          | none => rw [hj] at e; cases e
          | some j =>
            rw [hj] at e
            have e : some (h.set a (.lst (xs.set j v))) = some h' := e
            cases e
            refine ⟨m a, _, k, j, rfl, rfl, R.ob a _ ha, by rw [List.length_map]; exact hj, q _ ?_⟩
            refine R.write ha rfl (fun b hb => upd_ne hb) ?_ (fun w hw => ?_)
            · show _ = _
              rw [upd_same, List.map_set]
            · rcases List.mem_or_eq_of_mem_set hw with z | z
              · exact R.wf a _ ha w z
              · rw [z]; exact wv
        | _ => cases e
      | _ => cases e
  | _ => cases e
/-! ### built-in functions -/
abbrev RC := List V → Hp → VK → Prop
def rFn (K : PySem.W.Frag) : Fn → RC
  | .len => fun xs H Q => ∃ x n, xs = [x] ∧ LenV K x H n ∧ Q (.int n) H
  | .int => fun xs H Q => (∃ i, xs = [.int i] ∧ Q (.int i) H) ∨ ∃ k, xs = [.bl k] ∧ Q (.int (if k then 1 else 0)) H
  | .str => fun xs H Q => ∃ i, xs = [.int i] ∧ i.natAbs.log2 < 1920 ∧ Q (.str (toString i)) H
  | .abs => fun xs H Q => ∃ i, xs = [.int i] ∧ Q (.int (if i < 0 then -i else i)) H
  | .min => fun xs H Q => ∃ i j, xs = [.int i, .int j] ∧ Q (.int (if j < i then j else i)) H
  | .max => fun xs H Q => ∃ i j, xs = [.int i, .int j] ∧ Q (.int (if j > i then j else i)) H
  | .list => fun xs H Q => ∃ p ys, xs = [.ref p] ∧ (SqL K H p ys ∨ SqT K H p ys) ∧ ∀ l, H l = none → Q (.ref l) (upd H l (.lst ys))
  | .isi => rIsi K
def fnName : Fn → Str
  | .len => Str.ofString "len" | .int => Str.ofString "int" | .str => Str.ofString "str" | .abs => Str.ofString "abs" | .min => Str.ofString "min" | .max => Str.ofString "max" | .list => Str.ofString "list" | .isi => Str.ofString "isinstance"
def fnVal : Fn → Value
  | .len => .builtin "len" | .int => .type "int" | .str => .type "str" | .abs => .builtin "abs" | .min => .builtin "min" | .max => .builtin "max" | .list => .type "list" | .isi => .builtin "isinstance"
/-- what serves where an exception is handled too -/
def fnHot : Fn → Bool
  | .min => false | .max => false | _ => true
theorem fnBoot : ∀ b : Fn, bootBuiltins (fnName b) = some (fnVal b) := by intro b; cases b <;> decide +kernel
theorem callFn : ∀ b : Fn, (fnHot b = false → X.calm = true) → CallR X (fnVal b) (rFn X.K b)
  | .len, _ => call_len | .int, _ => call_int1 | .str, _ => call_str_int | .abs, _ => call_abs | .min, c => call_min2 (c rfl) | .max, c => call_max2 (c rfl) | .list, _ => call_list_of | .isi, _ => call_isi
/-- what the written part says of the program's classes -/
structure ClsF (Γ : Gam) (Z : St0) : Prop where
  kit : ∀ c d, Γ.hc c = true → Γ.hc d = true → PySem.W.kitOne Z.K (.ref (Z.cl c)) (.ref (Z.cl d)) = some (Γ.sub c d)
  kitT : ∀ c n, Γ.hc c = true → n ∈ Γ.tys → PySem.W.kitOne Z.K (.ref (Z.cl c)) (.type n) = some (Γ.subT c n)
  exc : ∀ c, Γ.hc c = true → Γ.exc c = true → ExcC Z.K (Z.cl c)
  ins : ∀ c, Γ.hc c = true → Γ.exc c = false → Cls Z.K (Z.cl c) ∧ PySem.W.findIn Z.K (.ref (Z.cl c)) "__class__" = some (some (.builtin "object.__class__")) ∧
    PySem.W.specialIn Z.K (.builtin "object.__class__") "__get__" = some (some (.builtin "getset_descriptor.__get__")) ∧ PySem.W.takesIn Z.K (.builtin "object.__class__") = some true ∧
    PySem.W.mroIn Z.K (Z.cl c) (.type "object") = some true
/-- isinstance of the exception that is handled -/
def rIsX (Z : St0) : RC := fun xs H Q => ∃ (a : Addr) (oe : Obj) (C d : Addr) (fs : List (Str × V)) (c : V) (cv : Value) (b : Bool), Z.px = some (a, oe) ∧ oe.cls = .ref C ∧ oe.dict = some d ∧ H d = some (.xd fs) ∧
  xs = [.ref a, c] ∧ ExcC Z.K C ∧ (∀ u, RelV c u → u = cv) ∧ PySem.W.kitOne Z.K (.ref C) cv = some b ∧ Q (.bl b) H
/-- the handled exception is pinned -/
def PxOk (X : Cx) (Z : St0) : Prop := ∀ a oe, Z.px = some (a, oe) → (a, oe) ∈ X.pn ∧ ∃ vs, oe.data = .fields vs
theorem call_isX (hK : X.K = Z.K) (px : PxOk X Z) : CallR X (.builtin "isinstance") (rIsX Z) := by
  intro pins s σ H xs us Q I r h
  obtain ⟨a, oe, C, d, fs, c, cv, b, hp, h1, h2, hd, rfl, F, hcv, e, q⟩ := h
  cases r with
  | cons rx rr =>
    cases rr with
    | cons rt rr =>
      cases rr
      cases rx
      have ec := hcv _ rt
      subst ec
      obtain ⟨hm, vs, hv⟩ := px a oe hp
      obtain ⟨hget, _⟩ := I.pin (a, oe) (List.mem_append_left _ hm)
      have hx : ObjOk X.prog X.w H s.heap d (.xd fs) := I.hok d _ hd
      obtain ⟨mA, hns, _⟩ := hx
      obtain ⟨od, ho, _⟩ := lookIn_ns hns
      have J : PySem.W.InstAt s.heap a oe C (some od) := by
        obtain ⟨oc, odd, oda, osl⟩ := oe
        dsimp only at h1 h2 hv
        subst h1 h2 hv
        exact ⟨hget, rfl, rfl, ho⟩
      rw [← hK] at F e
      obtain ⟨cdD, hcD, _⟩ := PySem.W.any_some F.hd
      exact PySem.W.kia_one (PySem.W.kitx_exc (by rw [hcD]; rfl) F.hg F.hk F.hs F.ha F.hn F.ht F.hm) I.kIn J e (fun z => nomatch z) fun tk => ⟨.bl b, H, I.kept (t' := tk) fun _ _ z => z, rfl, q⟩
def rFn2 (Z : St0) : Fn → RC
  | .isi => fun xs H Q => rIsi Z.K xs H Q ∨ rIsX Z xs H Q
  | b => rFn Z.K b
theorem callFn2 (hK : X.K = Z.K) (px : PxOk X Z) (b : Fn) (hc : fnHot b = false → X.calm = true) : CallR X (fnVal b) (rFn2 Z b) := by
  have k := callFn b hc
  rw [hK] at k
  cases b with
  | isi => exact k.or (call_isX hK px)
  | _ => exact k
theorem tyOf_ty {Γ : Gam} {m : Plc} {h : Hq} {H : Hp} {w : W} {n : String} (R : RelH Z m h H) (e : tyOf h w = some n) : TyX Z.K H (tv Z.cl m w) (.type n) := by
  cases w with
  | non => cases e; exact .base .non
  | bl b => cases e; exact .base (.bl b)
  | int i => cases e; exact .base (.int i)
  | str x => cases e; exact .base (.str x)
  | ty t => cases e
  | cls c => cases e
  | ref a =>
    unfold tyOf at e
    dsimp only at e
    cases ha : h[a]? with
    | none => rw [ha] at e; cases e
    | some o =>
      rw [ha] at e
      have r := R.ob a o ha
      cases o with
      | lst xs => cases e; exact .base (.lst r)
      | frl xs =>
        cases e
        rcases r with ⟨o, r⟩ | ⟨o, its, n, h1, h2, _⟩
        · exact .base (.frz r)
        · exact .kList h1 h2
      | tup xs => cases e; exact .base (.tup r)
      | dct xs => cases e; exact .base (.dK r)
      | _ => cases e
theorem clsV_tv {m : Plc} {t : W} (h : (∃ n, t = .ty n) ∨ ∃ c, t = .cls c) : ∃ u, ClsV (tv Z.cl m t) u := by
  rcases h with ⟨n, rfl⟩ | ⟨c, rfl⟩
  · exact ⟨_, .ty n⟩
  · exact ⟨_, .own _⟩
theorem isi_ok {Γ : Gam} (F : ClsF Γ Z) {m : Plc} {h : Hq} {H : Hp} {x t : W} {b : Bool} {Q : VK} (R : RelH Z m h H) (e : isiV Γ h x t = some b) (q : Q (.bl b) H) : rFn2 Z .isi [tv Z.cl m x, tv Z.cl m t] H Q := by
  have own : ∀ (k : Bool) (c : Nat) (cv : Value), clsOf h x = some (k, c) → Γ.hc c = true → Γ.exc c = k → ClsV (tv Z.cl m t) cv → PySem.W.kitOne Z.K (.ref (Z.cl c)) cv = some b → rFn2 Z .isi [tv Z.cl m x, tv Z.cl m t] H Q := by
    intro k c cv ex hc hx hcv hk
    cases x with
    | ref a =>
      unfold clsOf at ex
      dsimp only at ex
      cases ha : h[a]? with
      | none => rw [ha] at ex; cases ex
      | some o =>
        rw [ha] at ex
        have r := R.ob a o ha
        cases o with
        | ins c' fs =>
          cases ex
          obtain ⟨dx, r⟩ := r
          obtain ⟨f1, f2, f3, f4, f5⟩ := F.ins c hc hx
          exact .inl ⟨_, _, _, cv, b, rfl, hcv, .base (.ins r f1 f2 f3 f4 f5), hk, q⟩
        | exc c' w =>
          cases ex
          obtain ⟨oe, d, p1, p2, p3, p4⟩ := r
          exact .inr ⟨m a, oe, Z.cl c, d, _, _, cv, b, p1, p2, p3, p4, rfl, F.exc c hc hx, fun u ru => hcv.eq ru, hk, q⟩
        | _ => cases ex
    | _ => cases ex
  unfold isiV at e
  split at e
  · rename_i a ex
    split at e
    · rename_i n
      exact .inl ⟨_, _, _, _, b, rfl, .ty _, tyOf_ty (Γ := Γ) R ex, kit_ty e, q⟩
    · cases e
  · split at e
    · rename_i k c ex
      split at e
      · rename_i hc
        split at e
        · rename_i d
          split at e
          · rename_i hd
            cases e
            exact own k c _ ex hc.1 hc.2 (.own _) (F.kit c d hc.1 hd)
          · cases e
        · rename_i n
          split at e
          · rename_i hd
            cases e
            exact own k c _ ex hc.1 hc.2 (.ty _) (F.kitT c n hc.1 hd)
          · cases e
        · cases e
      · cases e
    · cases e
theorem fn_ok {Γ : Gam} (F : ClsF Γ Z) (b : Fn) {m : Plc} {h : Hq} {H : Hp} {vs : List W} {Q : VK} {Xc : Value → Option Addr → Hp → Prop} (R : RelH Z m h H) (wv : ∀ w ∈ vs, wfW h.length w) (a : Res Z m h (fnV Γ b vs h) (qW Z Q) Xc) :
    rFn2 Z b (vs.map (tv Z.cl m)) H Q := by
  unfold fnV at a
  split at a
  · rename_i z
    split at a
    · rename_i hz
      exact ⟨_, _, rfl, ⟨by rw [← line_eq]; exact hz, rfl⟩, a.of_ret R trivial⟩
    · exact a.none'
  · rename_i i
    cases hi : h[i]? with
    | none => rw [hi] at a; exact a.none'
    | some o =>
      rw [hi] at a
      have r := R.ob i o hi
      cases o with
      | lst xs => exact ⟨_, _, rfl, .inl ⟨_, .of r, rfl⟩, by rw [List.length_map]; exact a.of_ret R trivial⟩
      | frl xs => exact ⟨_, _, rfl, .inl ⟨_, Frl.sq r, rfl⟩, by rw [List.length_map]; exact a.of_ret R trivial⟩
      | tup xs => exact ⟨_, _, rfl, .inr ⟨_, .of r, rfl⟩, by rw [List.length_map]; exact a.of_ret R trivial⟩
      | _ => exact a.none'
  · exact .inl ⟨_, rfl, a.of_ret R trivial⟩
  · exact ⟨_, rfl, a.of_ret R trivial⟩
  · exact ⟨_, _, rfl, a.of_ret R trivial⟩
  · exact ⟨_, _, rfl, a.of_ret R trivial⟩
  · split at a
    · rename_i hz
      exact ⟨_, rfl, hz, a.of_ret R trivial⟩
    · exact a.none'
  · rename_i i
    cases hi : h[i]? with
    | none => rw [hi] at a; exact a.none'
    | some o =>
      rw [hi] at a
      have r := R.ob i o hi
      have wfo := R.wf i o hi
      cases o with
      | lst xs => exact ⟨_, _, rfl, .inl (.of r), allocL a R fun w hw => wfo w hw⟩
      | frl xs => exact ⟨_, _, rfl, .inl (Frl.sq r), allocL a R fun w hw => wfo w hw⟩
      | tup xs => exact ⟨_, _, rfl, .inr (.of r), allocL a R fun w hw => wfo w hw⟩
      | _ => exact a.none'
  · rename_i x t
    unfold optB at a
    cases hb : isiV Γ h x t with
    | none => rw [hb] at a; exact a.none'
    | some b => rw [hb] at a; exact isi_ok F R hb (a.of_ret R trivial)
  · exact a.none'
/-! ### methods of built-in types -/
def mName : Mt → Str
  | .append => Str.ofString "append" | .pop => Str.ofString "pop" | .upper => Str.ofString "upper"
def mTy : Mt → String
  | .append => "list" | .pop => "list" | .upper => "str"
def mId : Mt → String
  | .append => "list.append" | .pop => "list.pop" | .upper => "str.upper"
/-- with an argument, or without any -/
def mArg : Mt → Bool
  | .append => true | .pop => false | .upper => false
def rMt : Mt → V → List V → Hp → VK → Prop
  | .append => rAppend | .pop => rPop | .upper => fun x xs H Q => ∃ a, x = .str a ∧ xs = [] ∧ a.length ≤ 5592405 ∧ Q (.str (Txt.upper a)) H
theorem mSlot : ∀ m : Mt, Slot (mTy m) (mName m) (mId m)
  | .append => PySem.F.slot_list_append | .pop => PySem.F.slot_list_pop | .upper => PySem.F.slot_str_upper
theorem mPlain : ∀ m : Mt, PlainAttrs (mTy m)
  | .append => PySem.F.plainAttrs_list | .pop => PySem.F.plainAttrs_list | .upper => PySem.F.plainAttrs_str
theorem mType : ∀ m : Mt, typeOf (.builtin (mId m)) = pure (.type "method_descriptor")
  | .append => PySem.F.type_list_append | .pop => PySem.F.type_list_pop | .upper => PySem.F.type_str_upper
theorem mRule : ∀ m : Mt, MtR X (mId m) (rMt m)
  | .append => mt_append | .pop => mt_pop | .upper => mt_upper
theorem lstOf_ok {m : Plc} {h : Hq} {H : Hp} {w : W} {xs : List W} (R : RelH Z m h H) (e : lstOf h w = some xs) : ∃ a, w = .ref a ∧ SqL Z.K H (m a) (xs.map (tv Z.cl m)) ∧ ∀ v ∈ xs, wfW h.length v := by
  cases w with
  | ref a =>
    unfold lstOf at e
    dsimp only at e
    cases ha : h[a]? with
    | none => rw [ha] at e; cases e
    | some o =>
      rw [ha] at e
      have r := R.ob a o ha
      have wfo := R.wf a o ha
      cases o with
      | lst ys => cases e; exact ⟨a, rfl, .of r, wfo⟩
      | frl ys => cases e; exact ⟨a, rfl, Frl.sq r, wfo⟩
      | _ => cases e
  | _ => cases e
theorem mthPre_ok {m : Mt} {p : Plc} {h : Hq} {H : Hp} {x : W} (R : RelH Z p h H) (e : mthPre m x h = true) : tyV Z.K (mTy m) (tv Z.cl p x) H := by
  have lst : (lstOf h x).isSome = true → tyV Z.K "list" (tv Z.cl p x) H := fun e => by
    obtain ⟨xs, e⟩ := Option.isSome_iff_exists.mp e
    obtain ⟨a, rfl, s, _⟩ := lstOf_ok R e
    exact .inl ⟨rfl, _, s⟩
  cases m with
  | append => exact lst e
  | pop => exact lst e
  | upper => cases x <;> first | cases e; done | rfl
theorem mth_ok {m : Mt} {p : Plc} {h : Hq} {H : Hp} {x : W} {vs : List W} {Q : VK} {Xc : Value → Option Addr → Hp → Prop} (R : RelH Z p h H) (wx : wfW h.length x) (wv : ∀ w ∈ vs, wfW h.length w) (a : Res Z p h (mthV m x vs h) (qW Z Q) Xc) :
    rMt m (tv Z.cl p x) (vs.map (tv Z.cl p)) H Q := by
  unfold mthV at a
  split at a
  · rename_i i y
    cases hi : h[i]? with
    | none => rw [hi] at a; exact a.none'
    | some o =>
      rw [hi] at a
      cases o with
      | lst xs =>
        dsimp only at a
        split at a
        · rename_i hz
          have r : H (p i) = some (.lst (xs.map (tv Z.cl p))) := R.ob i _ hi
          refine ⟨p i, _, _, rfl, rfl, r, by rw [List.length_map, ← line_eq]; exact hz, ?_⟩
          have R' : RelH Z p (h.set i (.lst (xs ++ [y]))) (upd H (p i) (.lst (xs.map (tv Z.cl p) ++ [tv Z.cl p y]))) := by
            refine R.write hi rfl (fun b hb => upd_ne hb) ?_ fun w hw => ?_
            · show _ = _
              rw [upd_same, List.map_append]; rfl
            · rcases List.mem_append.mp hw with z | z
              · exact R.wf i _ hi w z
              · rw [List.mem_singleton.mp z]; exact wv y List.mem_cons_self
          exact a p _ ⟨by rw [List.length_set]; exact Nat.le_refl _, fun _ _ => rfl⟩ R' trivial
        · exact a.none'
      | _ => exact a.none'
  · rename_i i
    cases hi : h[i]? with
    | none => rw [hi] at a; exact a.none'
    | some o =>
      rw [hi] at a
      cases o with
      | lst xs =>
        dsimp only at a
        split at a
        · rename_i y hy
          have r : H (p i) = some (.lst (xs.map (tv Z.cl p))) := R.ob i _ hi
          have wy : wfW h.length y := R.wf i _ hi y (List.mem_of_getElem? hy)
          refine ⟨p i, _, tv Z.cl p y, rfl, rfl, r, by rw [List.length_map, List.getElem?_map, hy]; rfl, ?_⟩
          have R' : RelH Z p (h.set i (.lst xs.dropLast)) (upd H (p i) (.lst (xs.map (tv Z.cl p)).dropLast)) := by
            refine R.write hi rfl (fun b hb => upd_ne hb) ?_ fun w hw => R.wf i _ hi w (List.dropLast_subset _ hw)
            show _ = _
            rw [upd_same, List.map_dropLast]
          exact a p _ ⟨by rw [List.length_set]; exact Nat.le_refl _, fun _ _ => rfl⟩ R' (by rw [List.length_set]; exact wy)
        · exact a.none'
      | _ => exact a.none'
  · split at a
    · rename_i hz
      exact ⟨_, rfl, rfl, hz, a.of_ret R trivial⟩
    · exact a.none'
  · exact a.none'
end
end Mp
set_option Elab.async false
set_option linter.all false
set_option maxRecDepth 100000
set_option maxHeartbeats 4000000
/-! Mp E: loops and comprehensions, also where an exception is handled (over a range). -/
namespace Mp
open PySem PySem.Spec PyProof.Rows L2
/-- calm, or the handled exception is pinned -/
def Serves (hot : Bool) (X : Cx) : Prop := X.calm = true ∨ (hot = true ∧ L2H.HotC X)
/-- a walk that the context serves (the library's Turn, the handled exception told) -/
structure Trn (hot : Bool) (P : Program) (w : World) (K : PySem.W.Frag) (tg : Expr) (J : It) (fp : List Addr) (it : Addr) (tn : Nat → Heap → Prop) : Prop where
  mem : it ∈ fp
  obj : ∀ i h, tn i h → ∀ b ∈ fp, ∃ o, h.get? b = some o ∧ ∀ v, o.data ≠ .cell v
  keep : ∀ i h h', tn i h → (∀ b ∈ fp, ∀ o, h.get? b = some o → h'.get? b = some o) → tn i h'
  item : ∀ (X : Cx), X.prog = P → X.w = w → X.K = K → Serves hot X → ∀ (i : Nat) (pins : List (Addr × Obj)) (s : Shared) (σ : L2.St) (H : Hp) (E : Value → Shared → Prop), Inv X pins σ H s → (∀ b ∈ fp, FpOk X pins H b) → tn i s.heap → J.go i H →
    wpAny (model P w) X.A (pyNext (.ref it)) (fun r s1 => ∃ u, r = some u ∧
      wpAny (model P w) X.A (letOwnedTupleGo tg (.ref it) u) (fun _ s2 => ∃ x H', Inv X pins σ H' s2 ∧ RelV x u ∧ J.yld i H x H' ∧ tn (i + 1) s2.heap ∧ ∀ b ∈ fp, H' b = none) E s1) E s
  done : ∀ (X : Cx), X.prog = P → X.w = w → X.K = K → Serves hot X → ∀ (i : Nat) (pins : List (Addr × Obj)) (s : Shared) (σ : L2.St) (H : Hp) (E : Value → Shared → Prop), Inv X pins σ H s → (∀ b ∈ fp, FpOk X pins H b) → tn i s.heap → J.stop i H →
    wpAny (model P w) X.A (pyNext (.ref it)) (fun r s1 => r = none ∧ Inv X pins σ H s1) E s
  self : ∀ (A : Around) (i : Nat) (s : Shared) (Q : Value → Shared → Prop) (E : Value → Shared → Prop), tn i s.heap → Q (.ref it) s → wpAny (model P w) A (pyIter (.ref it)) Q E s
theorem Serves.calm {X : Cx} (h : Serves false X) : X.calm = true := h.elim id fun z => Bool.noConfusion z.1
/-- the library's walk, weakened -/
theorem Trn.of {P : Program} {w : World} {K : PySem.W.Frag} {tg : Expr} {J J' : It} {fp : List Addr} {it : Addr} {tn : Nat → Heap → Prop} (T : Turn P w K tg J fp it tn) (g : ∀ i H, J'.go i H → J.go i H)
    (y : ∀ i H x H', J'.go i H → J.yld i H x H' → J'.yld i H x H') (st : ∀ i H, J'.stop i H → J.stop i H) : Trn false P w K tg J' fp it tn where
  mem := T.mem
  obj := T.obj
  keep := T.keep
  item := fun X a b c hs i pins s σ H E I f t j => thn (T.item X a b c hs.calm i pins s σ H E I f t (g i H j)) fun r s1 ⟨u, e, q⟩ => ⟨u, e, thn q fun _ s2 ⟨x, H', I', rv, yl, t', n⟩ => ⟨x, H', I', rv, y i H x H' j yl, t', n⟩⟩
  done := fun X a b c hs i pins s σ H E I f t j => T.done X a b c hs.calm i pins s σ H E I f t (st i H j)
  self := T.self
/-- a range's walk, hot or calm -/
theorem Trn.range {P : Program} {w : World} {K : PySem.W.Frag} {tg : Expr} (it : Addr) (lo : Int) (n : Nat) (hot : Bool) : Trn hot P w K tg (Itr lo n) [it] it (fun i h => IsRangeIter h it (lo + (i : Nat)) ((n : Int) - (i : Nat)) 1) where
  mem := List.mem_singleton.mpr rfl
  obj := fun i h st b hb => by
    rw [List.mem_singleton.mp hb]
    exact ⟨_, st, fun v z => nomatch z⟩
  keep := fun i h h' st k => k it (List.mem_singleton.mpr rfl) _ st
  item := by
    intro X hP hw hK hs i pins s σ H E I hf st hg
    subst hP hw hK
    obtain ⟨f0, f1, f2, f3, f4, f5⟩ := hf it (List.mem_singleton.mpr rfl)
    have hg : i < n := hg
    refine wpAny_pyNext_range_item st (by omega) fun h' st' sb => ?_
    have e1 : lo + (i : Nat) + 1 = lo + ((i + 1 : Nat) : Int) := by omega
    have e2 : (n : Int) - (i : Nat) - 1 = (n : Int) - ((i + 1 : Nat) : Int) := by omega
    rw [e1, e2] at st'
    have I1 : Inv X pins σ H { s with heap := h', toks := s.toks + 1 } := I.turned (fun b o hb e => (sb.2 b hb).trans e) f0 f1 f3 f4 f5
    exact ⟨_, rfl, go_of (s := { s with heap := h', toks := s.toks + 1 }) (n := "range_iterator") st' rfl rfl (by decide) ⟨.int (lo + (i : Nat)), H, I1, ⟨_, rfl⟩, ⟨rfl, rfl⟩, st', fun b hb => (hf b hb).1⟩⟩
  done := by
    intro X hP hw hK hs i pins s σ H E I hf st hg
    subst hP hw hK
    obtain ⟨f0, f1, f2, f3, f4, f5⟩ := hf it (List.mem_singleton.mpr rfl)
    have hg : n ≤ i := hg
    rcases hs with hc | ⟨_, hc⟩
    · exact wpAny_pyNext_range_end (I.ok.hd hc) st (by omega) fun h' eb => ⟨rfl, I.turned (t' := s.toks) (fun b o hb e => eb b o hb e) f0 f1 f3 f4 f5⟩
    · obtain ⟨x1, hot⟩ := hc.at I
      exact HotX.pyNext_range_end_hot hot st (by omega) fun h' k => ⟨rfl, I.kept (t' := s.toks) k⟩
  self := fun _ _ _ _ _ st h => wpAny_pyIter_rangeiter st h
theorem Trn.imp {hot : Bool} {P : Program} {w : World} {K : PySem.W.Frag} {tg : Expr} {J J' : It} {fp : List Addr} {it : Addr} {tn : Nat → Heap → Prop} (T : Trn hot P w K tg J fp it tn) (g : ∀ i H, J'.go i H → J.go i H)
    (y : ∀ i H x H', J'.go i H → J.yld i H x H' → J'.yld i H x H') (st : ∀ i H, J'.stop i H → J.stop i H) : Trn hot P w K tg J' fp it tn where
  mem := T.mem
  obj := T.obj
  keep := T.keep
  item := fun X a b c hs i pins s σ H E I f t j => thn (T.item X a b c hs i pins s σ H E I f t (g i H j)) fun r s1 ⟨u, e, q⟩ => ⟨u, e, thn q fun _ s2 ⟨x, H', I', rv, yl, t', n⟩ => ⟨x, H', I', rv, y i H x H' j yl, t', n⟩⟩
  done := fun X a b c hs i pins s σ H E I f t j => T.done X a b c hs i pins s σ H E I f t (st i H j)
  self := T.self
/-- an iterator has come -/
def PIEH (hot : Bool) (X : Cx) (pins : List (Addr × Obj)) (σ : L2.St) (tg : Expr) (R : It → Hp → Prop) (itv : Value) (s2 : Shared) : Prop :=
  ∃ (it : Addr) (fp : List Addr) (tn : Nat → Heap → Prop) (J : It) (H' : Hp), itv = .ref it ∧ Inv X pins σ H' s2 ∧ Trn hot X.prog X.w X.K tg J fp it tn ∧ tn 0 s2.heap ∧ (∀ b ∈ fp, FpOk X pins H' b) ∧ R J H'
structure PIH (hot : Bool) (X : Cx) (tg iter : Expr) (wi : TI) : Prop where
  run : ∀ (pins : List (Addr × Obj)) (s : Shared) (σ : L2.St) (H : Hp) (R : It → Hp → Prop), Inv X pins σ H s → wi σ H R →
    wpAny (model X.prog X.w) X.A (eval iter X.env) (fun v s1 => wpAny (model X.prog X.w) X.A (pyIter v) (PIEH hot X pins σ tg R) X.xe s1) X.xe s
theorem one_it {hot : Bool} {X : Cx} {tg : Expr} {pins : List (Addr × Obj)} {σ : L2.St} {H : Hp} {s : Shared} {R : It → Hp → Prop} {J : It} {tn : Nat → Heap → Prop} {tk : Nat} (I : Inv X pins σ H s) (o : Obj)
    (T : Trn hot X.prog X.w X.K tg J [s.heap.objs.size] s.heap.objs.size tn) (st : tn 0 (s.heap.push o)) (q : R J H) : PIEH hot X pins σ tg R (.ref s.heap.objs.size) { s with heap := s.heap.push o, toks := tk } := by
  refine ⟨s.heap.objs.size, [s.heap.objs.size], tn, J, H, rfl, I.kept fun b ob e => Heap.get?_push_of_some _ e, T, st, fun b hb => ?_, q⟩
  rw [List.mem_singleton.mp hb]
  exact I.fpOk (Nat.le_refl _) (I.hok.fresh (Nat.le_refl _))
/-! ### our own walk: items as they were at the start, the walked object unchanged -/
def Stay (Z : St0) (m : Plc) (H : Hp) : Option (Nat × Ob) → Prop
  | none => True
  | some (a, o) => ObR Z m H (m a) o
def JW (Z : St0) (m : Plc) (g : Option (Nat × Ob)) (xs : List W) : It :=
  ⟨fun i H => i < xs.length ∧ Stay Z m H g, fun i H x H' => H' = H ∧ ∃ v, xs[i]? = some v ∧ x = tv Z.cl m v, fun i H => xs.length ≤ i ∧ Stay Z m H g⟩
section
variable {Z : St0} {X : Cx}
/-- a value is walked -/
theorem iter_val {m : Plc} {h : Hq} {H : Hp} {w : W} {wk : Wk} {tg : Expr} {pins : List (Addr × Obj)} {σ : L2.St} {s : Shared} {v : Value} {R : It → Hp → Prop} {E : Value → Shared → Prop} (hK : X.K = Z.K) (I : Inv X pins σ H s) (RH : RelH Z m h H)
    (rv : RelV (tv Z.cl m w) v) (e : walkOf w h = ret wk h) (q : R (JW Z m wk.1 wk.2) H) : wpAny (model X.prog X.w) X.A (pyIter v) (PIEH false X pins σ tg R) E s := by
  have seqL : ∀ (a : Nat) (xs : List W) (o : Ob), (∀ H', ObR Z m H' (m a) o → SqL Z.K H' (m a) (xs.map (tv Z.cl m))) → h[a]? = some o → w = .ref a → wk = (some (a, o), xs) → wpAny (model X.prog X.w) X.A (pyIter v) (PIEH false X pins σ tg R) E s := by
    intro a xs o hs ho hw hk
    subst hw hk
    obtain rfl : v = Value.ref (m a) := rv
    have hq := hs H (RH.ob a o ho)
    rw [← hK] at hq
    obtain ⟨its, rvs, p, hz⟩ := I.list hq
    refine wpAny_pyIter_list p.isList ?_
    refine one_it (tk := s.toks) I _ ((Trn.of (turn_list (m a) _) ?_ ?_ ?_)) ⟨_, Heap.get?_push_size _ rfl, rfl, rfl⟩ q
    · rintro i H' ⟨hi, st⟩
      exact ⟨_, tv Z.cl m xs[i], by rw [hK]; exact hs H' st, by rw [List.getElem?_map, List.getElem?_eq_getElem hi]; rfl⟩
    · rintro i H' x H2 ⟨hi, st⟩ ⟨e, y⟩
      refine ⟨e, xs[i], List.getElem?_eq_getElem hi, ?_⟩
      have := y _ (by rw [hK]; exact hs H' st)
      rw [List.getElem?_map, List.getElem?_eq_getElem hi] at this
      exact (Option.some.inj this).symm
    · rintro i H' ⟨hi, st⟩
      exact ⟨_, by rw [hK]; exact hs H' st, by rw [List.length_map]; exact hi⟩
  cases w with
  | str z =>
    cases e
    obtain ⟨t, rfl⟩ := rv
    have cv : ∀ (ty : String) (hty : ty = "str_ascii_iterator" ∨ ty = "str_iterator"), Trn false X.prog X.w X.K tg (JW Z m none (z.cps.toList.map fun c => W.str ⟨#[c]⟩)) [s.heap.objs.size] s.heap.objs.size (fun i h => h.IsStrIter s.heap.objs.size ty z t i) := fun ty hty => by
      refine Trn.of (turn_str _ z t ty hty) ?_ ?_ ?_
      · rintro i H' ⟨hi, _⟩
        rw [List.length_map] at hi
        exact (by simpa using hi : i < z.cps.size)
      · rintro i H' x H2 ⟨hi, _⟩ ⟨e, c, hc, rfl⟩
        refine ⟨e, .str ⟨#[c]⟩, ?_, rfl⟩
        rw [List.getElem?_map, Array.getElem?_toList, hc]; rfl
      · rintro i H' ⟨hi, _⟩
        rw [List.length_map] at hi
        exact (by simpa using hi : z.cps.size ≤ i)
    cases ha : z.cps.all (· < 128)
    · exact wpAny_pyIter_wide ha (one_it (tk := s.toks) I _ (cv "str_iterator" (.inr rfl)) ⟨_, Heap.get?_push_size _ rfl, rfl, rfl⟩ q)
    · exact wpAny_pyIter_ascii ha (one_it (tk := s.toks) I _ (cv "str_ascii_iterator" (.inl rfl)) ⟨_, Heap.get?_push_size _ rfl, rfl, rfl⟩ q)
  | ref a =>
    unfold walkOf at e
    dsimp only at e
    cases ha : h[a]? with
    | none => rw [ha] at e; cases e
    | some o =>
      rw [ha] at e
      cases o with
      | lst xs => cases e; exact seqL a xs (.lst xs) (fun H' r => .of r) ha rfl rfl
      | frl xs => cases e; exact seqL a xs (.frl xs) (fun H' r => Frl.sq r) ha rfl rfl
      | tup xs =>
        cases e
        obtain rfl : v = Value.ref (m a) := rv
        have hs : ∀ H', ObR Z m H' (m a) (.tup xs) → SqT X.K H' (m a) (xs.map (tv Z.cl m)) := fun H' r => .of r
        obtain ⟨its, rvs, p, hz⟩ := I.tuple (hs H (RH.ob a _ ha))
        refine wpAny_pyIter_tuple (show s.heap.IsTuple (m a) its.toArray from p) ?_
        refine one_it (tk := s.toks) I _ ((Trn.of (turn_tuple (m a) _) ?_ ?_ ?_)) ⟨_, Heap.get?_push_size _ rfl, rfl, rfl⟩ q
        · rintro i H' ⟨hi, st⟩
          exact ⟨_, tv Z.cl m xs[i], hs H' st, by rw [List.getElem?_map, List.getElem?_eq_getElem hi]; rfl⟩
        · rintro i H' x H2 ⟨hi, st⟩ ⟨e, y⟩
          refine ⟨e, xs[i], List.getElem?_eq_getElem hi, ?_⟩
          have := y _ (hs H' st)
          rw [List.getElem?_map, List.getElem?_eq_getElem hi] at this
          exact (Option.some.inj this).symm
        · rintro i H' ⟨hi, st⟩
          exact ⟨_, hs H' st, by rw [List.length_map]; exact hi⟩
      | _ => cases e
  | _ => cases e
/-- a range is walked -/
theorem iter_rng {m : Plc} {hot : Bool} {H : Hp} {tg : Expr} {pins : List (Addr × Obj)} {σ : L2.St} {s : Shared} {R : It → Hp → Prop} {E : Value → Shared → Prop} {lo hi : Int} {t u v : Tok} {r : Addr} (I : Inv X pins σ H s) (hr : PySem.IsRange s.heap r lo hi 1 t u v) (h1 : rngOk lo = true) (h2 : rngOk hi = true)
    (q : R (JW Z m none (rngL lo hi)) H) : wpAny (model X.prog X.w) X.A (pyIter (.ref r)) (PIEH hot X pins σ tg R) E s := by
  have h1 := of_decide_eq_true h1
  have h2 := of_decide_eq_true h2
  refine wpAny_pyIter_range hr (small_one (by omega) (by omega) (by omega) (by omega)) ?_
  refine one_it (tk := s.toks) I _ ((Trn.range _ lo (hi - lo).toNat hot).imp (J' := JW Z m none (rngL lo hi)) ?_ ?_ ?_) ?_ q
  · rintro i H' ⟨a, _⟩
    unfold rngL at a
    rw [List.length_map, List.length_range] at a
    exact a
  · rintro i H' x H2 ⟨a, _⟩ ⟨e, ex⟩
    refine ⟨e, .int (lo + (i : Nat)), ?_, ex⟩
    unfold rngL at a ⊢
    rw [List.length_map, List.length_range] at a
    rw [List.getElem?_map, List.getElem?_range a]; rfl
  · rintro i H' ⟨a, _⟩
    unfold rngL at a
    rw [List.length_map, List.length_range] at a
    exact a
  · have e2 : (((hi - lo).toNat : Nat) : Int) - ((0 : Nat) : Int) = Builtin.Range.rangeSize lo hi 1 := by rw [rangeSize_one]; split <;> omega
    show IsRangeIter _ _ (lo + ((0 : Nat) : Int)) ((((hi - lo).toNat : Nat) : Int) - ((0 : Nat) : Int)) 1
    rw [e2, show lo + ((0 : Nat) : Int) = lo by omega]
    exact Heap.get?_push_size _ rfl
end
end Mp
set_option Elab.async false
set_option linter.all false
set_option maxRecDepth 100000
set_option maxHeartbeats 4000000
/-! Mp F: the for statement and the list comprehension over such walks. -/
namespace Mp
open PySem PySem.Spec PyProof.Rows L2
theorem forH {hot : Bool} {X : Cx} {tg iter : Expr} {body : List Stmt} {wi : TI} {g : TG} {tb : TS} {pos : Pos} (hp : PassesOwn (model X.prog X.w) X.A X.env X.xe) (hc : Serves hot X) (hi : PIH hot X tg iter wi) (hg : PG X tg g) (hb : PSs X body tb)
    (hs : ∀ x, foldedSetIterable iter X.env x = pure x) : PS X (.For tg iter body [] pos) (tFor wi g tb) := by
  refine ⟨fun pins s σ H D I h => ?_⟩
  refine wpAny_For (thn (hi.run pins s σ H _ I h) fun v s1 h1 => thn h1 fun itv s2 h2 => ?_) hs
  obtain ⟨it, fp, tn, J, H2, e, I2, T, st2, f2, Wi, ⟨m0, w0⟩, turn⟩ := h2
  subst e
  have stat : ∀ {H' : Hp}, (∀ b ∈ fp, H' b = none) → ∀ b ∈ fp, FpOk X pins H' b := fun hn b hb => ⟨hn b hb, (f2 b hb).2⟩
  refine codeAny_forLoop_any (fun n s' => ∃ i σ' H', Inv X pins σ' H' s' ∧ tn i s'.heap ∧ (∀ b ∈ fp, H' b = none) ∧ Wi i n σ' H') ?_ m0 ⟨0, σ, H2, I2, st2, fun b hb => (f2 b hb).1, w0⟩
  rintro n s3 ⟨i, σ3, H3, I3, st3, fr3, w3⟩
  rcases turn i n σ3 H3 w3 with ⟨stop, qn⟩ | ⟨go, N, hN, step⟩
  · refine wpAny_passesOwn hp (thn (T.done X rfl rfl rfl hc i pins s3 σ3 H3 X.xe I3 (stat fr3) st3 stop) fun r s4 ⟨hr, I4⟩ => ?_)
    subst hr
    exact wpAny_execs_nil ⟨σ3, H3, I4, qn⟩
  · refine wpAny_passesOwn hp (thn (T.item X rfl rfl rfl hc i pins s3 σ3 H3 X.xe I3 (stat fr3) st3 go) fun r s4 ⟨u, hr, h4⟩ => ?_)
    subst hr
    refine wpAny_passesOwn hp (thn h4 fun _ s5 ⟨x, H5, I5, r5, y5, st5, fr5⟩ => ?_)
    have I5' := I5.pinned (stat fr5) (T.obj _ _ st5)
    refine wpAny_passesOwn hp (thn (hg.run _ s5 σ3 H5 x u _ I5' r5 (step x H5 y5)) fun _ s6 ⟨σ6, H6, I6, q6⟩ => ?_)
    refine wpAny_passesOwn hp (thn (hb.run _ s6 σ6 H6 _ I6 q6) fun f s7 q7 => ?_)
    have pin : ∀ {σ7 : L2.St} {H7 : Hp}, Inv X (pins ++ pinsAt fp s5.heap) σ7 H7 s7 → ∀ b ∈ fp, ∀ o, s5.heap.get? b = some o → s7.heap.get? b = some o ∧ H7 b = none := fun I7 b hb o e =>
      let z := I7.pin (b, o) (List.mem_append_right _ (List.mem_append_right _ (mem_pinsAt hb e))); ⟨z.1, z.2.1⟩
    have again : ∀ {σ7 : L2.St} {H7 : Hp}, Inv X (pins ++ pinsAt fp s5.heap) σ7 H7 s7 → N σ7 H7 → ∃ m, m < n ∧ ∃ i σ' H', Inv X pins σ' H' s7 ∧ tn i s7.heap ∧ (∀ b ∈ fp, H' b = none) ∧ Wi i m σ' H' := fun {σ7 H7} I7 n7 => by
      obtain ⟨m', hm, w7⟩ := hN σ7 H7 n7
      refine ⟨m', hm, i + 1, σ7, H7, I7.unpinned, T.keep _ _ _ st5 fun b hb o e => (pin I7 b hb o e).1, fun b hb => ?_, w7⟩
      obtain ⟨o, e, d⟩ := T.obj _ _ st5 b hb
      exact (pin I7 b hb o e).2
    cases f with
    | next => obtain ⟨σ7, H7, I7, n7⟩ := q7; exact again I7 n7
    | cont => obtain ⟨σ7, H7, I7, n7⟩ := q7; exact again I7 n7
    | brk => obtain ⟨σ7, H7, I7, q7⟩ := q7; exact ⟨σ7, H7, I7.unpinned, q7⟩
    | ret v => obtain ⟨x7, σ7, H7, I7, r7, q7⟩ := q7; exact ⟨x7, σ7, H7, I7.unpinned, r7, q7⟩
/-- a comprehension's block, the pins kept -/
abbrev blkP (X : Cx) (s : Shared) (H : Hp) (scope : Scope) (ce : PySem.Env) (fp : List Addr) (pn : List (Addr × Obj)) : Cx := (X.blk s H scope ce fp).tr pn fun _ _ => False
theorem Inv.blkP {X : Cx} {pins : List (Addr × Obj)} {σ σ' : L2.St} {H : Hp} {s s0 s1 : Shared} {scope : Scope} {ce : PySem.Env} {fp : List Addr} (I : Inv X pins σ H s) (J : Inv (X.blk s0 H scope ce fp) [] σ' H s1)
    (hs : ∀ b o, s.heap.get? b = some o → s1.heap.get? b = some o) (hL : s.heap.objs.size ≤ ce.locals) : Inv (Mp.blkP X s0 H scope ce fp (X.pn ++ pins)) [] σ' H s1 :=
  ⟨J.ok.toTry _ _, J.os, J.bare, J.base, J.loc, J.cell, J.free, J.freeC, fun p hp => by
    have hp : p ∈ X.pn ++ pins := by rcases List.mem_append.mp hp with z | z; exact z; exact absurd z (List.not_mem_nil)
    obtain ⟨e, n, ne, nf, d⟩ := I.pin p hp
    refine ⟨hs _ _ e, n, Nat.ne_of_lt (Nat.lt_of_lt_of_le (Heap.lt_size e) hL), fun hb => ?_, d⟩
    rcases List.mem_cons.mp (I.stkSub _ hb) with z | z
    · exact ne z
    · exact nf z, J.hok, J.len⟩
theorem lcH_core {hot : Bool} {X : Cx} {pins : List (Addr × Obj)} {s : Shared} {σ : L2.St} {H : Hp} {Q : VK} {elt tg iter : Expr} {ifs : List Expr} {scope : Scope} {own : List (Str × Nat)} {pos pos' : Pos} {wi : TI} {g : TG} {tt : TT} {te : TE} {use : Option (Value → Sem Unit)} {Qf : Value → Shared → Prop}
    (hc : Serves hot X) (hN : X.N.Nodup) (I : Inv X pins σ H s) (hi : PIH hot X tg iter wi) (ok : BlkOk X.N X.env.scope scope own)
    (hg : ∀ (s : Shared) (H : Hp) (C : Addr) (cl : List (Str × Addr)) (fp : List Addr) (pn : List (Addr × Obj)), (∀ p ∈ X.pn, p ∈ pn) → PG (blkP X s H scope (compEnvC scope cl C X.env) fp pn) tg g) (ht : ∀ (s : Shared) (H : Hp) (C : Addr) (cl : List (Str × Addr)) (fp : List Addr) (pn : List (Addr × Obj)), (∀ p ∈ X.pn, p ∈ pn) → PTs (blkP X s H scope (compEnvC scope cl C X.env) fp pn) ifs tt)
    (he : ∀ (s : Shared) (H : Hp) (C : Addr) (cl : List (Str × Addr)) (fp : List Addr) (pn : List (Addr × Obj)), (∀ p ∈ X.pn, p ∈ pn) → PE (blkP X s H scope (compEnvC scope cl C X.env) fp pn) elt te) (hs : ∀ x, foldedSetIterable iter X.env x = pure x)
    (h : tLc wi g tt te (own.map (·.2)) σ H Q)
    (hRR : ∀ D C s' m H', Inv X pins σ H' s' → Q (.ref D) H' → s'.heap.Ns C m → FpOk X pins H' C → compPost (model X.prog X.w) X.A X.xe use Qf (.ref D) C (.ok .next) s') :
    wpAny (model X.prog X.w) X.A (comprehension (.ListComp elt [⟨tg, iter, ifs, 0⟩] scope pos) scope X.env pos' (newList []) false (eval iter X.env) use) Qf X.xe s := by
  have hfree : ∀ y ∈ scope.names, y.2 = .free → ∃ c, X.env.cells.lookup y.1 = some c := fun y hy e => by
    rcases ok.free y hy e with k | k
    · exact I.ok.has _ (.inl k)
    · exact I.ok.has _ (.inr k)
  refine wpAny_comprehension_free (use := use) rfl hs (closure_ok hfree) ok.kind (fun y hy e => by rw [ok.uniq y hy, e]) (thn (hi.run pins s σ H _ I h) fun xv s1 hx => thn hx fun itv s2 h2 => ?_)
  obtain ⟨it, fp, tn, J, H2, e, I2, T, st2, f2, q⟩ := h2
  subst e
  refine wpAny_newObj_type (newEnv_comp ?_) (by show 0 ≤ sizeLine; decide)
  generalize hD : s2.heap.objs.size = D
  have hDn : H2 D = none := I2.hok.fresh (Nat.le_of_eq hD)
  obtain ⟨Wi, ⟨m0, w0⟩, turn⟩ := q D hDn
  generalize hs3 : ({ s2 with heap := s2.heap.push { cls := .type "list", data := .seq ([] : List Value).toArray } } : Shared) = s3
  have I3 : Inv X pins σ (upd H2 D (.lst [])) s3 := by
    rw [← hs3]
    refine I2.laid (t' := s2.toks) (fun b o e => Heap.get?_push_of_some _ e) (Nat.le_of_eq hD) ⟨Nat.zero_le _, [], 0, .nil, ?_⟩
    rw [← hD]
    exact Heap.get?_push_size _ rfl
  have h3 : s3.heap = s2.heap.push { cls := .type "list", data := .seq ([] : List Value).toArray } := by rw [← hs3]
  have sz : ∀ b ∈ fp, b < s2.heap.objs.size := fun b hb => let ⟨o, e, _⟩ := T.obj _ _ st2 b hb; Heap.lt_size e
  have f3 : ∀ b ∈ fp, FpOk X pins (upd H2 D (.lst [])) b ∧ b < s3.heap.objs.size := fun b hb => by
    have hlt := sz b hb
    refine ⟨⟨?_, (f2 b hb).2⟩, by rw [h3, Heap.size_push]; exact Nat.lt_succ_of_lt hlt⟩
    rw [upd_ne (by rw [← hD]; exact Nat.ne_of_lt hlt)]
    exact (f2 b hb).1
  have st3 : tn 0 s3.heap := T.keep _ _ _ st2 fun b _ o e => by rw [h3]; exact Heap.get?_push_of_some _ e
  have sub : ∀ p ∈ X.pn, p ∈ X.pn ++ pins := fun p hp => List.mem_append_left _ hp
  have I4 := block_start I3 ok hN f3
  have I4 := Inv.blkP I3 I4 (fun b o e => pushCells_keeps _ _ _ _ (Heap.get?_push_of_some _ e)) (Nat.le_refl _)
  have pg := hg s3 (upd H2 D (.lst [])) s3.heap.objs.size (cellsFrom (s3.heap.objs.size + 1) scope.names (cloFrom X.env.cells scope.names [])) fp _ sub
  have pt := ht s3 (upd H2 D (.lst [])) s3.heap.objs.size (cellsFrom (s3.heap.objs.size + 1) scope.names (cloFrom X.env.cells scope.names [])) fp _ sub
  have pe := he s3 (upd H2 D (.lst [])) s3.heap.objs.size (cellsFrom (s3.heap.objs.size + 1) scope.names (cloFrom X.env.cells scope.names [])) fp _ sub
  show codeAny _ _ (.compStart (.ListComp elt [⟨tg, iter, ifs, 0⟩] scope pos) 0 (.ref it) (.ref D) (compEnvC scope (cellsFrom (s3.heap.objs.size + 1) scope.names (cloFrom X.env.cells scope.names [])) s3.heap.objs.size X.env)) (compPost (model X.prog X.w) X.A X.xe use Qf (.ref D) s3.heap.objs.size) { s3 with heap := pushCells (s3.heap.push { cls := .type "dict", data := .dict #[] }) scope.names }
  have nfp : ∀ b ∈ fp, (upd H2 D (.lst [])) b = none := fun b hb => (f3 b hb).1.1
  generalize hce : compEnvC scope (cellsFrom (s3.heap.objs.size + 1) scope.names (cloFrom X.env.cells scope.names [])) s3.heap.objs.size X.env = ce at I4 pg pt pe ⊢
  have cL : ce.locals = s3.heap.objs.size := by subst hce; rfl
  generalize hH3 : upd H2 D (.lst []) = H3 at I3 I4 pg pt pe w0 nfp f3
  generalize hs4 : ({ s3 with heap := pushCells (s3.heap.push { cls := .type "dict", data := .dict #[] }) scope.names } : Shared) = s4 at I4 ⊢
  have st4 : tn 0 s4.heap := T.keep _ _ _ st3 fun b _ o e => by rw [← hs4]; exact pushCells_keeps _ _ _ _ (Heap.get?_push_of_some _ e)
  have hcY : Serves hot (blkP X s3 H3 scope ce fp (X.pn ++ pins)) := hc.elim .inl fun ⟨a, p, b, c⟩ => .inr ⟨a, p, b, sub p c⟩
  have stat : ∀ {σ' : L2.St} {H' : Hp} {s' : Shared}, Inv (blkP X s3 H3 scope ce fp (X.pn ++ pins)) [] σ' H' s' → (∀ b ∈ fp, H' b = none) → ∀ b ∈ fp, FpOk (blkP X s3 H3 scope ce fp (X.pn ++ pins)) [] H' b := fun {σ' H' s'} I' hn b hb =>
    ⟨hn b hb, (I'.ok.exf b hb).1, I'.ok.exfs b hb, .inl hb, fun x c e => (I'.ok.exf b hb).2 x c e, fun p hp => (f3 b hb).1.2.2.2.2.2 p (by rcases List.mem_append.mp hp with z | z; exact z; exact absurd z List.not_mem_nil)⟩
  have loop : codeAny (model X.prog X.w) X.A (.compLoop (.ListComp elt [⟨tg, iter, ifs, 0⟩] scope pos) 0 (.ref it) (.ref D) ce) (compPost (model X.prog X.w) X.A X.xe use Qf (.ref D) s3.heap.objs.size) s4 := by
    refine compLoop_any (fun n s' => ∃ i H', Inv (blkP X s3 H3 scope ce fp (X.pn ++ pins)) [] (wipe σ (own.map (·.2))) H' s' ∧ tn i s'.heap ∧ (∀ b ∈ fp, H' b = none) ∧ Wi i n H') ?_ m0 ⟨0, H3, I4, st4, nfp, w0⟩
    rintro n s5 ⟨i, H5, I5, st5, n5, w5⟩
    rcases turn i n H5 w5 with ⟨stop, qq⟩ | ⟨go, Nx, hNx, step⟩
    · have td := T.done (blkP X s3 H3 scope ce fp (X.pn ++ pins)) rfl rfl rfl hcY i [] s5 _ H5 (fun _ _ => False) I5 (stat I5 n5) st5 stop
      refine thnF td fun r s6 ⟨hr, I6⟩ => ?_
      subst hr
      have I7 : Inv X pins σ H5 s6 := I3.call' (ch := fp) I6.os I6.base I6.hok I6.bare fun b hb => ⟨(f3 b hb).1.2.2.2.1, (f3 b hb).1.2.1, (f3 b hb).1.2.2.2.2.1, (f3 b hb).1.2.2.2.2.2⟩
      have nC : H5 s3.heap.objs.size = none := by
        have z : H5 ce.locals = none := I6.free
        rw [cL] at z
        exact z
      obtain ⟨m, hn, _⟩ := I6.loc
      have hn : s6.heap.Ns ce.locals m := hn
      rw [cL] at hn
      exact hRR D s3.heap.objs.size s6 m H5 I7 qq hn (I3.fpOk (Nat.le_refl _) nC)
    · have ti := T.item (blkP X s3 H3 scope ce fp (X.pn ++ pins)) rfl rfl rfl hcY i [] s5 _ H5 (fun _ _ => False) I5 (stat I5 n5) st5 go
      refine thnF ti fun r s6 ⟨u, hr, h6⟩ => ?_
      subst hr
      refine thnF h6 fun _ s7 ⟨x, H7, I7, r7, y7, st7, n7⟩ => ?_
      have I7' := I7.pinned (stat I7 n7) (T.obj _ _ st7)
      refine thnF (pg.run _ s7 _ H7 x u _ I7' r7 (step x H7 y7)) fun _ s8 ⟨σ8, H8, I8, hw8, q8⟩ => ?_
      refine thnF (pt.run _ s8 σ8 H8 _ I8 q8) fun b s9 ⟨H9, I9, q9⟩ => ?_
      have fin : ∀ {s' : Shared} {H' : Hp}, Inv (blkP X s3 H3 scope ce fp (X.pn ++ pins)) ([] ++ pinsAt fp s7.heap) σ8 H' s' → Nx H' → ∃ m, m < n ∧ ∃ i H', Inv (blkP X s3 H3 scope ce fp (X.pn ++ pins)) [] (wipe σ (own.map (·.2))) H' s' ∧ tn i s'.heap ∧ (∀ b ∈ fp, H' b = none) ∧ Wi i m H' := fun {s' H'} I' nx => by
        obtain ⟨m', hm, w'⟩ := hNx H' nx
        have pin' : ∀ b ∈ fp, ∀ o, s7.heap.get? b = some o → s'.heap.get? b = some o ∧ H' b = none := fun b hb o e =>
          let z := I'.pin (b, o) (List.mem_append_right _ (List.mem_append_right _ (mem_pinsAt hb e)))
          ⟨z.1, z.2.1⟩
        have hl : (wipe σ (own.map (·.2))).length = σ8.length := by rw [← hw8, wipe_length]
        refine ⟨m', hm, i + 1, H', (I'.unpinned (pins := [])).weak hl (fun j v e => ?_), T.keep _ _ _ st7 fun b hb o e => (pin' b hb o e).1, fun b hb => ?_, w'⟩
        · rw [← hw8] at e
          exact (wipe_some e).1
        · obtain ⟨o, e, _⟩ := T.obj _ _ st7 b hb
          exact (pin' b hb o e).2
      cases b with
      | false =>
        simp only [Bool.false_eq_true, if_false] at q9 ⊢
        exact fin I9 q9
      | true =>
        simp only [if_true] at q9 ⊢
        refine thnF (pe.run _ s9 σ8 H9 _ I9 q9) fun z s10 ⟨yv, H10, I10, r10, acc, hD10, hz10, nx⟩ => ?_
        exact app_ok (X := blkP X s3 H3 scope ce fp (X.pn ++ pins)) I10 hD10 hz10 r10 fun s11 I11 => fin I11 nx
  exact codeAny_compStart_list loop (T.self X.A 0 _ _ _ st4 loop)
section
variable {hot : Bool} {X : Cx}
theorem lcH {elt tg iter : Expr} {ifs : List Expr} {scope : Scope} {own : List (Str × Nat)} {pos : Pos} {wi : TI} {g : TG} {tt : TT} {te : TE} (hc : Serves hot X) (hN : X.N.Nodup) (hi : PIH hot X tg iter wi) (ok : BlkOk X.N X.env.scope scope own)
    (hg : ∀ (s : Shared) (H : Hp) (C : Addr) (cl : List (Str × Addr)) (fp : List Addr) (pn : List (Addr × Obj)), (∀ p ∈ X.pn, p ∈ pn) → PG (blkP X s H scope (compEnvC scope cl C X.env) fp pn) tg g) (ht : ∀ (s : Shared) (H : Hp) (C : Addr) (cl : List (Str × Addr)) (fp : List Addr) (pn : List (Addr × Obj)), (∀ p ∈ X.pn, p ∈ pn) → PTs (blkP X s H scope (compEnvC scope cl C X.env) fp pn) ifs tt)
    (he : ∀ (s : Shared) (H : Hp) (C : Addr) (cl : List (Str × Addr)) (fp : List Addr) (pn : List (Addr × Obj)), (∀ p ∈ X.pn, p ∈ pn) → PE (blkP X s H scope (compEnvC scope cl C X.env) fp pn) elt te) (hs : ∀ x, foldedSetIterable iter X.env x = pure x) :
    PE X (.ListComp elt [⟨tg, iter, ifs, 0⟩] scope pos) (tLc wi g tt te (own.map (·.2))) := by
  refine ⟨fun pins s σ H Q I h => ?_⟩
  rw [eval_ListComp]
  refine lcH_core hc hN I hi ok hg ht he hs h fun D C s' m H' I' q hn f => ⟨m, hn, fun h'' sb => ?_⟩
  obtain ⟨f0, f1, f2, f3, f4, f5⟩ := f
  exact ⟨.ref D, H', I'.turned (t' := s'.toks) (fun b o hb e => (sb.2 b hb).trans e) f0 f1 f3 f4 f5, rfl, q⟩
/-- y = [..] on one line -/
theorem setLcH {i : Nat} {y : Str} {py : Pos} {elt tg iter : Expr} {ifs : List Expr} {scope : Scope} {own : List (Str × Nat)} {pos spos : Pos} {wi : TI} {g : TG} {tt : TT} {te : TE} (hc : Serves hot X) (hN : X.N.Nodup) (hy : X.N[i]? = some y) (hyl : X.env.scope.names.lookup y = some .local)
    (hsw : swapsWith (.ListComp elt [⟨tg, iter, ifs, 0⟩] scope pos) (some (.Name y py)) spos.line X.env = pure true) (hi : PIH hot X tg iter wi) (ok : BlkOk X.N X.env.scope scope own)
    (hg : ∀ (s : Shared) (H : Hp) (C : Addr) (cl : List (Str × Addr)) (fp : List Addr) (pn : List (Addr × Obj)), (∀ p ∈ X.pn, p ∈ pn) → PG (blkP X s H scope (compEnvC scope cl C X.env) fp pn) tg g) (ht : ∀ (s : Shared) (H : Hp) (C : Addr) (cl : List (Str × Addr)) (fp : List Addr) (pn : List (Addr × Obj)), (∀ p ∈ X.pn, p ∈ pn) → PTs (blkP X s H scope (compEnvC scope cl C X.env) fp pn) ifs tt)
    (he : ∀ (s : Shared) (H : Hp) (C : Addr) (cl : List (Str × Addr)) (fp : List Addr) (pn : List (Addr × Obj)), (∀ p ∈ X.pn, p ∈ pn) → PE (blkP X s H scope (compEnvC scope cl C X.env) fp pn) elt te) (hs : ∀ x, foldedSetIterable iter X.env x = pure x) :
    PS X (.Assign [.Name y py] (.ListComp elt [⟨tg, iter, ifs, 0⟩] scope pos) spos) (tAsg (tLc wi g tt te (own.map (·.2))) (gName i)) := by
  refine ⟨fun pins s σ H D I h => ?_⟩
  rw [exec_Assign_Name_used _ _ _ _ hsw]
  refine wpAny_bind (wpAny_standAt (wpAny_bind ?_))
  show wpAny _ X.A (do let _ ← comprehension (.ListComp elt [⟨tg, iter, ifs, 0⟩] scope pos) scope X.env (firstIterPos [⟨tg, iter, ifs, 0⟩] pos) (newList []) false (eval iter X.env) (some (assign (.Name y py) X.env))) _ _ s
  have h : tLc wi g tt te (own.map (·.2)) σ H (fun x H1 => gName i x σ H1 D.nx) := h
  refine wpAny_bind (thn (lcH_core (Qf := fun _ s' => SP X pins D .next s') hc hN I hi ok hg ht he hs h fun L C s' m H' I' q hn f => ?_) fun _ s' hq => wpAny_pure (wpAny_pure hq))
  show wpAny _ _ (assign (.Name y py) X.env (.ref L)) _ _ _
  refine wpAny_assign_Name (store_ok2 (v := V.ref L) I' hN hy (.inl hyl) rfl (fun s2 I2 ⟨a, sb, ha⟩ => ?_) (.inr hyl))
  obtain ⟨f0, f1, f2, f3, f4, f5⟩ := f
  have haC : C ≠ a := by
    rcases ha with z | z
    · rw [z]; exact f1
    · exact fun e => f4 y a z e.symm
  refine ⟨m, hn.sameBut sb haC, fun h3 sb3 => ?_⟩
  exact ⟨_, H', I2.turned (t' := s2.toks) (fun b o hb e => (sb3.2 b hb).trans e) f0 f1 f3 f4 f5, q⟩
end
end Mp
set_option Elab.async false
set_option linter.all false
set_option maxRecDepth 100000
set_option maxHeartbeats 4000000
/-! Mp G: the readings that the interpreter gives, and that they imply the hand layer's. -/
namespace Mp
open PySem PySem.Spec PyProof.Rows L2
section
variable (Z : St0) (Wx : WX)
def TEv (r : Env → Hq → M W) : TE := fun σ H Q => ∃ m ρ h, σ = envV Z.cl m ρ ∧ wfE h.length ρ ∧ RelH Z m h H ∧ Res Z m h (r ρ h) (qW Z Q) fun c d H' => Wx c d σ H'
def TTv (r : Env → Hq → M Bool) : TT := fun σ H Q => ∃ m ρ h, σ = envV Z.cl m ρ ∧ wfE h.length ρ ∧ RelH Z m h H ∧ Res Z m h (r ρ h) (fun _ H' b _ => Q b H') fun c d H' => Wx c d σ H'
def TAv (r : Env → Hq → M (List W)) : TA := fun σ H Q => ∃ m ρ h, σ = envV Z.cl m ρ ∧ wfE h.length ρ ∧ RelH Z m h H ∧ Res Z m h (r ρ h) (fun m' H' vs h' => (∀ w ∈ vs, wfW h'.length w) → Q (vs.map (tv Z.cl m')) H') fun c d H' => Wx c d σ H'
def TOv (r : Env → Hq → M (Option Int)) : TO := fun σ H Q => ∃ m ρ h, σ = envV Z.cl m ρ ∧ wfE h.length ρ ∧ RelH Z m h H ∧ Res Z m h (r ρ h) (fun _ H' v _ => Q v H') fun c d H' => Wx c d σ H'
/-- what is walked: the items are the walked object's, or plain -/
def wfK (h : Hq) (w : Wk) : Prop := (∀ v ∈ w.2, wfW h.length v) ∧ ∀ a o, w.1 = some (a, o) → h[a]? = some o
def TIv (r : Env → Hq → M Wk) : TI := fun σ H R => ∃ m ρ h, σ = envV Z.cl m ρ ∧ wfE h.length ρ ∧ RelH Z m h H ∧ Res Z m h (r ρ h) (fun m' H' w h' => wfK h' w → R (JW Z m' w.1 w.2) H') fun c d H' => Wx c d σ H'
def RSs (m : Plc) (h : Hq) (r : RS) (D : Ends) : Prop :=
  match r with
  | none => False
  | some (.nx ρ, h') => ∀ m' H', Ext m m' h h' → RelH Z m' h' H' → wfE h'.length ρ → D.nx (envV Z.cl m' ρ) H'
  | some (.brk ρ, h') => ∀ m' H', Ext m m' h h' → RelH Z m' h' H' → wfE h'.length ρ → D.bk (envV Z.cl m' ρ) H'
  | some (.ct ρ, h') => ∀ m' H', Ext m m' h h' → RelH Z m' h' H' → wfE h'.length ρ → D.ct (envV Z.cl m' ρ) H'
  | some (.ret v, h') => ∀ m' H', Ext m m' h h' → RelH Z m' h' H' → wfW h'.length v → D.rt (tv Z.cl m' v) H'
  | some (.exc c w ρ, h') => ∀ m' H' d, Ext m m' h h' → RelH Z m' h' H' → wfW h'.length w → wfE h'.length ρ → H' d = some (.xd [(wht, tv Z.cl m' w)]) → Wx (.ref (Z.cl c)) (some d) (envV Z.cl m' ρ) H'
def TSv (r : Env → Hq → RS) : TS := fun D σ H => ∃ m ρ h, σ = envV Z.cl m ρ ∧ wfE h.length ρ ∧ RelH Z m h H ∧ RSs Z Wx m h (r ρ h) D
end
section
variable {Z : St0} {Wx : WX} {m : Plc} {h : Hq} {D : Ends}
theorem RSs.ext {m1 : Plc} {h1 : Hq} {r : RS} (a : RSs Z Wx m h r D) (e : Ext m m1 h h1) : RSs Z Wx m1 h1 r D := by
  match r, a with
  | some (.nx ρ, h'), a => exact fun m' H' e' => a m' H' (e.trans e')
  | some (.brk ρ, h'), a => exact fun m' H' e' => a m' H' (e.trans e')
  | some (.ct ρ, h'), a => exact fun m' H' e' => a m' H' (e.trans e')
  | some (.ret v, h'), a => exact fun m' H' e' => a m' H' (e.trans e')
  | some (.exc c w ρ, h'), a => exact fun m' H' d e' => a m' H' d (e.trans e')
theorem Res.ext {α : Type} {m1 : Plc} {h1 : Hq} {r : M α} {Q : Ok α} {X : Value → Option Addr → Hp → Prop} (a : Res Z m h r Q X) (e : Ext m m1 h h1) : Res Z m1 h1 r Q X := by
  match r, a with
  | some (.ok v, h'), a => exact fun m' H' e' => a m' H' (e.trans e')
  | some (.exc c w, h'), a => exact fun m' H' d e' => a m' H' d (e.trans e')
theorem RSs.lft {α : Type} {r : M α} {ρ : Env} {f : α → Hq → RS} (w : wfE h.length ρ) (a : RSs Z Wx m h (lft r ρ f) D) : Res Z m h r (fun m' _ v h' => RSs Z Wx m' h' (f v h') D) fun c d H' => Wx c d (envV Z.cl m ρ) H' := by
  match r, a with
  | some (.ok v, h'), a => exact fun m' H' e R => RSs.ext (show RSs Z Wx m h (f v h') D from a) e
  | some (.exc c x, h'), a =>
    intro m' H' d e R wx hd
    have q := a m' H' d e R wx (w.mono e.le) hd
    rw [e.env w] at q
    exact q
theorem RSs.sq {r : RS} {f : Env → Hq → RS} (a : RSs Z Wx m h (sq r f) D) : RSs Z Wx m h r { D with nx := TSv Z Wx f D } := by
  match r, a with
  | some (.nx ρ, h'), a => exact fun m' H' e R w => ⟨m', ρ, h', rfl, w, R, RSs.ext (show RSs Z Wx m h (f ρ h') D from a) e⟩
  | some (.brk ρ, h'), a => exact a
  | some (.ct ρ, h'), a => exact a
  | some (.ret v, h'), a => exact a
  | some (.exc c w ρ, h'), a => exact a
/-- an expression's part, then what follows -/
theorem TEv.bnd {α : Type} {r : Env → Hq → M W} {f : W → Env → Hq → M α} {m : Plc} {ρ : Env} {h : Hq} {H : Hp} {Q : Ok α} {Q' : VK} (wρ : wfE h.length ρ) (R : RelH Z m h H)
    (a : Res Z m h (Mp.bnd (r ρ h) fun v h => f v ρ h) Q fun c d H' => Wx c d (envV Z.cl m ρ) H')
    (k : ∀ m' H' v h', Ext m m' h h' → RelH Z m' h' H' → wfW h'.length v → wfE h'.length ρ → envV Z.cl m' ρ = envV Z.cl m ρ → Res Z m' h' (f v ρ h') Q (fun c d H' => Wx c d (envV Z.cl m' ρ) H') → Q' (tv Z.cl m' v) H') : TEv Z Wx r (envV Z.cl m ρ) H Q' :=
  ⟨m, ρ, h, rfl, wρ, R, a.bnd.mono fun m' H' v h' e R' q wv => k m' H' v h' e R' wv (wρ.mono e.le) (e.env wρ) (by rw [e.env wρ]; exact q)⟩
theorem TAv.bnd {α : Type} {r : Env → Hq → M (List W)} {f : List W → Env → Hq → M α} {m : Plc} {ρ : Env} {h : Hq} {H : Hp} {Q : Ok α} {Q' : List V → Hp → Prop} (wρ : wfE h.length ρ) (R : RelH Z m h H)
    (a : Res Z m h (Mp.bnd (r ρ h) fun v h => f v ρ h) Q fun c d H' => Wx c d (envV Z.cl m ρ) H')
    (k : ∀ m' H' v h', Ext m m' h h' → RelH Z m' h' H' → (∀ w ∈ v, wfW h'.length w) → wfE h'.length ρ → envV Z.cl m' ρ = envV Z.cl m ρ → Res Z m' h' (f v ρ h') Q (fun c d H' => Wx c d (envV Z.cl m' ρ) H') → Q' (v.map (tv Z.cl m')) H') : TAv Z Wx r (envV Z.cl m ρ) H Q' :=
  ⟨m, ρ, h, rfl, wρ, R, a.bnd.mono fun m' H' v h' e R' q wv => k m' H' v h' e R' wv (wρ.mono e.le) (e.env wρ) (by rw [e.env wρ]; exact q)⟩
theorem TTv.bnd {α : Type} {r : Env → Hq → M Bool} {f : Bool → Env → Hq → M α} {m : Plc} {ρ : Env} {h : Hq} {H : Hp} {Q : Ok α} {Q' : Bool → Hp → Prop} (wρ : wfE h.length ρ) (R : RelH Z m h H)
    (a : Res Z m h (Mp.bnd (r ρ h) fun v h => f v ρ h) Q fun c d H' => Wx c d (envV Z.cl m ρ) H')
    (k : ∀ m' H' v h', Ext m m' h h' → RelH Z m' h' H' → wfE h'.length ρ → envV Z.cl m' ρ = envV Z.cl m ρ → Res Z m' h' (f v ρ h') Q (fun c d H' => Wx c d (envV Z.cl m' ρ) H') → Q' v H') : TTv Z Wx r (envV Z.cl m ρ) H Q' :=
  ⟨m, ρ, h, rfl, wρ, R, a.bnd.mono fun m' H' v h' e R' q => k m' H' v h' e R' (wρ.mono e.le) (e.env wρ) (by rw [e.env wρ]; exact q)⟩
theorem TOv.bnd {α : Type} {r : Env → Hq → M (Option Int)} {f : Option Int → Env → Hq → M α} {m : Plc} {ρ : Env} {h : Hq} {H : Hp} {Q : Ok α} {Q' : Option Int → Hp → Prop} (wρ : wfE h.length ρ) (R : RelH Z m h H)
    (a : Res Z m h (Mp.bnd (r ρ h) fun v h => f v ρ h) Q fun c d H' => Wx c d (envV Z.cl m ρ) H')
    (k : ∀ m' H' v h', Ext m m' h h' → RelH Z m' h' H' → wfE h'.length ρ → envV Z.cl m' ρ = envV Z.cl m ρ → Res Z m' h' (f v ρ h') Q (fun c d H' => Wx c d (envV Z.cl m' ρ) H') → Q' v H') : TOv Z Wx r (envV Z.cl m ρ) H Q' :=
  ⟨m, ρ, h, rfl, wρ, R, a.bnd.mono fun m' H' v h' e R' q => k m' H' v h' e R' (wρ.mono e.le) (e.env wρ) (by rw [e.env wρ]; exact q)⟩
theorem TIv.bnd {α : Type} {r : Env → Hq → M Wk} {f : Wk → Env → Hq → M α} {m : Plc} {ρ : Env} {h : Hq} {H : Hp} {Q : Ok α} {Q' : It → Hp → Prop} (wρ : wfE h.length ρ) (R : RelH Z m h H)
    (a : Res Z m h (Mp.bnd (r ρ h) fun v h => f v ρ h) Q fun c d H' => Wx c d (envV Z.cl m ρ) H')
    (k : ∀ m' H' v h', Ext m m' h h' → RelH Z m' h' H' → wfK h' v → wfE h'.length ρ → envV Z.cl m' ρ = envV Z.cl m ρ → Res Z m' h' (f v ρ h') Q (fun c d H' => Wx c d (envV Z.cl m' ρ) H') → Q' (JW Z m' v.1 v.2) H') : TIv Z Wx r (envV Z.cl m ρ) H Q' :=
  ⟨m, ρ, h, rfl, wρ, R, a.bnd.mono fun m' H' v h' e R' q wv => k m' H' v h' e R' wv (wρ.mono e.le) (e.env wρ) (by rw [e.env wρ]; exact q)⟩
/-- a last bare end -/
theorem Res.id {α : Type} {r : M α} {Q : Ok α} {X : Value → Option Addr → Hp → Prop} (a : Res Z m h r Q X) : Res Z m h (Mp.bnd r fun v h => ret v h) Q X := by
  match r, a with
  | some (.ok v, h'), a => exact a
  | some (.exc c w, h'), a => exact a
end
/-! ### expressions -/
section
variable {Z : St0} {Wx : WX} {Γ : Gam} {k : Calls} {σ : L2.St} {H : Hp}
theorem w_var {i : Nat} {Q : VK} (a : TEv Z Wx (evE Γ k (.var i)) σ H Q) : tVar i σ H Q := by
  obtain ⟨m, ρ, h, rfl, wρ, R, a⟩ := a
  unfold evE at a
  split at a
  · rename_i v hv
    exact ⟨_, envV_get hv, a.of_ret R (wρ.get hv)⟩
  · exact a.none'
theorem w_cst {w : W} {v : V} (hv : ∀ m, tv Z.cl m w = v) (hw : ∀ n, wfW n w) {Q : VK} (a : TEv Z Wx (evE Γ k (.cst w)) σ H Q) : tC v σ H Q := by
  obtain ⟨m, ρ, h, rfl, wρ, R, a⟩ := a
  have q := a.of_ret R (hw _)
  rw [hv] at q
  exact q
theorem w_glob {g : Nat} {w : W} {v : V} (hg : Γ.glob g = some w) (hv : ∀ m, tv Z.cl m w = v) (hw : ∀ n, wfW n w) {Q : VK} (a : TEv Z Wx (evE Γ k (.glob g)) σ H Q) : tC v σ H Q := by
  obtain ⟨m, ρ, h, rfl, wρ, R, a⟩ := a
  unfold evE at a
  rw [hg] at a
  have q := a.of_ret R (hw _)
  rw [hv] at q
  exact q
theorem w_ty {n : String} {Q : VK} (a : TEv Z Wx (evE Γ k (.ty n)) σ H Q) : tC (.ty n) σ H Q := by
  obtain ⟨m, ρ, h, rfl, wρ, R, a⟩ := a
  exact a.of_ret R trivial
theorem w_cls {c : Nat} {Q : VK} (a : TEv Z Wx (evE Γ k (.cls c)) σ H Q) : tC (.ref (Z.cl c)) σ H Q := by
  obtain ⟨m, ρ, h, rfl, wρ, R, a⟩ := a
  exact a.of_ret R trivial
theorem w_bin {o : BOp} {a b : E} {Q : VK} (t : TEv Z Wx (evE Γ k (.bin o a b)) σ H Q) : tOp (rBin Z.K o) (TEv Z Wx (evE Γ k a)) (TEv Z Wx (evE Γ k b)) σ H Q := by
  obtain ⟨m, ρ, h, rfl, wρ, R, t⟩ := t
  unfold evE at t
  refine TEv.bnd (f := fun x ρ h => bnd (evE Γ k b ρ h) fun y h => binV o x y h) wρ R t fun m1 H1 x h1 e1 R1 wx w1 ee t1 => ?_
  rw [← ee]
  refine TEv.bnd (f := fun y _ h => binV o x y h) w1 R1 t1 fun m2 H2 y h2 e2 R2 wy w2 ee2 t2 => ?_
  rw [← e2.tv wx]
  exact op2Bin o m2 h2 H2 x y Q _ R2 (wx.mono e2.le) wy t2
theorem w_neg {a : E} {Q : VK} (t : TEv Z Wx (evE Γ k (.neg a)) σ H Q) : tUn (rU fun i => .int (-i)) (TEv Z Wx (evE Γ k a)) σ H Q := by
  obtain ⟨m, ρ, h, rfl, wρ, R, t⟩ := t
  unfold evE at t
  refine TEv.bnd (f := fun (x : W) ρ h => (match x with | .int i => ret (.int (-i)) h | _ => (none : M W))) wρ R t fun m1 H1 x h1 e1 R1 wx w1 ee t1 => ?_
  cases x with
  | int i => exact ⟨i, rfl, t1.of_ret R1 trivial⟩
  | _ => exact t1.none'
theorem optB_ok {m : Plc} {h : Hq} {H : Hp} {o : Option Bool} {Q : VK} {X : Value → Option Addr → Hp → Prop} (t : Res Z m h (optB o h) (qW Z Q) X) (R : RelH Z m h H) : ∃ b, o = some b ∧ Q (.bl b) H := by
  cases o with
  | none => exact t.none'
  | some b => exact ⟨b, rfl, t.of_ret R trivial⟩
theorem optT_ok {α : Type} {m : Plc} {h : Hq} {H : Hp} {o : Option Bool} {Q : Ok Bool} {X : Value → Option Addr → Hp → Prop} (t : Res Z m h (optT o h) Q X) (R : RelH Z m h H) : ∃ b, o = some b ∧ Q m H b h := by
  cases o with
  | none => exact t.none'
  | some b => exact ⟨b, rfl, t.of_ret R⟩
theorem w_cmp {o : COp} {a b : E} {Q : VK} (t : TEv Z Wx (evE Γ k (.cmp o a b)) σ H Q) : tOp (rCmp Z.K o) (TEv Z Wx (evE Γ k a)) (TEv Z Wx (evE Γ k b)) σ H Q := by
  obtain ⟨m, ρ, h, rfl, wρ, R, t⟩ := t
  unfold evE at t
  refine TEv.bnd (f := fun x ρ h => bnd (evE Γ k b ρ h) fun y h => optB (cmpV o x y h) h) wρ R t fun m1 H1 x h1 e1 R1 wx w1 ee t1 => ?_
  rw [← ee]
  refine TEv.bnd (f := fun y _ h => optB (cmpV o x y h) h) w1 R1 t1 fun m2 H2 y h2 e2 R2 wy w2 ee2 t2 => ?_
  rw [← e2.tv wx]
  obtain ⟨b, eb, q⟩ := optB_ok t2 R2
  exact cmp2 o m2 h2 H2 x y b Q R2 eb q
theorem w_cmpT {o : COp} {a b : E} {Q : Bool → Hp → Prop} (t : TTv Z Wx (evT Γ k (.cmp o a b)) σ H Q) : tTest (tOp (rCmp Z.K o) (TEv Z Wx (evE Γ k a)) (TEv Z Wx (evE Γ k b))) σ H Q := by
  obtain ⟨m, ρ, h, rfl, wρ, R, t⟩ := t
  unfold evT at t
  refine TEv.bnd (f := fun x ρ h => bnd (evE Γ k b ρ h) fun y h => optT (cmpV o x y h) h) wρ R t fun m1 H1 x h1 e1 R1 wx w1 ee t1 => ?_
  rw [← ee]
  refine TEv.bnd (f := fun y _ h => optT (cmpV o x y h) h) w1 R1 t1 fun m2 H2 y h2 e2 R2 wy w2 ee2 t2 => ?_
  rw [← e2.tv wx]
  obtain ⟨b, eb, q⟩ := optT_ok (α := Bool) t2 R2
  exact cmp2 o m2 h2 H2 x y b _ R2 eb ⟨b, rfl, q⟩
theorem isN_tv {m : Plc} {x : W} : decide (tv Z.cl m x = .non) = decide (x = W.non) := by cases x <;> simp [tv]
def rIsN (s : Bool) : R2 := fun x y H Q => y = .non ∧ Q (.bl (s == decide (x = .non))) H
theorem w_isN {s : Bool} {a : E} {Q : VK} (t : TEv Z Wx (evE Γ k (.isN s a)) σ H Q) : tOp (rIsN s) (TEv Z Wx (evE Γ k a)) (tC .non) σ H Q := by
  obtain ⟨m, ρ, h, rfl, wρ, R, t⟩ := t
  unfold evE at t
  refine TEv.bnd (f := fun (x : W) ρ h => (ret (.bl (s == decide (x = .non))) h : M W)) wρ R t fun m1 H1 x h1 e1 R1 wx w1 ee t1 => ?_
  exact ⟨rfl, by rw [isN_tv]; exact t1.of_ret R1 trivial⟩
theorem w_isNT {s : Bool} {a : E} {Q : Bool → Hp → Prop} (t : TTv Z Wx (evT Γ k (.isN s a)) σ H Q) : tTest (tOp (rIsN s) (TEv Z Wx (evE Γ k a)) (tC .non)) σ H Q := by
  obtain ⟨m, ρ, h, rfl, wρ, R, t⟩ := t
  unfold evT at t
  refine TEv.bnd (f := fun (x : W) ρ h => (ret (s == decide (x = .non)) h : M Bool)) wρ R t fun m1 H1 x h1 e1 R1 wx w1 ee t1 => ?_
  exact ⟨rfl, _, rfl, by rw [isN_tv]; exact t1.of_ret R1⟩
theorem w_chn {o p : COp} {a b c : E} {Q : VK} (t : TEv Z Wx (evE Γ k (.chn o p a b c)) σ H Q) : tChain (rCmp Z.K o) (rCmp Z.K p) (TEv Z Wx (evE Γ k a)) (TEv Z Wx (evE Γ k b)) (TEv Z Wx (evE Γ k c)) σ H Q := by
  obtain ⟨m, ρ, h, rfl, wρ, R, t⟩ := t
  unfold evE at t
  refine TEv.bnd (f := fun x ρ h => bnd (evE Γ k b ρ h) fun y h => bnd (optT (cmpV o x y h) h) fun t h => if t = true then bnd (evE Γ k c ρ h) fun z h => optB (cmpV p y z h) h else ret (.bl false) h) wρ R t fun m1 H1 x h1 e1 R1 wx w1 ee t1 => ?_
  rw [← ee]
  refine TEv.bnd (f := fun y ρ h => bnd (optT (cmpV o x y h) h) fun t h => if t = true then bnd (evE Γ k c ρ h) fun z h => optB (cmpV p y z h) h else ret (.bl false) h) w1 R1 t1 fun m2 H2 y h2 e2 R2 wy w2 ee2 t2 => ?_
  rw [← e2.tv wx]
  obtain ⟨d, ed, q⟩ := optT_ok (α := Bool) t2.bnd R2
  refine cmp2 o m2 h2 H2 x y d _ R2 ed ⟨d, rfl, ?_⟩
  cases d with
  | false =>
    rw [if_neg Bool.false_ne_true] at q ⊢
    exact q.of_ret R2 trivial
  | true =>
    rw [if_pos rfl] at q ⊢
    rw [← ee2]
    refine TEv.bnd (f := fun z _ h => optB (cmpV p y z h) h) w2 R2 q fun m3 H3 z h3 e3 R3 wz w3 ee3 t3 => ?_
    rw [← e3.tv wy]
    obtain ⟨b, eb, q⟩ := optB_ok t3 R3
    exact cmp2 p m3 h3 H3 y z b Q R3 eb q
theorem w_chnT {o p : COp} {a b c : E} {Q : Bool → Hp → Prop} (t : TTv Z Wx (evT Γ k (.chn o p a b c)) σ H Q) : tTest (tChain (rCmp Z.K o) (rCmp Z.K p) (TEv Z Wx (evE Γ k a)) (TEv Z Wx (evE Γ k b)) (TEv Z Wx (evE Γ k c))) σ H Q := by
  obtain ⟨m, ρ, h, rfl, wρ, R, t⟩ := t
  unfold evT at t
  refine TEv.bnd (f := fun x ρ h => bnd (evE Γ k b ρ h) fun y h => bnd (optT (cmpV o x y h) h) fun t h => if t = true then bnd (evE Γ k c ρ h) fun z h => optT (cmpV p y z h) h else ret false h) wρ R t fun m1 H1 x h1 e1 R1 wx w1 ee t1 => ?_
  rw [← ee]
  refine TEv.bnd (f := fun y ρ h => bnd (optT (cmpV o x y h) h) fun t h => if t = true then bnd (evE Γ k c ρ h) fun z h => optT (cmpV p y z h) h else ret false h) w1 R1 t1 fun m2 H2 y h2 e2 R2 wy w2 ee2 t2 => ?_
  rw [← e2.tv wx]
  obtain ⟨d, ed, q⟩ := optT_ok (α := Bool) t2.bnd R2
  refine cmp2 o m2 h2 H2 x y d _ R2 ed ⟨d, rfl, ?_⟩
  cases d with
  | false =>
    rw [if_neg Bool.false_ne_true] at q ⊢
    exact ⟨false, rfl, q.of_ret R2⟩
  | true =>
    rw [if_pos rfl] at q ⊢
    rw [← ee2]
    refine TEv.bnd (f := fun z _ h => optT (cmpV p y z h) h) w2 R2 q fun m3 H3 z h3 e3 R3 wz w3 ee3 t3 => ?_
    rw [← e3.tv wy]
    obtain ⟨b, eb, q⟩ := optT_ok (α := Bool) t3 R3
    exact cmp2 p m3 h3 H3 y z b _ R3 eb ⟨b, rfl, q⟩
theorem w_not {a : E} {Q : VK} (t : TEv Z Wx (evE Γ k (.not a)) σ H Q) : tNotV (TEv Z Wx (evE Γ k a)) σ H Q := by
  obtain ⟨m, ρ, h, rfl, wρ, R, t⟩ := t
  unfold evE at t
  refine TEv.bnd (f := fun (x : W) ρ h => (match x with | .bl b => ret (.bl (!b)) h | _ => (none : M W))) wρ R t fun m1 H1 x h1 e1 R1 wx w1 ee t1 => ?_
  cases x with
  | bl b => exact ⟨b, rfl, t1.of_ret R1 trivial⟩
  | _ => exact t1.none'
theorem w_notT {a : E} {Q : Bool → Hp → Prop} (t : TTv Z Wx (evT Γ k (.not a)) σ H Q) : tNot (TTv Z Wx (evT Γ k a)) σ H Q := by
  obtain ⟨m, ρ, h, rfl, wρ, R, t⟩ := t
  unfold evT at t
  exact TTv.bnd (f := fun b _ h => ret (!b) h) wρ R t fun m1 H1 b h1 e1 R1 w1 ee t1 => t1.of_ret R1
theorem w_and {a b : E} {Q : VK} (t : TEv Z Wx (evE Γ k (.and a b)) σ H Q) : tAndV (TEv Z Wx (evE Γ k a)) (TEv Z Wx (evE Γ k b)) σ H Q := by
  obtain ⟨m, ρ, h, rfl, wρ, R, t⟩ := t
  unfold evE at t
  refine TEv.bnd (f := fun x ρ h => (match x with | .bl true => evE Γ k b ρ h | .bl false => ret (.bl false) h | _ => none)) wρ R t fun m1 H1 x h1 e1 R1 wx w1 ee t1 => ?_
  cases x with
  | bl c => cases c with
    | true => exact ⟨true, rfl, by rw [if_pos rfl]; exact ⟨m1, ρ, h1, ee.symm, w1, R1, by rw [← ee]; exact t1⟩⟩
    | false => exact ⟨false, rfl, by rw [if_neg Bool.false_ne_true]; exact t1.of_ret R1 trivial⟩
  | _ => exact t1.none'
theorem w_or {a b : E} {Q : VK} (t : TEv Z Wx (evE Γ k (.or a b)) σ H Q) : tOrV (TEv Z Wx (evE Γ k a)) (TEv Z Wx (evE Γ k b)) σ H Q := by
  obtain ⟨m, ρ, h, rfl, wρ, R, t⟩ := t
  unfold evE at t
  refine TEv.bnd (f := fun x ρ h => (match x with | .bl true => ret (.bl true) h | .bl false => evE Γ k b ρ h | _ => none)) wρ R t fun m1 H1 x h1 e1 R1 wx w1 ee t1 => ?_
  cases x with
  | bl c => cases c with
    | false => exact ⟨false, rfl, by rw [if_neg Bool.false_ne_true]; exact ⟨m1, ρ, h1, ee.symm, w1, R1, by rw [← ee]; exact t1⟩⟩
    | true => exact ⟨true, rfl, by rw [if_pos rfl]; exact t1.of_ret R1 trivial⟩
  | _ => exact t1.none'
theorem w_andT {a b : E} {Q : Bool → Hp → Prop} (t : TTv Z Wx (evT Γ k (.and a b)) σ H Q) : tAnd (TTv Z Wx (evT Γ k a)) (TTv Z Wx (evT Γ k b)) σ H Q := by
  obtain ⟨m, ρ, h, rfl, wρ, R, t⟩ := t
  unfold evT at t
  refine TTv.bnd (f := fun t ρ h => if t = true then evT Γ k b ρ h else ret false h) wρ R t fun m1 H1 x h1 e1 R1 w1 ee t1 => ?_
  cases x with
  | true => rw [if_pos rfl] at t1 ⊢; exact ⟨m1, ρ, h1, ee.symm, w1, R1, by rw [← ee]; exact t1⟩
  | false => rw [if_neg Bool.false_ne_true] at t1 ⊢; exact t1.of_ret R1
theorem w_orT {a b : E} {Q : Bool → Hp → Prop} (t : TTv Z Wx (evT Γ k (.or a b)) σ H Q) : tOr (TTv Z Wx (evT Γ k a)) (TTv Z Wx (evT Γ k b)) σ H Q := by
  obtain ⟨m, ρ, h, rfl, wρ, R, t⟩ := t
  unfold evT at t
  refine TTv.bnd (f := fun t ρ h => if t = true then ret true h else evT Γ k b ρ h) wρ R t fun m1 H1 x h1 e1 R1 w1 ee t1 => ?_
  cases x with
  | false => rw [if_neg Bool.false_ne_true] at t1 ⊢; exact ⟨m1, ρ, h1, ee.symm, w1, R1, by rw [← ee]; exact t1⟩
  | true => rw [if_pos rfl] at t1 ⊢; exact t1.of_ret R1
theorem w_ite {c a b : E} {Q : VK} (t : TEv Z Wx (evE Γ k (.ite c a b)) σ H Q) : tIf (TTv Z Wx (evT Γ k c)) (TEv Z Wx (evE Γ k a)) (TEv Z Wx (evE Γ k b)) σ H Q := by
  obtain ⟨m, ρ, h, rfl, wρ, R, t⟩ := t
  unfold evE at t
  refine TTv.bnd (f := fun t ρ h => if t = true then evE Γ k a ρ h else evE Γ k b ρ h) wρ R t fun m1 H1 x h1 e1 R1 w1 ee t1 => ?_
  cases x with
  | true => rw [if_pos rfl] at t1 ⊢; exact ⟨m1, ρ, h1, ee.symm, w1, R1, by rw [← ee]; exact t1⟩
  | false => rw [if_neg Bool.false_ne_true] at t1 ⊢; exact ⟨m1, ρ, h1, ee.symm, w1, R1, by rw [← ee]; exact t1⟩
/-- a call's promise: what the interpreter gives -/
def spE (Z : St0) (k : Calls) (ar : Nat) (f : Nat) : Sp := fun vs H Q E => ∃ m h us, vs = us.map (tv Z.cl m) ∧ us.length = ar ∧ (∀ w ∈ us, wfW h.length w) ∧ RelH Z m h H ∧ Res Z m h (k f us h) (qW Z Q) E
theorem w_call {f ar : Nat} {es : Es} {Q : VK} (hk : ∀ us h, us.length ≠ ar → k f us h = none) (t : TEv Z Wx (evE Γ k (.call f es)) σ H Q) : tCallS (spE Z k ar f) (WE Wx) (TAv Z Wx (evEs Γ k es)) σ H Q := by
  obtain ⟨m, ρ, h, rfl, wρ, R, t⟩ := t
  unfold evE at t
  refine TAv.bnd (f := fun vs _ h => k f vs h) wρ R t fun m1 H1 vs h1 e1 R1 wv w1 ee t1 => ?_
  refine ⟨m1, h1, vs, rfl, ?_, wv, R1, by rw [← ee]; exact t1⟩
  by_cases hl : vs.length = ar
  · exact hl
  · rw [hk vs h1 hl] at t1; exact t1.none'
theorem w_fn (F : ClsF Γ Z) {b : Fn} {es : Es} {Q : VK} (t : TEv Z Wx (evE Γ k (.fn b es)) σ H Q) : tCB (rFn2 Z b) (TAv Z Wx (evEs Γ k es)) σ H Q := by
  obtain ⟨m, ρ, h, rfl, wρ, R, t⟩ := t
  unfold evE at t
  exact TAv.bnd (f := fun vs _ h => fnV Γ b vs h) wρ R t fun m1 H1 vs h1 e1 R1 wv w1 ee t1 => fn_ok F b R1 wv t1
theorem w_mth {mt : Mt} {o : E} {es : Es} {Q : VK} (t : TEv Z Wx (evE Γ k (.mth mt o es)) σ H Q) : tBM Z.K (mTy mt) (rMt mt) (TEv Z Wx (evE Γ k o)) (TAv Z Wx (evEs Γ k es)) σ H Q := by
  obtain ⟨m, ρ, h, rfl, wρ, R, t⟩ := t
  unfold evE at t
  refine TEv.bnd (f := fun x ρ h => if mthPre mt x h = true then bnd (evEs Γ k es ρ h) fun vs h => mthV mt x vs h else none) wρ R t fun m1 H1 x h1 e1 R1 wx w1 ee t1 => ?_
  split at t1
  · rename_i hp
    refine ⟨mthPre_ok R1 hp, ?_⟩
    rw [← ee]
    refine TAv.bnd (f := fun vs _ h => mthV mt x vs h) w1 R1 t1 fun m2 H2 vs h2 e2 R2 wv w2 ee2 t2 => ?_
    rw [← e2.tv wx]
    exact mth_ok R2 (wx.mono e2.le) wv t2
  · exact t1.none'
theorem w_mth0 {mt : Mt} {o : E} {Q : VK} (t : TEv Z Wx (evE Γ k (.mth mt o .nil)) σ H Q) : tBM0 Z.K (mTy mt) (rMt mt) (TEv Z Wx (evE Γ k o)) σ H Q := by
  obtain ⟨m, ρ, h, rfl, wρ, R, t⟩ := t
  unfold evE at t
  refine TEv.bnd (f := fun x ρ h => if mthPre mt x h = true then bnd (evEs Γ k .nil ρ h) fun vs h => mthV mt x vs h else none) wρ R t fun m1 H1 x h1 e1 R1 wx w1 ee t1 => ?_
  split at t1
  · rename_i hp
    refine ⟨mthPre_ok R1 hp, ?_⟩
    unfold evEs at t1
    exact mth_ok (vs := []) R1 wx (fun _ z => nomatch z) t1
  · exact t1.none'
theorem w_ix {a i : E} {Q : VK} (t : TEv Z Wx (evE Γ k (.ix a i)) σ H Q) : tOp (rIx Z.K) (TEv Z Wx (evE Γ k a)) (TEv Z Wx (evE Γ k i)) σ H Q := by
  obtain ⟨m, ρ, h, rfl, wρ, R, t⟩ := t
  unfold evE at t
  refine TEv.bnd (f := fun x ρ h => bnd (evE Γ k i ρ h) fun y h => ixV x y h) wρ R t fun m1 H1 x h1 e1 R1 wx w1 ee t1 => ?_
  rw [← ee]
  refine TEv.bnd (f := fun y _ h => ixV x y h) w1 R1 t1 fun m2 H2 y h2 e2 R2 wy w2 ee2 t2 => ?_
  rw [← e2.tv wx]
  exact op2_ix m2 h2 H2 x y Q _ R2 (wx.mono e2.le) wy t2
theorem w_lrg {a : E} {Q : VK} (t : TEv Z Wx (evE Γ k (.lrg a)) σ H Q) : tLstRg (tRg1 (TEv Z Wx (evE Γ k a))) σ H Q := by
  obtain ⟨m, ρ, h, rfl, wρ, R, t⟩ := t
  unfold evE at t
  refine TEv.bnd (f := fun x ρ h => lrgV (.int 0) x h) wρ R t fun m1 H1 x h1 e1 R1 wx w1 ee t1 => ?_
  cases x with
  | int j =>
    unfold lrgV at t1
    dsimp only at t1
    split at t1
    · rename_i hc
      have hc := Bool.and_eq_true_iff.mp hc
      have h2 := of_decide_eq_true (Bool.and_eq_true_iff.mp hc.1).2
      have h3 := of_decide_eq_true hc.2
      refine ⟨j, rfl, ⟨by omega, by omega, by omega, by omega, by omega⟩, ?_⟩
      have q := allocL t1 R1 (fun w hw => by
        obtain ⟨i, _, rfl⟩ := List.mem_map.mp hw
        trivial)
      have e : (rngL 0 j).map (tv Z.cl m1) = rgV 0 j := by unfold rngL rgV; rw [List.map_map]; rfl
      rw [e] at q
      exact q
    · exact t1.none'
  | _ => exact t1.none'
theorem w_cut {a : E} {lo hi : Op} {Q : VK} (t : TEv Z Wx (evE Γ k (.cut a lo hi)) σ H Q) : tSl (rSl2 Z.K) (TEv Z Wx (evE Γ k a)) (TOv Z Wx (evO Γ k lo)) (TOv Z Wx (evO Γ k hi)) σ H Q := by
  obtain ⟨m, ρ, h, rfl, wρ, R, t⟩ := t
  unfold evE at t
  refine TEv.bnd (f := fun x ρ h => bnd (evO Γ k lo ρ h) fun l h => bnd (evO Γ k hi ρ h) fun u h => cutW x l u h) wρ R t fun m1 H1 x h1 e1 R1 wx w1 ee t1 => ?_
  rw [← ee]
  refine TOv.bnd (f := fun l ρ h => bnd (evO Γ k hi ρ h) fun u h => cutW x l u h) w1 R1 t1 fun m2 H2 l h2 e2 R2 w2 ee2 t2 => ?_
  rw [← ee2]
  refine TOv.bnd (f := fun u _ h => cutW x l u h) w2 R2 t2 fun m3 H3 u h3 e3 R3 w3 ee3 t3 => ?_
  rw [← (e2.trans e3).tv wx]
  exact cut_ok R3 t3
theorem w_tup {es : Es} {Q : VK} (t : TEv Z Wx (evE Γ k (.tup es)) σ H Q) : tTup (TAv Z Wx (evEs Γ k es)) σ H Q := by
  obtain ⟨m, ρ, h, rfl, wρ, R, t⟩ := t
  unfold evE at t
  refine TAv.bnd (f := fun vs _ h => if vs.length ≤ line then alloc (.tup vs) h else none) wρ R t fun m1 H1 vs h1 e1 R1 wv w1 ee t1 => ?_
  split at t1
  · rename_i hz
    exact ⟨by rw [List.length_map, ← line_eq]; exact hz, allocT t1 R1 wv⟩
  · exact t1.none'
theorem w_lst {es : Es} {Q : VK} (t : TEv Z Wx (evE Γ k (.lst es)) σ H Q) : tLst (TAv Z Wx (evEs Γ k es)) σ H Q := by
  obtain ⟨m, ρ, h, rfl, wρ, R, t⟩ := t
  unfold evE at t
  refine TAv.bnd (f := fun vs _ h => if vs.length ≤ line then alloc (.lst vs) h else none) wρ R t fun m1 H1 vs h1 e1 R1 wv w1 ee t1 => ?_
  split at t1
  · rename_i hz
    exact ⟨by rw [List.length_map, ← line_eq]; exact hz, allocL t1 R1 wv⟩
  · exact t1.none'
/-- truth of a value, for tests -/
theorem w_tru {r : Env → Hq → M W} {Q : Bool → Hp → Prop} (t : TTv Z Wx (fun ρ h => bnd (r ρ h) fun x h => optT (truV h x) h) σ H Q) : (fun σ H (Q : Bool → Hp → Prop) => TEv Z Wx r σ H fun x H1 => ∃ b, TruV Z.K x H1 b ∧ Q b H1) σ H Q := by
  obtain ⟨m, ρ, h, rfl, wρ, R, t⟩ := t
  refine TEv.bnd (f := fun x _ h => optT (truV h x) h) wρ R t fun m1 H1 x h1 e1 R1 wx w1 ee t1 => ?_
  obtain ⟨b, eb, q⟩ := optT_ok (α := Bool) t1 R1
  exact ⟨b, tru_tv R1 eb, q⟩
/-! ### arguments, parts of a slice, what is walked -/
theorem w_nil {Q : List V → Hp → Prop} (t : TAv Z Wx (evEs Γ k .nil) σ H Q) : tNil σ H Q := by
  obtain ⟨m, ρ, h, rfl, wρ, R, t⟩ := t
  unfold evEs at t
  exact t.of_ret R fun _ z => nomatch z
theorem w_cons {e : E} {es : Es} {Q : List V → Hp → Prop} (t : TAv Z Wx (evEs Γ k (.cons e es)) σ H Q) : tCons (TEv Z Wx (evE Γ k e)) (TAv Z Wx (evEs Γ k es)) σ H Q := by
  obtain ⟨m, ρ, h, rfl, wρ, R, t⟩ := t
  unfold evEs at t
  refine TEv.bnd (f := fun v ρ h => bnd (evEs Γ k es ρ h) fun vs h => ret (v :: vs) h) wρ R t fun m1 H1 x h1 e1 R1 wx w1 ee t1 => ?_
  rw [← ee]
  refine TAv.bnd (f := fun vs _ h => ret (x :: vs) h) w1 R1 t1 fun m2 H2 vs h2 e2 R2 wv w2 ee2 t2 => ?_
  have q := t2.of_ret R2 (fun w hw => by
    rcases List.mem_cons.mp hw with rfl | hw
    · exact wx.mono e2.le
    · exact wv w hw)
  rw [List.map_cons, e2.tv wx] at q
  exact q
theorem w_no {Q : Option Int → Hp → Prop} (t : TOv Z Wx (evO Γ k .no) σ H Q) : tNoPart σ H Q := by
  obtain ⟨m, ρ, h, rfl, wρ, R, t⟩ := t
  unfold evO at t
  exact t.of_ret R
theorem w_yes {e : E} {Q : Option Int → Hp → Prop} (t : TOv Z Wx (evO Γ k (.yes e)) σ H Q) : tPart (TEv Z Wx (evE Γ k e)) σ H Q := by
  obtain ⟨m, ρ, h, rfl, wρ, R, t⟩ := t
  unfold evO at t
  refine TEv.bnd (f := fun (v : W) _ h => (match v with | .int i => ret (some i) h | _ => (none : M (Option Int)))) wρ R t fun m1 H1 x h1 e1 R1 wx w1 ee t1 => ?_
  cases x with
  | int i => exact ⟨i, rfl, t1.of_ret R1⟩
  | _ => exact t1.none'
end
end Mp
set_option Elab.async false
set_option linter.all false
set_option maxRecDepth 100000
set_option maxHeartbeats 4000000
/-! Mp H: what is walked, comprehensions, statements. -/
namespace Mp
open PySem PySem.Spec PyProof.Rows L2
abbrev wN : WX := fun _ _ _ _ => False
section
variable {Z : St0} {Wx : WX} {Γ : Gam} {k : Calls} {σ : L2.St} {H : Hp}
/-! ### what is walked -/
def iAny (Z : St0) (te : TE) : TI := fun σ H R => te σ H fun x H1 => ∃ w m h wk, x = tv Z.cl m w ∧ RelH Z m h H1 ∧ walkOf w h = ret wk h ∧ R (JW Z m wk.1 wk.2) H1
def iRg (Z : St0) (te : TE) : TI := fun σ H R => te σ H fun x H1 => ∃ j m, x = .int j ∧ rngOk j = true ∧ R (JW Z m none (rngL 0 j)) H1
def iRg2 (Z : St0) (ta tb : TE) : TI := fun σ H R => ta σ H fun x H1 => tb σ H1 fun y H2 => ∃ i j m, x = .int i ∧ y = .int j ∧ rngOk i = true ∧ rngOk j = true ∧ R (JW Z m none (rngL i j)) H2
theorem walk_ok {m : Plc} {h : Hq} {H : Hp} {w : W} {Q : Ok Wk} {X : Value → Option Addr → Hp → Prop} (t : Res Z m h (walkOf w h) Q X) (R : RelH Z m h H) : ∃ wk, walkOf w h = ret wk h ∧ wfK h wk ∧ Q m H wk h := by
  have seq : ∀ (a : Nat) (o : Ob) (xs : List W), h[a]? = some o → (∀ v ∈ xs, wfW h.length v) → wfK h (some (a, o), xs) := fun a o xs ha hx => ⟨hx, fun b u e => by
    cases e
    exact ha⟩
  cases w with
  | str z =>
    refine ⟨_, rfl, ⟨fun v hv => ?_, fun a o e => (nomatch e)⟩, t.of_ret R⟩
    obtain ⟨c, _, rfl⟩ := List.mem_map.mp hv
    trivial
  | ref a =>
    unfold walkOf at t ⊢
    dsimp only at t ⊢
    cases ha : h[a]? with
    | none => rw [ha] at t; exact t.none'
    | some o =>
      rw [ha] at t
      have wfo := R.wf a o ha
      cases o with
      | lst xs => exact ⟨_, rfl, seq a _ xs ha wfo, t.of_ret R⟩
      | frl xs => exact ⟨_, rfl, seq a _ xs ha wfo, t.of_ret R⟩
      | tup xs => exact ⟨_, rfl, seq a _ xs ha wfo, t.of_ret R⟩
      | _ => exact t.none'
  | _ => exact t.none'
theorem rngL_wf {i j : Int} {h : Hq} : wfK h (none, rngL i j) := ⟨fun v hv => by
  obtain ⟨_, _, rfl⟩ := List.mem_map.mp hv
  trivial, fun a o e => (nomatch e)⟩
theorem w_any {e : E} {R : It → Hp → Prop} (t : TIv Z Wx (evS Γ k (.any e)) σ H R) : iAny Z (TEv Z Wx (evE Γ k e)) σ H R := by
  obtain ⟨m, ρ, h, rfl, wρ, RH, t⟩ := t
  unfold evS at t
  refine TEv.bnd (f := fun v _ h => walkOf v h) wρ RH t fun m1 H1 x h1 e1 R1 wx w1 ee t1 => ?_
  obtain ⟨wk, hw, wfk, q⟩ := walk_ok t1 R1
  exact ⟨x, m1, h1, wk, rfl, R1, hw, q wfk⟩
theorem w_rng {e : E} {R : It → Hp → Prop} (t : TIv Z Wx (evS Γ k (.rng e)) σ H R) : iRg Z (TEv Z Wx (evE Γ k e)) σ H R := by
  obtain ⟨m, ρ, h, rfl, wρ, RH, t⟩ := t
  unfold evS at t
  refine TEv.bnd (f := fun (v : W) _ h => (match v with | .int j => if rngOk j then ret (none, rngL 0 j) h else (none : M Wk) | _ => (none : M Wk))) wρ RH t fun m1 H1 x h1 e1 R1 wx w1 ee t1 => ?_
  cases x with
  | int j =>
    dsimp only at t1
    split at t1
    · rename_i hj
      exact ⟨j, m1, rfl, hj, t1.of_ret R1 rngL_wf⟩
    · exact t1.none'
  | _ => exact t1.none'
theorem w_rng2 {a b : E} {R : It → Hp → Prop} (t : TIv Z Wx (evS Γ k (.rng2 a b)) σ H R) : iRg2 Z (TEv Z Wx (evE Γ k a)) (TEv Z Wx (evE Γ k b)) σ H R := by
  obtain ⟨m, ρ, h, rfl, wρ, RH, t⟩ := t
  unfold evS at t
  refine TEv.bnd (f := fun (v : W) ρ h => bnd (evE Γ k b ρ h) fun w h => (match v, w with | .int i, .int j => if rngOk i && rngOk j then ret (none, rngL i j) h else (none : M Wk) | _, _ => (none : M Wk))) wρ RH t fun m1 H1 x h1 e1 R1 wx w1 ee t1 => ?_
  rw [← ee]
  refine TEv.bnd (f := fun (w : W) _ h => (match x, w with | .int i, .int j => if rngOk i && rngOk j then ret (none, rngL i j) h else (none : M Wk) | _, _ => (none : M Wk))) w1 R1 t1 fun m2 H2 y h2 e2 R2 wy w2 ee2 t2 => ?_
  cases x with
  | int i => cases y with
    | int j =>
      dsimp only at t2
      split at t2
      · rename_i hj
        have hj := Bool.and_eq_true_iff.mp hj
        exact ⟨i, j, m2, rfl, rfl, hj.1, hj.2, t2.of_ret R2 rngL_wf⟩
      · exact t2.none'
    | _ => exact t2.none'
  | _ => exact t2.none'
/-- what the walked object's guard says at a later heap -/
theorem stay_of {m m' : Plc} {h h' : Hq} {H' : Hp} {g : Option (Nat × Ob)} {xs : List W} (wk : wfK h (g, xs)) (R : RelH Z m h H) (e : Ext m m' h h') (R' : RelH Z m' h' H') (s : stays g h' = true) : Stay Z m H' g := by
  cases g with
  | none => trivial
  | some p =>
    obtain ⟨a, o⟩ := p
    have ha : h[a]? = some o := wk.2 a o rfl
    have ha' : h'[a]? = some o := of_decide_eq_true s
    have r := R'.ob a o ha'
    have lt := (List.getElem?_eq_some_iff.mp ha).1
    show ObR Z m H' (m a) o
    rw [← e.eq a lt]
    -- the description by m' is the one by m
    have back : ∀ {b : Addr} {u : Ob}, wfO h.length u → ObR Z m' H' b u → ObR Z m H' b u := fun {b u} wu ru => by
      cases u with
      | lst ys => have ru : H' b = _ := ru; rw [e.map wu] at ru; exact ru
      | tup ys => have ru : H' b = _ := ru; rw [e.map wu] at ru; exact ru
      | frl ys => have ru : Frl Z.K H' b _ := ru; rw [e.map wu] at ru; exact ru
      | dct ys => have ru : H' b = _ := ru; rw [e.map2 wu] at ru; exact ru
      | ins c ys => obtain ⟨dx, ru⟩ := ru; rw [e.map2 wu] at ru; exact ⟨dx, ru⟩
      | exc c w => obtain ⟨oe, d, h1, h2, h3, h4⟩ := ru; rw [e.tv wu] at h4; exact ⟨oe, d, h1, h2, h3, h4⟩
      | dead => trivial
    exact back (R.wf a o ha) r
theorem drop_at {α : Type} {xs : List α} {i : Nat} {x : α} {r : List α} (h : xs.drop i = x :: r) : i < xs.length ∧ xs[i]? = some x ∧ xs.drop (i + 1) = r := by
  have hl : i < xs.length := by
    by_cases z : i < xs.length
    · exact z
    · rw [List.drop_eq_nil_of_le (by omega)] at h; cases h
  rw [List.drop_eq_getElem_cons hl] at h
  cases h
  exact ⟨hl, List.getElem?_eq_getElem hl, rfl⟩
theorem drop_nil {α : Type} {xs : List α} {i : Nat} (h : xs.drop i = []) : xs.length ≤ i := List.drop_eq_nil_iff.mp h
theorem wipe1 (σ : L2.St) (x : Nat) : wipe σ [x] = σ.set x none := rfl
theorem compL_stays {g : Option (Nat × Ob)} {D : Nat} {t : W → Hq → M Bool} {el : W → Hq → M W} {xs : List W} {h hf : Hq} (e : compL g D t el xs h = some hf) : stays g h = true := by
  cases xs with
  | nil => unfold compL at e; split at e; assumption; cases e
  | cons x xs => unfold compL at e; split at e; assumption; cases e
theorem w_comp {x : Nat} {s : Src} {c : Op} {el : E} {Q : VK} (t : TEv Z Wx (evE Γ k (.comp x s c el)) σ H Q) : tLc (TIv Z Wx (evS Γ k s)) (gName x) (TTv Z wN (evC Γ k c)) (TEv Z wN (evE Γ k el)) [x] σ H Q := by
  obtain ⟨m, ρ, h, rfl, wρ, RH, t⟩ := t
  unfold evE at t
  refine TIv.bnd (f := fun (w : Wk) ρ h => (match compL w.1 h.length (fun v h => evC Γ k c (ρ.set x (some v)) h) (fun v h => evE Γ k el (ρ.set x (some v)) h) w.2 (h ++ [.lst []]) with
      | some h' => ret (.ref h.length) h'
      | none => (none : M W))) wρ RH t fun m1 H1 w h1 e1 R1 wk w1 ee t1 => ?_
  intro D hD
  obtain ⟨g, xs⟩ := w
  dsimp only at t1 ⊢
  cases hc : compL g h1.length (fun v h => evC Γ k c (ρ.set x (some v)) h) (fun v h => evE Γ k el (ρ.set x (some v)) h) xs (h1 ++ [.lst []]) with
  | none => rw [hc] at t1; exact t1.none'
  | some hf =>
    rw [hc] at t1
    obtain ⟨m2, E2, eD, R2⟩ := R1.push (H' := upd H1 D (.lst [])) (o := .lst []) hD (fun b hb => upd_ne hb) (fun m' _ _ => upd_same) (fun _ z => nomatch z)
    have llt : h1.length < (h1 ++ [Ob.lst []]).length := by rw [List.length_append]; exact Nat.lt_succ_self _
    refine ⟨fun i n H => ∃ m' h', Ext m2 m' (h1 ++ [.lst []]) h' ∧ RelH Z m' h' H ∧ i + n = xs.length ∧ compL g h1.length (fun v h => evC Γ k c (ρ.set x (some v)) h) (fun v h => evE Γ k el (ρ.set x (some v)) h) (xs.drop i) h' = some hf,
      ⟨xs.length, m2, _, .refl, R2, Nat.zero_add _, hc⟩, ?_⟩
    rintro i n H3 ⟨m', h', E', R', hn, hc'⟩
    have EE : Ext m1 m' h1 h' := E2.trans E'
    have hst0 := compL_stays hc'
    have st := stay_of wk R1 EE R' hst0
    have eD' : m' h1.length = D := (E'.eq _ llt).trans eD
    cases hd : xs.drop i with
    | nil =>
      rw [hd] at hc'
      unfold compL at hc'
      rw [if_pos hst0] at hc'
      cases hc'
      refine .inl ⟨⟨drop_nil hd, st⟩, ?_⟩
      have q := t1 m' H3 EE R' (Nat.lt_of_lt_of_le llt E'.le)
      have q : Q (.ref (m' h1.length)) H3 := q
      rw [eD'] at q
      exact q
    | cons v rest =>
      obtain ⟨hi, hv, hr⟩ := drop_at hd
      rw [hd] at hc'
      unfold compL at hc'
      rw [if_pos hst0] at hc'
      · refine .inr ⟨⟨hi, st⟩, fun H => ∃ m' h', Ext m2 m' (h1 ++ [.lst []]) h' ∧ RelH Z m' h' H ∧ compL g h1.length (fun v h => evC Γ k c (ρ.set x (some v)) h) (fun v h => evE Γ k el (ρ.set x (some v)) h) (xs.drop (i + 1)) h' = some hf, fun H' ⟨ma, ha, ea, ra, ca⟩ => ⟨n - 1, by omega, ma, ha, ea, ra, by omega, ca⟩, fun xv H' hy => ?_⟩
        obtain ⟨rfl, v', hv', rfl⟩ := hy
        rw [hv] at hv'
        cases hv'
        have wv : wfW h1.length v := wk.1 v (List.mem_of_getElem? hv)
        have wρ' : wfE h'.length (ρ.set x (some v)) := (w1.mono EE.le).set (wv.mono EE.le)
        have eσ : (wipe (envV Z.cl m1 ρ) [x]).set x (some (tv Z.cl m1 v)) = envV Z.cl m' (ρ.set x (some v)) := by
          rw [wipe1, List.set_set, envV_set, EE.env w1, EE.tv wv]
        show wipe ((wipe _ [x]).set x _) [x] = wipe _ [x] ∧ _
        rw [← ee]
        refine ⟨by rw [wipe1, wipe1, List.set_set, List.set_set], ?_⟩
        rw [eσ]
        refine ⟨m', _, h', rfl, wρ', R', ?_⟩
        cases ht : evC Γ k c (ρ.set x (some v)) h' with
        | none => rw [ht] at hc'; cases hc'
        | some r =>
          obtain ⟨r, ha⟩ := r
          rw [ht] at hc'
          cases r with
          | exc c w => cases hc'
          | ok b =>
            intro m3 H4 e3 R3
            cases b with
            | false =>
              rw [if_neg Bool.false_ne_true]
              exact ⟨m3, ha, E'.trans e3, R3, by rw [hr]; exact hc'⟩
            | true =>
              rw [if_pos rfl]
              dsimp only at hc'
              have eσ2 : envV Z.cl m' (ρ.set x (some v)) = envV Z.cl m3 (ρ.set x (some v)) := (e3.env wρ').symm
              rw [eσ2]
              refine ⟨m3, _, ha, rfl, wρ'.mono e3.le, R3, ?_⟩
              cases hel : evE Γ k el (ρ.set x (some v)) ha with
              | none => rw [hel] at hc'; cases hc'
              | some r =>
                obtain ⟨r, hb⟩ := r
                rw [hel] at hc'
                cases r with
                | exc c w => cases hc'
                | ok y =>
                  intro m4 H5 e4 R4 wy
                  dsimp only at hc'
                  cases hD' : hb[h1.length]? with
                  | none => rw [hD'] at hc'; cases hc'
                  | some o =>
                    rw [hD'] at hc'
                    cases o with
                    | lst acc =>
                      dsimp only at hc'
                      split at hc'
                      · rename_i hz
                        have E4 : Ext m2 m4 (h1 ++ [.lst []]) hb := (E'.trans e3).trans e4
                        have eD4 : m4 h1.length = D := (E4.eq _ llt).trans eD
                        have rD : H5 D = some (.lst (acc.map (tv Z.cl m4))) := by
                          have z : H5 (m4 h1.length) = some (.lst (acc.map (tv Z.cl m4))) := R4.ob _ _ hD'
                          rw [eD4] at z
                          exact z
                        refine ⟨_, rD, by rw [List.length_map, ← line_eq]; exact hz, m4, hb.set h1.length (.lst (acc ++ [y])), ⟨by rw [List.length_set]; exact E4.le, E4.eq⟩, ?_, by rw [hr]; exact hc'⟩
                        refine R4.write hD' rfl (fun b hb => upd_ne (by rw [← eD4]; exact hb)) ?_ fun w hw => ?_
                        · show _ = _
                          rw [eD4, upd_same, List.map_append]; rfl
                        · rcases List.mem_append.mp hw with z | z
                          · exact R4.wf _ _ hD' w z
                          · rw [List.mem_singleton.mp z]; exact wy
                      · cases hc'
                    | _ => cases hc'
end
end Mp
set_option Elab.async false
set_option linter.all false
set_option maxRecDepth 100000
set_option maxHeartbeats 400000
/-! Mp I: statements. -/
namespace Mp
open PySem PySem.Spec PyProof.Rows L2
section
variable {Z : St0} {Wx : WX} {Γ : Gam} {k : Calls} {σ : L2.St} {H : Hp}
/-! ### statements -/
theorem RSs.none' {m : Plc} {h : Hq} {D : Ends} {P : Prop} (a : RSs Z Wx m h none D) : P := False.elim a
theorem w_asg {r : Env → Hq → M W} {i : Nat} {D : Ends} (t : TSv Z Wx (fun ρ h => lft (r ρ h) ρ fun v h => some (.nx (ρ.set i (some v)), h)) D σ H) : tAsg (TEv Z Wx r) (gName i) D σ H := by
  obtain ⟨m, ρ, h, rfl, wρ, R, t⟩ := t
  refine ⟨m, ρ, h, rfl, wρ, R, (t.lft wρ).mono fun m1 H1 v h1 e1 R1 q wv => ?_⟩
  have q := q m1 H1 .refl R1 ((wρ.mono e1.le).set wv)
  rw [envV_set, e1.env wρ] at q
  exact q
theorem w_exp {e : E} {wf : Nat} {D : Ends} (t : TSv Z Wx (exS Γ wf k (.exp e)) D σ H) : tDrop (TEv Z Wx (evE Γ k e)) D σ H := by
  obtain ⟨m, ρ, h, rfl, wρ, R, t⟩ := t
  unfold exS at t
  refine ⟨m, ρ, h, rfl, wρ, R, (t.lft wρ).mono fun m1 H1 v h1 e1 R1 q wv => ?_⟩
  have q := q m1 H1 .refl R1 (wρ.mono e1.le)
  rw [e1.env wρ] at q
  exact q
theorem w_ret {e : E} {wf : Nat} {D : Ends} (t : TSv Z Wx (exS Γ wf k (.ret e)) D σ H) : tRet (TEv Z Wx (evE Γ k e)) D σ H := by
  obtain ⟨m, ρ, h, rfl, wρ, R, t⟩ := t
  unfold exS at t
  exact ⟨m, ρ, h, rfl, wρ, R, (t.lft wρ).mono fun m1 H1 v h1 e1 R1 q wv => q m1 H1 .refl R1 wv⟩
theorem w_ret0 {wf : Nat} {D : Ends} (t : TSv Z Wx (exS Γ wf k .ret0) D σ H) : tRetN D σ H := by
  obtain ⟨m, ρ, h, rfl, wρ, R, t⟩ := t
  unfold exS at t
  exact t m H .refl R trivial
theorem w_pas {wf : Nat} {D : Ends} (t : TSv Z Wx (exS Γ wf k .pas) D σ H) : tNext D σ H := by
  obtain ⟨m, ρ, h, rfl, wρ, R, t⟩ := t
  unfold exS at t
  exact t m H .refl R wρ
theorem w_brk {wf : Nat} {D : Ends} (t : TSv Z Wx (exS Γ wf k .brk) D σ H) : tBreak D σ H := by
  obtain ⟨m, ρ, h, rfl, wρ, R, t⟩ := t
  unfold exS at t
  exact t m H .refl R wρ
theorem w_cnt {wf : Nat} {D : Ends} (t : TSv Z Wx (exS Γ wf k .cnt) D σ H) : tCont D σ H := by
  obtain ⟨m, ρ, h, rfl, wρ, R, t⟩ := t
  unfold exS at t
  exact t m H .refl R wρ
theorem w_ssnil {wf : Nat} {D : Ends} (t : TSv Z Wx (exSs Γ wf k .nil) D σ H) : tNext D σ H := by
  obtain ⟨m, ρ, h, rfl, wρ, R, t⟩ := t
  unfold exSs at t
  exact t m H .refl R wρ
theorem w_sscons {s : S} {r : Ss} {wf : Nat} {D : Ends} (t : TSv Z Wx (exSs Γ wf k (.cons s r)) D σ H) : tSeq (TSv Z Wx (exS Γ wf k s)) (TSv Z Wx (exSs Γ wf k r)) D σ H := by
  obtain ⟨m, ρ, h, rfl, wρ, R, t⟩ := t
  unfold exSs at t
  exact ⟨m, ρ, h, rfl, wρ, R, t.sq⟩
theorem w_iteS {c : E} {a b : Ss} {wf : Nat} {D : Ends} (t : TSv Z Wx (exS Γ wf k (.ite c a b)) D σ H) : tIfS (TTv Z Wx (evT Γ k c)) (TSv Z Wx (exSs Γ wf k a)) (TSv Z Wx (exSs Γ wf k b)) D σ H := by
  obtain ⟨m, ρ, h, rfl, wρ, R, t⟩ := t
  unfold exS at t
  refine ⟨m, ρ, h, rfl, wρ, R, (t.lft wρ).mono fun m1 H1 v h1 e1 R1 q => ?_⟩
  cases v with
  | true => rw [if_pos rfl] at q ⊢; exact ⟨m1, ρ, h1, (e1.env wρ).symm, wρ.mono e1.le, R1, q⟩
  | false => rw [if_neg Bool.false_ne_true] at q ⊢; exact ⟨m1, ρ, h1, (e1.env wρ).symm, wρ.mono e1.le, R1, q⟩
def gNs : List Nat → TGs
  | [] => gNil
  | i :: is => gCons (gName i) (gNs is)
theorem setAll_ok {m : Plc} {Q : L2.St → Hp → Prop} {H : Hp} {n : Nat} : ∀ (is : List Nat) (xs : List W) (ρ ρ' : Env), setAll is xs ρ = some ρ' → (∀ w ∈ xs, wfW n w) → wfE n ρ → wfE n ρ' ∧ (Q (envV Z.cl m ρ') H → gNs is (xs.map (tv Z.cl m)) (envV Z.cl m ρ) H Q)
  | [], [], ρ, ρ', e, _, wρ => by
    cases e
    exact ⟨wρ, fun q => ⟨rfl, q⟩⟩
  | i :: is, x :: xs, ρ, ρ', e, wx, wρ => by
    obtain ⟨h1, h2⟩ := setAll_ok (m := m) (Q := Q) (H := H) is xs (ρ.set i (some x)) ρ' e (fun w hw => wx w (List.mem_cons_of_mem _ hw)) (wρ.set (wx x List.mem_cons_self))
    refine ⟨h1, fun q => ⟨_, _, rfl, ?_⟩⟩
    have z := h2 q
    rw [envV_set] at z
    exact z
  | [], _ :: _, _, _, e, _, _ => by cases e
  | _ :: _, [], _, _, e, _, _ => by cases e
theorem setAll_len : ∀ (is : List Nat) (xs : List W) (ρ ρ' : Env), setAll is xs ρ = some ρ' → xs.length = is.length
  | [], [], _, _, _ => rfl
  | i :: is, x :: xs, ρ, ρ', e => congrArg (· + 1) (setAll_len is xs _ _ e)
  | [], _ :: _, _, _, e => by cases e
  | _ :: _, [], _, _, e => by cases e
theorem tupOf_ok {m : Plc} {h : Hq} {w : W} {xs : List W} (R : RelH Z m h H) (e : tupOf h w = some xs) : ∃ a, w = .ref a ∧ SqT Z.K H (m a) (xs.map (tv Z.cl m)) ∧ ∀ v ∈ xs, wfW h.length v := by
  cases w with
  | ref a =>
    unfold tupOf at e
    dsimp only at e
    cases ha : h[a]? with
    | none => rw [ha] at e; cases e
    | some o =>
      rw [ha] at e
      have r := R.ob a o ha
      have wfo := R.wf a o ha
      cases o with
      | tup ys => cases e; exact ⟨a, rfl, .of r, wfo⟩
      | _ => cases e
  | _ => cases e
theorem w_unp {is : List Nat} {e : E} {wf : Nat} {D : Ends} (t : TSv Z Wx (exS Γ wf k (.unp is e)) D σ H) : tAsg (TEv Z Wx (evE Γ k e)) (gTup Z.K is.length (gNs is)) D σ H := by
  obtain ⟨m, ρ, h, rfl, wρ, R, t⟩ := t
  unfold exS at t
  refine ⟨m, ρ, h, rfl, wρ, R, (t.lft wρ).mono fun m1 H1 v h1 e1 R1 q wv => ?_⟩
  cases hx : tupOf h1 v with
  | none => rw [hx] at q; exact q.elim
  | some xs =>
    rw [hx] at q
    dsimp only at q
    cases hs : setAll is xs ρ with
    | none => rw [hs] at q; exact q.elim
    | some ρ' =>
      rw [hs] at q
      obtain ⟨a, rfl, sq, wx⟩ := tupOf_ok R1 hx
      obtain ⟨w', k'⟩ := setAll_ok (Z := Z) (m := m1) (Q := D.nx) (H := H1) is xs ρ ρ' hs wx (wρ.mono e1.le)
      refine ⟨m1 a, _, rfl, sq, by rw [List.length_map]; exact setAll_len _ _ _ _ hs, ?_⟩
      rw [← e1.env wρ]
      exact k' (q m1 H1 .refl R1 w')
theorem w_sto {o i e : E} {wf : Nat} {D : Ends} (t : TSv Z Wx (exS Γ wf k (.sto o i e)) D σ H) : tAsg (TEv Z Wx (evE Γ k e)) (gSub (TEv Z Wx (evE Γ k o)) (TEv Z Wx (evE Γ k i)) rSetL) D σ H := by
  obtain ⟨m, ρ, h, rfl, wρ, R, t⟩ := t
  unfold exS at t
  refine ⟨m, ρ, h, rfl, wρ, R, (t.lft wρ).mono fun m1 H1 v h1 e1 R1 q wv => ?_⟩
  have w1 := wρ.mono e1.le
  refine ⟨m1, ρ, h1, (e1.env wρ).symm, w1, R1, ?_⟩
  rw [← e1.env wρ]
  refine (q.lft w1).mono fun m2 H2 x h2 e2 R2 q2 wx => ?_
  have w2 := w1.mono e2.le
  refine ⟨m2, ρ, h2, (e2.env w1).symm, w2, R2, ?_⟩
  rw [← e2.env w1]
  refine (q2.lft w2).mono fun m3 H3 y h3 e3 R3 q3 wy => ?_
  have w3 := w2.mono e3.le
  cases hs : setV x y v h3 with
  | none => rw [hs] at q3; exact q3.elim
  | some h4 =>
    rw [hs] at q3
    rw [← e3.tv wx, ← (e2.trans e3).tv wv, ← e3.env w2]
    have len : h4.length = h3.length := by
      unfold setV at hs
      split at hs
      · split at hs
        · split at hs
          · cases hj : ixN _ _ with
            | none => rw [hj] at hs; cases hs
            | some j => rw [hj] at hs; cases hs; rw [List.length_set]
          · cases hs
        · cases hs
      · cases hs
    exact set_ok R3 (wv.mono (e2.trans e3).le) hs (fun H' R' => q3 m3 H' ⟨by rw [len]; exact Nat.le_refl _, fun _ _ => rfl⟩ R' (by rw [len]; exact w3)) fun _ => trivial
theorem w_aug {i : Nat} {o : BOp} {e : E} {wf : Nat} {D : Ends} (t : TSv Z Wx (exS Γ wf k (.aug i o e)) D σ H) : tAug i (TEv Z Wx (evE Γ k e)) (rAug o) D σ H := by
  obtain ⟨m, ρ, h, rfl, wρ, R, t⟩ := t
  unfold exS at t
  split at t
  · rename_i x hx
    refine ⟨_, envV_get hx, m, ρ, h, rfl, wρ, R, (t.lft wρ).mono fun m1 H1 y h1 e1 R1 q wy => ?_⟩
    have w1 := wρ.mono e1.le
    have wx := wρ.get hx
    rw [← e1.tv wx]
    refine op2Aug o m1 h1 H1 x y _ (fun c d H' => Wx c d (envV Z.cl m1 ρ) H') R1 (wx.mono e1.le) wy ((q.lft w1).mono fun m2 H2 z h2 e2 R2 q2 wz => ?_)
    have q2 := q2 m2 H2 .refl R2 ((w1.mono e2.le).set wz)
    rw [envV_set, (e1.trans e2).env wρ] at q2
    exact q2
  · exact t.none'
/-! ### loops -/
theorem w_whl {c : E} {b : Ss} {wf : Nat} {D : Ends} (t : TSv Z Wx (exS Γ wf k (.whl c b)) D σ H) : tWhile (TTv Z Wx (evT Γ k c)) (TSv Z Wx (exSs Γ wf k b)) D σ H := by
  obtain ⟨m, ρ, h, rfl, wρ, R, t⟩ := t
  unfold exS at t
  refine ⟨fun n σ H => ∃ m ρ h, σ = envV Z.cl m ρ ∧ wfE h.length ρ ∧ RelH Z m h H ∧ RSs Z Wx m h (whileL (fun ρ h => evT Γ k c ρ h) (fun ρ h => exSs Γ wf k b ρ h) n ρ h) D, ⟨wf, m, ρ, h, rfl, wρ, R, t⟩, ?_⟩
  rintro n σ H ⟨m, ρ, h, rfl, wρ, R, t⟩
  cases n with
  | zero => unfold whileL at t; exact t.none'
  | succ n =>
    unfold whileL at t
    refine ⟨m, ρ, h, rfl, wρ, R, ?_⟩
    cases hc : evT Γ k c ρ h with
    | none => rw [hc] at t; exact t.none'
    | some r =>
      obtain ⟨r, h1⟩ := r
      rw [hc] at t
      cases r with
      | exc c w =>
        intro m' H' d e R' wx hd
        have q := t m' H' d e R' wx (wρ.mono e.le) hd
        rw [e.env wρ] at q
        exact q
      | ok v =>
        intro m1 H1 e1 R1
        have w1 := wρ.mono e1.le
        cases v with
        | false =>
          dsimp only
          rw [if_neg Bool.false_ne_true]
          have q := t m1 H1 e1 R1 w1
          rw [e1.env wρ] at q
          exact q
        | true =>
          dsimp only
          rw [if_pos rfl]
          dsimp only at t
          refine ⟨fun σ H => ∃ m ρ h, σ = envV Z.cl m ρ ∧ wfE h.length ρ ∧ RelH Z m h H ∧ RSs Z Wx m h (whileL (fun ρ h => evT Γ k c ρ h) (fun ρ h => exSs Γ wf k b ρ h) n ρ h) D, fun σ' H' z => ⟨n, Nat.lt_succ_self n, z⟩, m1, ρ, h1, (e1.env wρ).symm, w1, R1, ?_⟩
          cases hb : exSs Γ wf k b ρ h1 with
          | none => rw [hb] at t; exact t.none'
          | some r =>
            obtain ⟨f, h2⟩ := r
            rw [hb] at t
            cases f with
            | nx ρ2 => exact fun m2 H2 e2 R2 w2 => ⟨m2, ρ2, h2, rfl, w2, R2, RSs.ext (show RSs Z Wx m h (whileL _ _ n ρ2 h2) D from t) (e1.trans e2)⟩
            | ct ρ2 => exact fun m2 H2 e2 R2 w2 => ⟨m2, ρ2, h2, rfl, w2, R2, RSs.ext (show RSs Z Wx m h (whileL _ _ n ρ2 h2) D from t) (e1.trans e2)⟩
            | brk ρ2 => exact fun m2 H2 e2 R2 w2 => t m2 H2 (e1.trans e2) R2 w2
            | ret v => exact fun m2 H2 e2 R2 w2 => t m2 H2 (e1.trans e2) R2 w2
            | exc c w ρ2 => exact fun m2 H2 d e2 R2 => t m2 H2 d (e1.trans e2) R2
theorem forL_stays {m : Plc} {h : Hq} {g : Option (Nat × Ob)} {i : Nat} {body : Env → Hq → RS} {xs : List W} {ρ : Env} {D : Ends} (t : RSs Z Wx m h (forL g i body xs ρ h) D) : stays g h = true := by
  cases xs with
  | nil => unfold forL at t; split at t; assumption; exact t.none'
  | cons x xs => unfold forL at t; split at t; assumption; exact t.none'
theorem w_for {v : Nat} {s : Src} {b : Ss} {wf : Nat} {D : Ends} (t : TSv Z Wx (exS Γ wf k (.for v s b)) D σ H) : tFor (TIv Z Wx (evS Γ k s)) (gName v) (TSv Z Wx (exSs Γ wf k b)) D σ H := by
  obtain ⟨m, ρ, h, rfl, wρ, R, t⟩ := t
  unfold exS at t
  refine ⟨m, ρ, h, rfl, wρ, R, (t.lft wρ).mono fun m1 H1 w h1 e1 R1 q wk => ?_⟩
  obtain ⟨g, xs⟩ := w
  have w1 := wρ.mono e1.le
  refine ⟨fun i n σ H => ∃ m' ρ' h', σ = envV Z.cl m' ρ' ∧ wfE h'.length ρ' ∧ RelH Z m' h' H ∧ Ext m1 m' h1 h' ∧ i + n = xs.length ∧ RSs Z Wx m' h' (forL g v (fun ρ h => exSs Γ wf k b ρ h) (xs.drop i) ρ' h') D,
    ⟨xs.length, m1, ρ, h1, (e1.env wρ).symm, w1, R1, .refl, Nat.zero_add _, q⟩, ?_⟩
  rintro i n σ H ⟨m', ρ', h', rfl, wρ', R', E', hn, q⟩
  have hst := forL_stays q
  have st := stay_of wk R1 E' R' hst
  cases hd : xs.drop i with
  | nil =>
    rw [hd] at q
    unfold forL at q
    rw [if_pos hst] at q
    exact .inl ⟨⟨drop_nil hd, st⟩, q m' H .refl R' wρ'⟩
  | cons x rest =>
    obtain ⟨hi, hv, hr⟩ := drop_at hd
    rw [hd] at q
    unfold forL at q
    rw [if_pos hst] at q
    refine .inr ⟨⟨hi, st⟩, fun σ H => ∃ m' ρ' h', σ = envV Z.cl m' ρ' ∧ wfE h'.length ρ' ∧ RelH Z m' h' H ∧ Ext m1 m' h1 h' ∧ RSs Z Wx m' h' (forL g v (fun ρ h => exSs Γ wf k b ρ h) (xs.drop (i + 1)) ρ' h') D,
      fun σ2 H2 ⟨ma, ρa, ha, a1, a2, a3, a4, a5⟩ => ⟨n - 1, by omega, ma, ρa, ha, a1, a2, a3, a4, by omega, a5⟩, fun xv H2 hy => ?_⟩
    obtain ⟨rfl, x', hx', rfl⟩ := hy
    rw [hv] at hx'
    cases hx'
    have wx : wfW h1.length x := wk.1 x (List.mem_of_getElem? hv)
    show TSv Z Wx (exSs Γ wf k b) _ ((envV Z.cl m' ρ').set v (some (tv Z.cl m1 x))) _
    rw [← E'.tv wx, ← envV_set]
    refine ⟨m', _, h', rfl, wρ'.set (wx.mono E'.le), R', ?_⟩
    cases hb : exSs Γ wf k b (ρ'.set v (some x)) h' with
    | none => rw [hb] at q; exact q.none'
    | some r =>
      obtain ⟨f, h2⟩ := r
      rw [hb] at q
      cases f with
      | nx ρ2 => exact fun m2 H2 e2 R2 w2 => ⟨m2, ρ2, h2, rfl, w2, R2, E'.trans e2, by rw [hr]; exact RSs.ext (show RSs Z Wx m' h' (forL _ _ _ rest ρ2 h2) D from q) e2⟩
      | ct ρ2 => exact fun m2 H2 e2 R2 w2 => ⟨m2, ρ2, h2, rfl, w2, R2, E'.trans e2, by rw [hr]; exact RSs.ext (show RSs Z Wx m' h' (forL _ _ _ rest ρ2 h2) D from q) e2⟩
      | brk ρ2 => exact fun m2 H2 e2 R2 w2 => q m2 H2 e2 R2 w2
      | ret v => exact fun m2 H2 e2 R2 w2 => q m2 H2 e2 R2 w2
      | exc c w ρ2 => exact fun m2 H2 d e2 R2 => q m2 H2 d e2 R2
end
end Mp
set_option Elab.async false
set_option linter.all false
set_option maxRecDepth 100000
set_option maxHeartbeats 1000000
/-! Mp J: exceptions: raised, caught, their what; defs called where one is handled. -/
namespace Mp
open PySem PySem.Spec PyProof.Rows L2
/-! ### raise C(e) -/
/-- what C's __init__ (it stores what) promises -/
def spInit (K : PySem.W.Frag) : Sp := fun vs H Q _ => ∃ (a C : Addr) (y : V), vs = [.ref a, y] ∧ OexC K C ∧ PySem.W.findIn K (.ref C) wht = some none ∧ H a = some (exo a C none) ∧
  ∀ dx, H dx = none → dx ≠ a → Q .non (upd (upd H dx (exd dx [(wht, y)])) a (exo a C (some dx)))
/-- an exception class of the program -/
structure ExK (P : Program) (w : World) (K : PySem.W.Frag) (mg : Str → Option Value) (base : Heap) (x : Str) (C : Addr) : Prop where
  g : mg x = some (.ref C)
  oex : OexC K C
  no : PySem.W.findIn K (.ref C) wht = some none
  ini : ∃ fI fd, PySem.W.findIn K (.ref C) "__init__" = some (some (.ref fI)) ∧ PySem.W.typeIn K (.ref fI) = some (.type "function") ∧ Binds K fd ["self", "what"] [] ∧ FnOk P w K mg base CX0 1 fI fd ["self", "what"] (spInit K)
theorem del_end {H : Hp} {a d C : Addr} {y : V} (ha : H a = none) (hd : d ≠ a) : upd (del (upd (upd (upd H a (exo a C none)) d (exd d [(wht, y)])) a (exo a C (some d))) a) d (.xd [(wht, y)]) = upd H d (.xd [(wht, y)]) := by
  funext b
  by_cases hb : b = d
  · rw [hb, upd_same, upd_same]
  · rw [upd_ne hb, upd_ne hb]
    by_cases hba : b = a
    · rw [hba, del_same, ha]
    · rw [del_ne hba, upd_ne hba, upd_ne hb, upd_ne hba]
theorem mk_endN {X : Cx} {pins : List (Addr × Obj)} {σ : L2.St} {H1 H2 : Hp} {Q : XK} {hp hp2 h2 : Heap} {g1 g2 : Array GenState} {d1 d2 : Drawn} {t1 t2 : Nat} {os1 os2 : OsState} {a C d : Addr} {fs : List (Str × V)} (T : Raises X (.ref C)) (I1 : Inv X pins σ H1 ⟨hp, g1, d1, t1, os1⟩)
    (ha : hp.objs.size ≤ a) (k : ∀ b o, hp.get? b = some o → hp2.get? b = some o) (un : Un (frs X.stack) [] (upd H1 a (exo a C none)) H2 hp2 h2) (hok : HOk X.prog X.w H2 h2) (ho : os2 = os1) (hb : AllBare g2)
    (ea : H2 a = some (exo a C (some d))) (ed : H2 d = some (exd d fs)) (hd1 : H1 d = none) (q : Q (.ref C) (some d) (upd (del H2 a) d (.xd fs))) : L2N.MkP X pins σ Q (Value.ref a) (⟨h2, g2, d2, t2, os2⟩ : Shared) := by
  obtain ⟨t0, G, J, kG, ge, hoe, na⟩ := mk_end0 (d2 := d2) (t2 := t2) I1 ha k un hok ho hb ea ed hd1
  exact ⟨a, _, _, ⟨G, g2, d2, t2, os2⟩, _, .ref C, some d, rfl, J, kG, ge, hoe, ⟨rfl, rfl, fun vs e => by cases e; rfl⟩, rfl, rfl, na, rfl, hb, T, q⟩
theorem pmkN {X : Cx} {CX : CXT} {x : Str} {C fI : Addr} {k : Nat} {fd : FuncData} {ps : List Str} {sp : Sp} {e : Expr} {es : List Expr} {ta : TA} {p pos : Pos} (T : OexC X.K C) (iC : PySem.W.findIn X.K (.ref C) "__init__" = some (some (.ref fI))) (tI : PySem.W.typeIn X.K (.ref fI) = some (.type "function"))
    (F1 : FnOk X.prog X.w X.K X.mg X.base CX k fI fd ps sp) (hr : Room (k + 1) X.A) (hb : Binds X.K fd ps []) (hx : Passes CX X (fun _ _ _ => False)) (hg : Gl X x) (hm : X.mg x = some (.ref C)) (ha : PA X (e :: es) ta)
    (hdb : (x == ("__debug__" : Str)) = false) (he : starEach (e :: es) X.env = (false, eval e X.env) :: starEach es X.env) (hpl : (backTo pos (starEach es X.env)).any (·.1) = false) :
    L2N.PMk X (.Call (.Name x p) (e :: es) [] pos) (tMkO C sp [] ta) := by
  intro pins s σ H Q I h
  obtain ⟨nm, q, N, bs, bm, sn, sub, ab, col, dd, k0, k1, k2, k3, k5, hC, hbm⟩ := T.cls
  refine wpAny_Call_Name_kw (ld_glob I hg hm ?_ hdb)
  refine PySem.W.callWith_K (h₀ := X.base) I.ok.mod.kin T.kC (thn (ha.run pos pins s σ H _ I h) fun us s1 ⟨vs, H1, I1, r1, hz, q1⟩ => ⟨I1.kIn, ?_⟩) he hpl
  show wpAny _ _ (PySem.call (.ref C) us) _ _ _
  obtain ⟨hp, g, dr, tk, os⟩ := s1
  have hsz : hp.objs.size ≤ hp.objs.size + 1 := Nat.le_succ _
  have hn : H1 (hp.objs.size + 1) = none := I1.hok.fresh hsz
  have hq := q1 (hp.objs.size + 1) hn
  have kk : ∀ b o, hp.get? b = some o → ((hp.push (PySem.W.kdv_tup us)).push (PySem.HandSPX.excO C hp.objs.size)).get? b = some o := fun b o e => Heap.get?_push_of_some _ (Heap.get?_push_of_some _ e)
  have hget : ((hp.push (PySem.W.kdv_tup us)).push (PySem.HandSPX.excO C hp.objs.size)).get? (hp.objs.size + 1) = some (PySem.HandSPX.excO C hp.objs.size) := by heap_get
  have I2 : Inv X pins σ (upd H1 (hp.objs.size + 1) (exo (hp.objs.size + 1) C none)) ⟨(hp.push (PySem.W.kdv_tup us)).push (PySem.HandSPX.excO C hp.objs.size), g, dr, tk, os⟩ :=
    I1.laid (t' := tk) (a := hp.objs.size + 1) (o := exo (hp.objs.size + 1) C none) (h' := (hp.push (PySem.W.kdv_tup us)).push (PySem.HandSPX.excO C hp.objs.size)) kk hsz (exo_ok hget)
  have r2 : Vals (V.ref (hp.objs.size + 1) :: (vs ++ [])) (Value.ref (hp.objs.size + 1) :: (us ++ [])) := .cons rfl (r1.append .nil)
  have hl : (Value.ref (hp.objs.size + 1) :: us ++ []).length = ps.length := by
    have e := r2.length
    rw [F1.len _ _ _ _ hq] at e
    exact e.symm
  have hus : us.length ≤ sizeLine := by
    rw [← Paired.length r1, sizeLine_eq]
    omega
  refine wpAny_call (PySem.HandSPX.call_own F.excBase_ValueError (fun Y => PySem.HandSPX.refsVE_contains Y bm hbm) (I1.kIn _ _ hC) (PySem.W.looks_findIn I1.kIn iC) (fun self => PySem.W.bind_fn I1.kIn self tI) hus
    (codeAny_mono (F1.run _ X.stack _ _ ⟨Value.ref (hp.objs.size + 1) :: us, []⟩ (Value.ref (hp.objs.size + 1) :: (us ++ [])) _ _ (fun _ _ _ => False) (hr.make C us []) (I2.env0.make C us []) (by have q := hb _ (Value.ref (hp.objs.size + 1) :: us) I2.kIn hl; rw [List.cons_append] at q; exact q) r2 hq) fun r s' hq' => ?_))
  cases r with
  | error er => exact hx pins σ _ _ er s' I2 hq'
  | ok fl =>
    cases fl with
    | ret u =>
      obtain ⟨v, H2, os2, bare2, un2, hok2, rv, ev, d, fs, ea, ed, hd1, q2⟩ := hq'
      subst ev
      obtain ⟨h2, g2, d2, t2, os'⟩ := s'
      exact ⟨rv, mk_endN (raises_own T.exC T.tyC) I1 hsz kk un2 hok2 os2 bare2 ea ed hd1 q2⟩
    | next => exact False.elim hq'
    | brk => exact False.elim hq'
    | cont => exact False.elim hq'
theorem ps_rse {X : Cx} {Wx : WX} {x : Str} {C : Addr} {e : Expr} {te : TE} {p pos pos2 : Pos} (E : ExK X.prog X.w X.K X.mg X.base x C) (hc : X.calm = true) (hr : Room 2 X.A) (tk : L2N.Takes X Wx) (hg : Gl X x) (he : PE X e te)
    (hdb : (x == ("__debug__" : Str)) = false) (hs : starEach [e] X.env = [(false, eval e X.env)]) : PS X (.Raise (some (.Call (.Name x p) [e] [] pos)) none pos2) (fun _ σ H => tMkO C (spInit X.K) [] (tCons te tNil) σ H fun cls d H' => Wx cls d σ H') := by
  obtain ⟨fI, fd, h1, h2, h3, h4⟩ := E.ini
  exact L2N.ps_raise (pos := pos2) hc tk (pmkN (p := p) (pos := pos) E.oex h1 h2 h4 hr h3 (fun _ _ _ _ _ _ _ z => z.elim) hg E.g (pa_cons he pa_nil hs) hdb hs rfl)
section
variable {Z : St0} {Wx : WX} {Γ : Gam} {k : Calls} {σ : L2.St} {H : Hp}
theorem w_rse {P : Program} {w : World} {mg : Str → Option Value} {base : Heap} {x : Str} {c : Nat} {e : E} {wf : Nat} {D : Ends} (E : ExK P w Z.K mg base x (Z.cl c)) (t : TSv Z Wx (exS Γ wf k (.rse c e)) D σ H) :
    tMkO (Z.cl c) (spInit Z.K) [] (tCons (TEv Z Wx (evE Γ k e)) tNil) σ H fun cls d H' => Wx cls d σ H' := by
  obtain ⟨m, ρ, h, rfl, wρ, R, t⟩ := t
  unfold exS at t
  refine ⟨m, ρ, h, rfl, wρ, R, (t.lft wρ).mono fun m1 H1 v h1 e1 R1 q wv => ?_⟩
  refine ⟨Nat.le_of_ble_eq_true rfl, fun a ha => ⟨a, Z.cl c, _, rfl, E.oex, E.no, upd_same, fun dx hdx ne => ⟨rfl, dx, [(wht, tv Z.cl m1 v)], upd_same, by rw [upd_ne ne, upd_same], ?_, ?_⟩⟩⟩
  · rw [upd_ne ne] at hdx; exact hdx
  · rw [del_end ha ne]
    have hd : H1 dx = none := by rw [upd_ne ne] at hdx; exact hdx
    have q := q m1 (upd H1 dx (.xd [(wht, tv Z.cl m1 v)])) dx .refl (R1.same fun b u hb => by rw [upd_ne (fun z => by rw [z, hd] at hb; cases hb)]; exact hb) wv (wρ.mono e1.le) upd_same
    rw [e1.env wρ] at q
    exact q
/-! ### try .. except C as e -/
theorem ObR.px {Z Z' : St0} {m : Plc} {H : Hp} {a : Addr} (hc : Z'.cl = Z.cl) (hK : Z'.K = Z.K) : ∀ {o : Ob}, (∀ c w, o ≠ .exc c w) → ObR Z m H a o → ObR Z' m H a o
  | .lst _, _, r => by show _ = _; rw [hc]; exact r
  | .tup _, _, r => by show _ = _; rw [hc]; exact r
  | .frl _, _, r => by show Frl _ _ _ _; rw [hc, hK]; exact r
  | .dct _, _, r => by show _ = _; rw [hc]; exact r
  | .ins _ _, _, r => by obtain ⟨dx, r⟩ := r; exact ⟨dx, by rw [hc]; exact r⟩
  | .exc c w, n, _ => absurd rfl (n c w)
  | .dead, _, _ => trivial
theorem RelH.hot {m : Plc} {h : Hq} {H : Hp} (hz : Z.px = none) (R : RelH Z m h H) (p : Addr × Obj) : RelH { Z with px := some p } m h H :=
  ⟨fun i o e => ObR.px (Z := Z) (Z' := { Z with px := some p }) rfl rfl (fun c w z => (by
    subst z
    obtain ⟨oe, d, h1, _⟩ := R.ob i _ e
    rw [hz] at h1
    cases h1)) (R.ob i o e), R.inj, R.wf⟩
theorem killX_mut {o : Ob} : isMut (killX o) = isMut o := by cases o <;> rfl
theorem wfO_kill {n : Nat} {o : Ob} (h : wfO n o) : wfO n (killX o) := by cases o <;> first | exact h | trivial
theorem RelH.calm {m : Plc} {h : Hq} {H : Hp} {p : Addr × Obj} (R : RelH { Z with px := some p } m h H) : RelH Z m (h.map killX) H := by
  have get : ∀ (i : Nat) (o : Ob), (h.map killX)[i]? = some o → ∃ u, h[i]? = some u ∧ o = killX u := fun i o e => by
    rw [List.getElem?_map] at e
    cases hu : h[i]? with
    | none => rw [hu] at e; cases e
    | some u => rw [hu] at e; exact ⟨u, rfl, (Option.some.inj e).symm⟩
  refine ⟨fun i o e => ?_, fun i j o u e1 e2 h1 h2 he => ?_, fun i o e => ?_⟩
  · obtain ⟨u, hu, rfl⟩ := get i o e
    have r := R.ob i u hu
    cases u with
    | exc c w => trivial
    | lst xs => exact r.px rfl rfl fun _ _ z => nomatch z
    | tup xs => exact r.px rfl rfl fun _ _ z => nomatch z
    | frl xs => exact r.px rfl rfl fun _ _ z => nomatch z
    | dct xs => exact r.px rfl rfl fun _ _ z => nomatch z
    | ins c xs => exact r.px rfl rfl fun _ _ z => nomatch z
    | dead => trivial
  · obtain ⟨o', e1', rfl⟩ := get i o e1
    obtain ⟨u', e2', rfl⟩ := get j u e2
    rw [killX_mut] at h1 h2
    exact R.inj i j o' u' e1' e2' h1 h2 he
  · obtain ⟨u, hu, rfl⟩ := get i o e
    rw [List.length_map]
    exact wfO_kill (R.wf i u hu)
def tsX (Z : St0) (Γ : Gam) (wf : Nat) (k : Calls) (hb : Ss) : Addr → Value → Option Addr → TS := fun a cls d D σ H => ∀ oe, L2N.Zn cls d oe → (∃ vs, oe.data = .fields vs) → TSv { Z with px := some (a, oe) } wN (exSs Γ wf k hb) D σ H
theorem w_try {b hb : Ss} {c i : Nat} {wf : Nat} {D : Ends} (hz : Z.px = none) (exm : ∀ c', Γ.hc c' = true → Γ.exc c' = true → PySem.W.exmOne Z.K (.ref (Z.cl c')) (.ref (Z.cl c)) = some (Γ.sub c' c))
    (t : TSv Z Wx (exS Γ wf k (.try b c i hb)) D σ H) : TSv Z (wAs Z.K (.ref (Z.cl c)) i (tsX Z Γ wf k hb) Wx D) (exSs Γ wf k b) D σ H := by
  obtain ⟨m, ρ, h, rfl, wρ, R, t⟩ := t
  unfold exS at t
  refine ⟨m, ρ, h, rfl, wρ, R, ?_⟩
  cases hr : exSs Γ wf k b ρ h with
  | none => rw [hr] at t; exact t
  | some r =>
    obtain ⟨f, h1⟩ := r
    rw [hr] at t
    cases f with
    | nx ρ1 => exact t
    | ret v => exact t
    | brk ρ1 => exact t
    | ct ρ1 => exact t
    | exc c' w ρ1 =>
      dsimp only at t
      split at t
      · rename_i hg
        obtain ⟨g1, g2⟩ := Bool.and_eq_true_iff.mp hg
        intro m' H' d e R' wx w1 hd
        refine ⟨Γ.sub c' c, exm c' g1 g2, fun hs a ha oe zn hf => ?_, fun hs => ?_⟩
        · rw [if_pos hs] at t
          obtain ⟨m2, E2, ea, R2⟩ := (R'.hot hz (a, oe)).push (H' := H') (o := .exc c' w) ha (fun b hb => rfl) (fun m'' e'' _ => ⟨oe, d, rfl, zn.1, zn.2.1, by rw [e''.tv wx]; exact hd⟩) (wx.mono (Nat.le_succ _))
          have llt : h1.length < (h1 ++ [Ob.exc c' w]).length := by rw [List.length_append]; exact Nat.lt_succ_self _
          have eσ : (envV Z.cl m' ρ1).set i (some (.ref a)) = envV Z.cl m2 (ρ1.set i (some (.ref h1.length))) := by
            rw [envV_set, E2.env w1]
            show _ = (envV Z.cl m' ρ1).set i (some (.ref (m2 h1.length)))
            rw [ea]
          rw [eσ]
          refine ⟨m2, _, _, rfl, (w1.mono E2.le).set llt, R2, ?_⟩
          cases hh : exSs Γ wf k hb (ρ1.set i (some (.ref h1.length))) (h1 ++ [.exc c' w]) with
          | none => rw [hh] at t; exact t.none'
          | some r =>
            obtain ⟨f, h3⟩ := r
            rw [hh] at t
            cases f with
            | nx ρ3 =>
              intro m3 H3 e3 R3 w3
              have q := t m3 H3 ((e.trans E2).trans ⟨by rw [List.length_map]; exact e3.le, e3.eq⟩) R3.calm (by rw [List.length_map]; exact w3.setN)
              rw [envV_setN] at q
              exact q
            | ret v =>
              intro m3 H3 e3 R3 w3
              exact t m3 H3 ((e.trans E2).trans ⟨by rw [List.length_map]; exact e3.le, e3.eq⟩) R3.calm (by rw [List.length_map]; exact w3)
            | brk ρ3 => exact t.none'
            | ct ρ3 => exact t.none'
            | exc c3 w3 ρ3 => exact t.none'
        · rw [if_neg (by rw [hs]; exact Bool.false_ne_true)] at t
          exact t m' H' d e R' wx w1 hd
      · exact t.none'
/-! ### e.what, e the handled exception -/
/-- what the class says, so that its instances' what is read rightly -/
structure ExcA (K : PySem.W.Frag) (C : Addr) : Prop where
  ga : PySem.W.findIn K (.ref C) "__getattribute__" = some (some (.builtin "BaseException.__getattribute__"))
  gg : PySem.W.findIn K (.ref C) "__getattr__" = some none
  no : PySem.W.findIn K (.ref C) wht = some none
  ex : PySem.W.subIn K (.ref C) (.type "BaseException") = some true
  hd : PySem.W.hasDictIn K C = true
def tWhat (Z : St0) (te : TE) : TE := fun σ H Q => te σ H fun x H1 => ∃ (a : Addr) (oe : Obj) (C d : Addr) (y : V), Z.px = some (a, oe) ∧ x = .ref a ∧ oe.cls = .ref C ∧ oe.dict = some d ∧ H1 d = some (.xd [(wht, y)]) ∧ ExcA Z.K C ∧ Q y H1
theorem pe_what {X : Cx} {e : Expr} {te : TE} {pos : Pos} (hK : X.K = Z.K) (px : PxOk X Z) (he : PE X e te) (hb : attributeBase e wht X.env (eval e X.env) = eval e X.env) : PE X (.Attribute e wht pos) (tWhat Z te) := by
  refine ⟨fun pins s σ H Q I h => ?_⟩
  refine attr_of hb (thn (he.run pins s σ H _ I h) fun u s1 hh => ?_)
  obtain ⟨x, H1, I1, rx, a, oe, C, d, y, hp, ex, ec, ed, ea, T, q⟩ := hh
  subst ex
  obtain rfl : u = Value.ref a := rx
  obtain ⟨hm, vs, hd⟩ := px a oe hp
  obtain ⟨hget, _⟩ := I1.pin (a, oe) (List.mem_append_left _ hm)
  have hx : ObjOk X.prog X.w H1 s1.heap d (.xd [(wht, y)]) := I1.hok d _ ea
  obtain ⟨mA, hns, hr⟩ := hx
  obtain ⟨od, ho, hl⟩ := lookIn_ns hns
  have l : List.lookup wht [(wht, y)] = some y := by simp [List.lookup]
  obtain ⟨u, hu, ru⟩ := RelO.some_of (v := y) (o := mA wht) (by rw [← l]; exact hr wht)
  have J : PySem.W.InstAt s1.heap a oe C (some od) := ⟨hget, ec, by unfold PySem.W.notCls; rw [hd] <;> rfl, by rw [ed]; exact ho⟩
  rw [← hK] at T
  exact HandSPX.exc_get I1.kIn J T.ga T.gg T.ex (PySem.W.findObj_own T.hd T.no rfl (by rw [hl, hu])) (handed_of ru) ⟨y, H1, I1.tok _, ru, q⟩
theorem w_what (F : ∀ c, Γ.hc c = true → Γ.exc c = true → ExcA Z.K (Z.cl c)) {f : Str} {o : E} {Q : VK} (t : TEv Z Wx (evE Γ k (.attr f o)) σ H Q) : tWhat Z (TEv Z Wx (evE Γ k o)) σ H Q := by
  obtain ⟨m, ρ, h, rfl, wρ, R, t⟩ := t
  unfold evE at t
  refine TEv.bnd (f := fun x _ h => attrV Γ f x h) wρ R t fun m1 H1 v h1 e1 R1 wv w1 ee t1 => ?_
  cases v with
  | ref a =>
    unfold attrV at t1
    dsimp only at t1
    split at t1
    · rename_i c w he
      split at t1
      · rename_i hg
        obtain ⟨g1, g2⟩ := Bool.and_eq_true_iff.mp hg
        obtain ⟨oe, d, h1, h2, h3, h4⟩ := R1.ob a _ he
        exact ⟨m1 a, oe, Z.cl c, d, tv Z.cl m1 w, h1, rfl, h2, h3, h4, F c g1 g2, t1.of_ret R1 (R1.wf a _ he)⟩
      · exact t1.none'
    · exact t1.none'
  | _ => exact t1.none'
end
end Mp
set_option Elab.async false
set_option linter.all false
set_option maxRecDepth 100000
set_option maxHeartbeats 1000000
/-! Mp K: defs that are called where an exception is handled: what they promise tells which one it is. -/
namespace Mp
open PySem PySem.Spec PyProof.Rows L2
/-- sp p: the promise where the handled exception is p -/
structure FnX (P : Program) (w : World) (K : PySem.W.Frag) (mg : Str → Option Value) (base : Heap) (CX : CXT) (k : Nat) (f : Addr) (fd : FuncData) (ps : List Str) (sp : Addr × Obj → Sp) : Prop where
  len : ∀ p vs H Q E, sp p vs H Q E → vs.length = ps.length
  go : ∀ (p : Addr × Obj) (A : Around) (fr : List PySem.Env) (s : Shared) (H : Hp) (args : Args) (us : List Value) (vs : List V) (Q : VK) (E : XK), L2H.Hot1 A p → L2H.RoomH k A → L2H.PinOk fr H s p → Env0 P w K mg base A fr s H → Vals vs us → BindsTo s fd args (ps.zip us) →
    sp p vs H Q E → codeAny (model P w) A (.call (.ref f) args) (CR CX fr P w H s Q E) s
theorem fnX_of {CX : CXT} {P : Program} {w : World} {K : PySem.W.Frag} {mg : Str → Option Value} {base : Heap} {k : Nat} {x qual : Str} {params : Arguments} {body : List Stmt} {scope : Scope} {dvs : List V} {kws : List (Str × V)} {f : Addr} {fd : FuncData} {N ps : List Str} {sp : Addr × Obj → Sp}
    (F : FunD K x qual params body scope dvs kws f fd) (S : FnScope N ps scope) (len : ∀ p vs H Q E, sp p vs H Q E → vs.length = ps.length)
    (hb : ∀ (p : Addr × Obj) (cdv : Value) (A : Around) (fr : List PySem.Env) (s : Shared) (H : Hp) (vs : List V) (Q : VK) (E : XK), L2H.Hot1 A p → L2H.RoomH k (A.deeper (envOfC qual scope s.heap.objs.size f cdv)) → sp p vs H Q E →
      ∃ t, PSs (L2H.cxH CX P w K mg base N qual scope f cdv A fr s H E p) body t ∧ t { nx := fun _ H' => Q .non H', rt := Q } (L2.start N vs) H) : FnX P w K mg base CX (k + 1) f fd ps sp := by
  refine ⟨len, fun p A fr s H args us vs Q E hot rm pin e0 rv bt q => ?_⟩
  obtain ⟨oc, od, dV, kV, doc, pm, an, cdv, ct, osl, rfl, lk, hcd, _, _⟩ := F.ex
  have kin : K.In s.heap := e0.mod.kin.keeps fun b o z => (e0.bs b o z).1
  have nolim : s.heap.NoLimit := e0.mod.nolimit.keeps fun b o z => (e0.bs b o z).1
  refine codeAny_call_function rm.depth (kin _ _ lk) rfl S.co S.gen rfl (PySem.W.codeRec_of kin hcd) (bt _ _ _ _ (wpAny_newFunctionEnv_cells S.kind (fun ⟨n, v⟩ hn => ?_) fun env he s1 x => ?_))
  · exact (S.par n (List.of_mem_zip hn).1).imp id fun c => ⟨c, PySem.W.cellsFrom_some _ _ _ (.inl c)⟩
  subst he
  obtain ⟨t, ht, qt⟩ := hb p cdv A fr s H vs Q E hot (rm.deeper _) q
  have I := L2H.inv_startH (CX := CX) (E := E) S pin e0 (len _ _ _ _ _ q) rv x
  refine ⟨nolim.keeps x.toInCall.keep, codeAny_func (wpAny_mono (ht.run [] s1 _ H _ I qt) (fun fl s2 hs => ?_) fun _ _ z => z)⟩
  match fl, hs with
  | .ret u, ⟨v, σ2, H2, J, ru, z⟩ => exact ⟨v, H2, J.os, J.bare, J.base, J.hok, ru, z⟩
  | .next, ⟨σ2, H2, J, z⟩ => exact ⟨.non, H2, J.os, J.bare, J.base, J.hok, rfl, z⟩
  | .brk, ⟨_, _, _, z⟩ => exact z.elim
  | .cont, ⟨_, _, _, z⟩ => exact z.elim
theorem pe_callX {X : Cx} {CX : CXT} {k : Nat} {f : Addr} {fd : FuncData} {ps : List Str} {sp : Addr × Obj → Sp} {E : L2.St → XK} {x : Str} {q pos : Pos} {e : Expr} {es : List Expr} {t : TA} {p : Addr × Obj}
    (F : FnX X.prog X.w X.K X.mg X.base CX k f fd ps sp) (rm : L2H.RoomH k X.A) (hot : L2H.Hot1 X.A p) (hp : p ∈ X.pn) (hg : Gl X x) (hm : X.mg x = some (.ref f)) (hk : PySem.W.keepIn X.K (.ref f) = true) (hb : Binds X.K fd ps []) (hx : ∀ σ, PassesAt CX X σ (E σ))
    (ha : PA X (e :: es) t) (hdb : (x == ("__debug__" : Str)) = false) (he : starEach (e :: es) X.env = (false, eval e X.env) :: starEach es X.env) (hpl : (backTo pos (starEach es X.env)).any (·.1) = false) :
    PE X (.Call (.Name x q) (e :: es) [] pos) (tCallS (sp p) E t) := by
  constructor
  intro pins s σ H Q I h
  refine wpAny_Call_Name_kw (ld_glob I hg hm (PySem.W.callWith_K (h₀ := X.base) I.ok.mod.kin hk (thn (ha.run pos pins s σ H _ I h) fun us s1 z => ?_) he hpl) hdb)
  obtain ⟨vs, H1, I1, rv, z⟩ := z
  refine ⟨I1.kIn, ?_⟩
  have hl : (us ++ []).length = ps.length := by rw [List.append_nil, ← rv.length]; exact F.len _ _ _ _ _ z
  have b := hb s1 us I1.kIn hl
  rw [List.append_nil] at b
  obtain ⟨g1, g2, g3, g4, g5⟩ := I1.pin p (List.mem_append_left _ hp)
  have pin : L2H.PinOk X.stack H1 s1 p := ⟨g1, g2, fun hm => (List.mem_cons.mp (I1.stkSub p.1 hm)).elim g3 g4, g5⟩
  refine wpAny_call (codeAny_mono (F.go p X.A X.stack s1 H1 ⟨us, []⟩ us vs Q (E σ) hot rm pin I1.env0 rv b z) fun r s' hq => ?_)
  match r, hq with
  | .error e, hq => exact hx σ pins H1 s1 e s' I1 hq
  | .ok (.ret u), hq => exact I1.after hq
  | .ok .next, hq => exact hq.elim
  | .ok .brk, hq => exact hq.elim
  | .ok .cont, hq => exact hq.elim
end Mp
set_option Elab.async false
set_option linter.all false
set_option maxRecDepth 100000
set_option maxHeartbeats 1000000
/-! Mp L: does the own text say what the program's text says? A check by a Bool, and what follows of it. -/
namespace Mp
open PySem PySem.Spec PyProof.Rows L2
/-- the names of the program: defs, classes, top values; the defs that are called where an exception is handled; the built-in names that stay free -/
structure Nm where
  fns : List (Nat × Str)
  cls : List (Nat × Str)
  gls : List (Nat × Str)
  fhot : List Nat
  free : List Str
/-- where we stand: slots' names, scope, the names whose cells are the frame's own, is an exception handled -/
structure Ck where
  N : List Str
  sc : Scope
  own : Str → Bool
  hot : Bool
def nd (x : Str) : Bool := !(x == ("__debug__" : Str)) && (!(x == ("__classdict__" : Str)) && decide (x ≠ ("__name__" : Str)))
def visB (sc : Scope) (x : Str) : Bool := match sc.names.lookup x with
  | some .local => true | some .cell => true | some .free => true | _ => false
def locB (c : Ck) (x : Str) : Bool := match c.sc.names.lookup x with
  | some .local => true | some .cell => c.own x | _ => false
def glB (c : Ck) (x : Str) : Bool := decide (c.sc.names.lookup x = some .globalImplicit) && nd x
/-- a name of a built-in, not shadowed -/
def frB (m : Nm) (c : Ck) (x : Str) : Bool := m.free.contains x && glB c x
def star0 : Expr → Bool
  | .Starred _ _ => false
  | _ => true
def base0 : Expr → Bool
  | .Call _ [] [] _ => false
  | _ => true
def comp0 : Expr → Bool
  | .ListComp _ _ _ _ => false | .SetComp _ _ _ _ => false | .DictComp _ _ _ _ _ => false
  | _ => true
def set0 : Expr → Bool
  | .Set _ _ _ => false
  | _ => true
def tup0 : Expr → Bool
  | .Tuple _ _ _ => false
  | _ => true
def slc0 : Expr → Bool
  | .Slice _ _ _ _ => false
  | _ => true
def cstB : W → Const → Bool
  | .non, .none => true
  | .bl b, .bool k => b == k
  | .int i, .int j => decide (i = j)
  | .str x, .str y => decide (x = y)
  | _, _ => false
def tyNames : List String := ["int", "str", "bool", "list", "tuple", "dict", "ValueError"]
/-- a comprehension's block, y its variable -/
def blkB (N : List Str) (sc scope : Scope) (y : Str) : Bool :=
  decide (scope.kind = .function) && (scope.names.all fun z => decide (scope.names.lookup z.1 = some z.2) &&
    ((match z.2 with | .free => (match sc.names.lookup z.1 with | some .cell => true | some .free => true | _ => false) | _ => true) &&
     (match z.2 with | .local => z.1 == y || !N.contains z.1 | .cell => z.1 == y || !N.contains z.1 | _ => true)))
def inC (c : Ck) (scope : Scope) : Ck := { c with sc := relS scope c.sc, own := fun x => scope.names.lookup x == some .cell }
mutual
def chkE (m : Nm) : E → Ck → Expr → Bool
  | .var i, c, ex => (match ex with
    | .Name x _ => decide (c.N[i]? = some x) && (visB c.sc x && nd x)
    | _ => false)
  | .cst w, _, ex => (match ex with
    | .Constant k _ _ => cstB w k
    | _ => false)
  | .glob g, c, ex => (match ex with
    | .Name x _ => decide (m.gls.lookup g = some x) && glB c x
    | _ => false)
  | .ty n, c, ex => (match ex with
    | .Name x _ => decide (x = Str.ofString n) && (tyNames.contains n && frB m c x)
    | _ => false)
  | .cls k, c, ex => (match ex with
    | .Name x _ => decide (m.cls.lookup k = some x) && glB c x
    | _ => false)
  | .bin o a b, c, ex => (match ex with
    | .BinOp a' op b' _ => decide (opOf o = op) && (chkE m a c a' && chkE m b c b')
    | _ => false)
  | .neg a, c, ex => (match ex with
    | .UnaryOp .USub a' _ => chkE m a c a'
    | _ => false)
  | .cmp o a b, c, ex => (match ex with
    | .Compare a' [op] [b'] _ => decide (copOf o = op) && (set0 b' && (chkE m a c a' && chkE m b c b'))
    | _ => false)
  | .isN s a, c, ex => (match ex with
    | .Compare a' [op] [.Constant .none _ _] _ => decide ((if s then CmpOp.Is else CmpOp.IsNot) = op) && chkE m a c a'
    | _ => false)
  | .chn o p a b d, c, ex => (match ex with
    | .Compare a' [op, op'] [b', d'] _ => decide (copOf o = op) && (decide (copOf p = op') && (set0 d' && (chkE m a c a' && (chkE m b c b' && chkE m d c d'))))
    | _ => false)
  | .not a, c, ex => (match ex with
    | .UnaryOp .Not a' _ => chkE m a c a'
    | _ => false)
  | .and a b, c, ex => (match ex with
    | .BoolOp .And (a' :: [b']) _ => chkE m a c a' && chkE m b c b'
    | .BoolOp .And (a' :: b' :: d' :: r) pos => chkE m a c a' && chkE m b c (.BoolOp .And (b' :: d' :: r) pos)
    | _ => false)
  | .or a b, c, ex => (match ex with
    | .BoolOp .Or (a' :: [b']) _ => chkE m a c a' && chkE m b c b'
    | .BoolOp .Or (a' :: b' :: d' :: r) pos => chkE m a c a' && chkE m b c (.BoolOp .Or (b' :: d' :: r) pos)
    | _ => false)
  | .ite t a b, c, ex => (match ex with
    | .IfExp t' a' b' _ => chkT m t c t' && (chkE m a c a' && chkE m b c b')
    | _ => false)
  | .call f es, c, ex => (match ex with
    | .Call (.Name x _) (e' :: es') [] _ => decide (m.fns.lookup f = some x) && (glB c x && ((!c.hot || m.fhot.contains f) && chkEs m es c (e' :: es')))
    | _ => false)
  | .fn b es, c, ex => (match ex with
    | .Call (.Name x _) (e' :: es') [] _ => decide (x = fnName b) && (frB m c x && ((!c.hot || fnHot b) && chkEs m es c (e' :: es')))
    | _ => false)
  | .mth mt o es, c, ex => (match ex with
    | .Call (.Attribute o' n apos) [] [] cpos => (match es with
      | .nil => decide (n = mName mt) && (base0 o' && ((apos.endLine == cpos.line) && chkE m o c o'))
      | _ => false)
    | .Call (.Attribute o' n apos) [e'] [] cpos => decide (n = mName mt) && (base0 o' && ((apos.endLine == cpos.line) && (chkE m o c o' && chkEs m es c [e'])))
    | _ => false)
  | .attr f o, c, ex => (match ex with
    | .Attribute o' f' _ => decide (f = wht) && (decide (f' = wht) && (base0 o' && chkE m o c o'))
    | _ => false)
  | .lrg a, c, ex => (match ex with
    | .Call (.Name x _) [.Call (.Name y _) [a'] [] _] [] _ => !c.hot && (decide (x = ("list" : Str)) && (decide (y = ("range" : Str)) && (frB m c x && (frB m c y && chkE m a c a'))))
    | _ => false)
  | .lrg2 _ _, _, _ => false
  | .ix a i, c, ex => (match ex with
    | .Subscript a' i' _ => slc0 i' && (chkE m a c a' && chkE m i c i')
    | _ => false)
  | .cut a lo hi, c, ex => (match ex with
    | .Subscript a' (.Slice lo' hi' none _) _ => chkE m a c a' && (chkO m lo c lo' && chkO m hi c hi')
    | _ => false)
  | .tup es, c, ex => (match ex with
    | .Tuple es' _ _ => chkEs m es c es'
    | _ => false)
  | .lst es, c, ex => (match ex with
    | .List es' _ => chkEs m es c es'
    | _ => false)
  | .comp x s t el, c, ex => (match ex with
    | .ListComp el' [⟨.Name y _, it, ifs, 0⟩] scope _ => decide (c.N[x]? = some y) && (blkB c.N c.sc scope y && (locB (inC c scope) y && (set0 it && (chkSrc m s c it && ((match t with
        | .no => ifs.isEmpty
        | .yes t' => (match ifs with
          | [i'] => chkT m t' (inC c scope) i'
          | _ => false)) && chkE m el (inC c scope) el')))))
    | _ => false)
def chkT (m : Nm) : E → Ck → Expr → Bool
  | .not a, c, ex => (match ex with
    | .UnaryOp .Not a' _ => chkT m a c a'
    | _ => false)
  | .and a b, c, ex => (match ex with
    | .BoolOp .And (a' :: [b']) _ => chkT m a c a' && chkT m b c b'
    | .BoolOp .And (a' :: b' :: d' :: r) pos => chkT m a c a' && chkT m b c (.BoolOp .And (b' :: d' :: r) pos)
    | _ => false)
  | .or a b, c, ex => (match ex with
    | .BoolOp .Or (a' :: [b']) _ => chkT m a c a' && chkT m b c b'
    | .BoolOp .Or (a' :: b' :: d' :: r) pos => chkT m a c a' && chkT m b c (.BoolOp .Or (b' :: d' :: r) pos)
    | _ => false)
  | .cmp o a b, c, ex => (match ex with
    | .Compare a' [op] [b'] _ => decide (copOf o = op) && (set0 b' && (chkE m a c a' && chkE m b c b'))
    | _ => false)
  | .isN s a, c, ex => (match ex with
    | .Compare a' [op] [.Constant .none _ _] _ => decide ((if s then CmpOp.Is else CmpOp.IsNot) = op) && chkE m a c a'
    | _ => false)
  | .chn o p a b d, c, ex => (match ex with
    | .Compare a' [op, op'] [b', d'] _ => decide (copOf o = op) && (decide (copOf p = op') && (set0 d' && (chkE m a c a' && (chkE m b c b' && chkE m d c d'))))
    | _ => false)
  | .var i, c, ex => (match ex with
    | .Name x _ => decide (c.N[i]? = some x) && (visB c.sc x && nd x)
    | _ => false)
  | .call f es, c, ex => (match ex with
    | .Call (.Name x _) (e' :: es') [] _ => decide (m.fns.lookup f = some x) && (glB c x && ((!c.hot || m.fhot.contains f) && chkEs m es c (e' :: es')))
    | _ => false)
  | .fn b es, c, ex => (match ex with
    | .Call (.Name x _) (e' :: es') [] _ => decide (x = fnName b) && (frB m c x && ((!c.hot || fnHot b) && chkEs m es c (e' :: es')))
    | _ => false)
  | .ix a i, c, ex => (match ex with
    | .Subscript a' i' _ => slc0 i' && (chkE m a c a' && chkE m i c i')
    | _ => false)
  | _, _, _ => false
def chkEs (m : Nm) : Es → Ck → List Expr → Bool
  | .nil, _, l => l.isEmpty
  | .cons e es, c, l => (match l with
    | e' :: es' => star0 e' && (chkE m e c e' && chkEs m es c es')
    | [] => false)
def chkO (m : Nm) : Op → Ck → Option Expr → Bool
  | .no, _, o => o.isNone
  | .yes e, c, o => (match o with
    | some e' => chkE m e c e'
    | none => false)
def chkSrc (m : Nm) : Src → Ck → Expr → Bool
  | .any e, c, ex => !c.hot && chkE m e c ex
  | .rng a, c, ex => (match ex with
    | .Call (.Name y _) [a'] [] _ => decide (y = ("range" : Str)) && (frB m c y && (star0 a' && chkE m a c a'))
    | _ => false)
  | .rng2 a b, c, ex => (match ex with
    | .Call (.Name y _) [a', b'] [] _ => decide (y = ("range" : Str)) && (frB m c y && (star0 a' && (star0 b' && (chkE m a c a' && chkE m b c b'))))
    | _ => false)
end
end Mp
set_option Elab.async false
set_option linter.all false
set_option maxRecDepth 100000
set_option maxHeartbeats 1000000
/-! Mp M: the check is sound, expressions. -/
namespace Mp
open PySem PySem.Spec PyProof.Rows L2
/-- what the layer below gives: the defs of level k, the names -/
structure Env1 (m : Nm) (Γ : Gam) (k : Calls) (lv : Nat) (P : Program) (w : World) (K : PySem.W.Frag) (mg : Str → Option Value) (base : Heap) (cl : Plc) : Prop where
  fn : ∀ (f : Nat) (x : Str), m.fns.lookup f = some x → ∃ (ar : Nat) (fa : Addr) (fd : FuncData) (ps : List Str), mg x = some (.ref fa) ∧ PySem.W.keepIn K (.ref fa) = true ∧ Binds K fd ps [] ∧ (∀ us h, us.length ≠ ar → k f us h = none) ∧
    FnOk P w K mg base (L2N.CX P w) lv fa fd ps (spE ⟨cl, K, none⟩ k ar f) ∧ (m.fhot.contains f = true → FnX P w K mg base (L2N.CX P w) lv fa fd ps fun p => spE ⟨cl, K, some p⟩ k ar f)
  gl : ∀ (g : Nat) (x : Str), m.gls.lookup g = some x → ∃ (v : W) (u : Value) (y : V), Γ.glob g = some v ∧ (∀ p, tv cl p v = y) ∧ (∀ n, wfW n v) ∧ mg x = some u ∧ RelV y u
  cls : ∀ (c : Nat) (x : Str), m.cls.lookup c = some x → mg x = some (.ref (cl c))
  free : ∀ x, m.free.contains x = true → mg x = none
  F : ∀ px, ClsF Γ ⟨cl, K, px⟩
  rse : ∀ (c : Nat) (x : Str), m.cls.lookup c = some x → Γ.hc c = true → Γ.exc c = true → ExK P w K mg base x (cl c)
  what : ∀ c, Γ.hc c = true → Γ.exc c = true → ExcA K (cl c)
  exm : ∀ c d, Γ.hc c = true → Γ.exc c = true → Γ.hc d = true → Γ.exc d = true → PySem.W.exmOne K (.ref (cl c)) (.ref (cl d)) = some (Γ.sub c d)
structure GoodE (m : Nm) (Γ : Gam) (k : Calls) (lv : Nat) (Z : St0) (Wx : WX) (X : Cx) (c : Ck) : Prop where
  hN : X.N = c.N
  nod : c.N.Nodup
  sc : X.env.scope = c.sc
  own : ∀ x, c.own x = true → X.fn x = true
  K : X.K = Z.K
  tk : L2N.Takes X Wx
  calm : c.hot = false → X.calm = true ∧ Room lv X.A ∧ Z.px = none
  hot : c.hot = true → L2H.RoomH lv X.A ∧ ∃ p, Z.px = some p ∧ L2H.Hot1 X.A p ∧ p ∈ X.pn ∧ ∃ vs, p.2.data = .fields vs
  env : Env1 m Γ k lv X.prog X.w X.K X.mg X.base Z.cl
section
variable {m : Nm} {Γ : Gam} {k : Calls} {lv : Nat} {Z : St0} {Wx : WX} {X : Cx} {c : Ck}
theorem nd_of {x : Str} (h : nd x = true) : (x == ("__debug__" : Str)) = false ∧ (x == ("__classdict__" : Str)) = false ∧ x ≠ ("__name__" : Str) := by
  unfold nd at h
  simp only [Bool.and_eq_true, Bool.not_eq_true', decide_eq_true_eq] at h
  exact ⟨h.1, h.2.1, h.2.2⟩
theorem vis_of {sc : Scope} {x : Str} (h : visB sc x = true) : Vis sc x := by
  unfold visB at h
  unfold Vis
  split at h <;> first | (rename_i e; rw [e]; simp; done) | cases h
theorem loc_of (G : GoodE m Γ k lv Z Wx X c) {x : Str} (h : locB c x = true) : L2.Loc X.env.scope x ∧ (X.fn x = true ∨ X.env.scope.names.lookup x = some .local) := by
  rw [G.sc]
  unfold locB at h
  unfold L2.Loc
  split at h
  · rename_i e; exact ⟨.inl e, .inr e⟩
  · rename_i e; exact ⟨.inr e, .inl (G.own x h)⟩
  · cases h
theorem gl_of (G : GoodE m Γ k lv Z Wx X c) {x : Str} (h : glB c x = true) : Gl X x ∧ nd x = true := by
  obtain ⟨a, b⟩ := Bool.and_eq_true_iff.mp h
  refine ⟨?_, b⟩
  show X.env.scope.names.lookup x = _
  rw [G.sc]
  exact of_decide_eq_true a
theorem fr_of (G : GoodE m Γ k lv Z Wx X c) {x : Str} (h : frB m c x = true) : Gl X x ∧ nd x = true ∧ X.mg x = none := by
  obtain ⟨a, b⟩ := Bool.and_eq_true_iff.mp h
  exact ⟨(gl_of G b).1, (gl_of G b).2, G.env.free x a⟩
theorem slot_of (G : GoodE m Γ k lv Z Wx X c) {i : Nat} {x : Str} (h : c.N[i]? = some x) : X.N[i]? = some x := by rw [G.hN]; exact h
theorem starE {e : Expr} {es : List Expr} {env : PySem.Env} (h : star0 e = true) : starEach (e :: es) env = (false, eval e env) :: starEach es env := by cases e <;> first | rfl | cases h
theorem units_of (G : GoodE m Γ k lv Z Wx X c) : X.A.units + 64 < cLine := by
  cases hc : c.hot with
  | false => have := (G.calm hc).2.1.un; omega
  | true => have := (G.hot hc).1.un; omega
theorem px_of (G : GoodE m Γ k lv Z Wx X c) : PxOk X Z := fun a oe e => by
  cases hc : c.hot with
  | false => rw [(G.calm hc).2.2] at e; cases e
  | true =>
    obtain ⟨_, p, e', _, hp, hv⟩ := G.hot hc
    rw [e'] at e
    cases e
    exact ⟨hp, hv⟩
theorem F_of (G : GoodE m Γ k lv Z Wx X c) : ClsF Γ Z := by
  have := G.env.F Z.px
  rw [G.K] at this
  exact this
theorem serves_of (G : GoodE m Γ k lv Z Wx X c) : Serves true X := by
  cases hc : c.hot with
  | false => exact .inl (G.calm hc).1
  | true =>
    obtain ⟨_, p, _, h1, h2, _⟩ := G.hot hc
    exact .inr ⟨rfl, p, h1, h2⟩
theorem base_of {o : Expr} {a : Str} {env : PySem.Env} {w : Sem Value} (h : base0 o = true) : attributeBase o a env w = w := by
  unfold attributeBase
  split
  · cases h
  · rfl
theorem PE.w {e : Expr} {t u : TE} (h : PE X e t) (hw : ∀ σ H Q, u σ H Q → t σ H Q) : PE X e u := ⟨fun pins s σ H Q I q => h.run pins s σ H Q I (hw σ H Q q)⟩
theorem PT.w {e : Expr} {t u : TT} (h : PT X e t) (hw : ∀ σ H Q, u σ H Q → t σ H Q) : PT X e u := ⟨fun pins s σ H Q I q => h.run pins s σ H Q I (hw σ H Q q)⟩
theorem PA.w {e : List Expr} {t u : TA} (h : PA X e t) (hw : ∀ σ H Q, u σ H Q → t σ H Q) : PA X e u := ⟨fun pos pins s σ H Q I q => h.run pos pins s σ H Q I (hw σ H Q q)⟩
theorem PO.w {e : Option Expr} {t u : TO} (h : PO X e t) (hw : ∀ σ H Q, u σ H Q → t σ H Q) : PO X e u := ⟨fun pins s σ H Q I q => h.run pins s σ H Q I (hw σ H Q q)⟩
theorem PW.of_pt {op : PySem.BoolOp} {vs : List Expr} {pos : Pos} {t : TT} (h : PT X (.BoolOp op vs pos) t) : PW X (.BoolOp op vs pos) t :=
  ⟨fun wh pins s σ H Q I q => by
    have z := h.run pins s σ H Q I q
    unfold PySem.isTrue at z ⊢
    exact z⟩
theorem pih_any {tg e : Expr} {te : TE} (hK : X.K = Z.K) (he : PE X e te) : PIH false X tg e (iAny Z te) :=
  ⟨fun pins s σ H R I q => thn (he.run pins s σ H _ I q) fun v s1 ⟨x, H1, I1, rv, w, p, h, wk, ex, RH, e, z⟩ => by
    subst ex
    exact iter_val hK I1 RH rv e z⟩
theorem pih_rg {tg e : Expr} {t : L2.St → Hp → (Int → Int → Hp → Prop) → Prop} {wi : TI} (h : PRg X e t) (hw : ∀ σ H R, wi σ H R → t σ H fun a b H' => rngOk a = true ∧ rngOk b = true ∧ ∃ p, R (JW Z p none (rngL a b)) H') : PIH true X tg e wi :=
  ⟨fun pins s σ H R I q => thn (h pins s σ H _ I (hw σ H R q)) fun v s1 ⟨r, a, b, t1, t2, t3, H1, ev, hr, I1, o1, o2, p, z⟩ => by
    subst ev
    exact iter_rng I1 hr o1 o2 z⟩
theorem PIH.w {b : Bool} {tg e : Expr} {t u : TI} (h : PIH b X tg e t) (hw : ∀ σ H R, u σ H R → t σ H R) : PIH b X tg e u := ⟨fun pins s σ H R I q => h.run pins s σ H R I (hw σ H R q)⟩
theorem blk_of {N : List Str} {sc scope : Scope} {y : Str} {i : Nat} (h : blkB N sc scope y = true) (hi : N[i]? = some y) : BlkOk N sc scope [(y, i)] := by
  unfold blkB at h
  obtain ⟨a, b⟩ := Bool.and_eq_true_iff.mp h
  have b := List.all_eq_true.mp b
  refine ⟨of_decide_eq_true a, fun z hz => ?_, fun p hp => ?_, fun z hz e => ?_, fun z hz e => ?_⟩
  · exact of_decide_eq_true (Bool.and_eq_true_iff.mp (b z hz)).1
  · rw [List.mem_singleton.mp hp]; exact hi
  · have q := (Bool.and_eq_true_iff.mp (Bool.and_eq_true_iff.mp (b z hz)).2).1
    rw [e] at q
    dsimp only at q
    split at q
    · rename_i l; exact .inl l
    · rename_i l; exact .inr l
    · cases q
  · have q := (Bool.and_eq_true_iff.mp (Bool.and_eq_true_iff.mp (b z hz)).2).2
    have fin : (z.1 == y || !N.contains z.1) = true → z.1 ∈ ([(y, i)] : List (Str × Nat)).map (·.1) ∨ z.1 ∉ N := fun q => by
      rcases Bool.or_eq_true_iff.mp q with l | l
      · exact .inl (by rw [eq_of_beq l]; exact List.mem_singleton.mpr rfl)
      · refine .inr fun hm => ?_
        rw [List.contains_iff_mem.mpr hm] at l
        cases l
    rcases e with e | e <;> (rw [e] at q; exact fin q)
theorem takesN (h : X.xe = fun _ _ => False) : L2N.Takes X wN := fun u s' ⟨_, _, _, _, _, _, _, _, _, _, _, _, _, _, _, _, z⟩ => z.elim
/-- a comprehension's block -/
theorem good_in (G : GoodE m Γ k lv Z Wx X c) {scope : Scope} (s : Shared) (H : Hp) (C : Addr) (cl : List (Str × Addr)) (fp : List Addr) (pn : List (Addr × Obj)) (hpn : ∀ p ∈ X.pn, p ∈ pn) :
    GoodE m Γ k lv Z wN (blkP X s H scope (compEnvC scope cl C X.env) fp pn) (inC c scope) where
  hN := G.hN
  nod := G.nod
  sc := by show relS scope X.env.scope = relS scope c.sc; rw [G.sc]
  own := fun x h => h
  K := G.K
  tk := takesN rfl
  calm := G.calm
  hot := fun h => let ⟨a, p, b1, b2, b3, b4⟩ := G.hot h; ⟨a, p, b1, b2, hpn p b3, b4⟩
  env := G.env
end
end Mp
set_option Elab.async false
set_option linter.all false
set_option maxRecDepth 100000
set_option maxHeartbeats 1000000
/-! Mp N: the check is sound: expressions, by their build. -/
namespace Mp
open PySem PySem.Spec PyProof.Rows L2
section
variable {m : Nm} {Γ : Gam} {k : Calls} {lv : Nat}
theorem no {P : Prop} (h : false = true) : P := (Bool.false_ne_true h).elim
theorem set_hm {op : CmpOp} {b : Expr} (h : set0 b = true) : behindInMarks op b = false := by cases b <;> first | rfl | cases h
theorem set_lm {op p : CmpOp} {b d : Expr} (h : set0 d = true) : lastMarks [op, p] [b, d] = false := by
  show behindInMarks p d = false
  exact set_hm h
theorem set_hs {e : Expr} {env : PySem.Env} (h : set0 e = true) : ∀ x, foldedSetIterable e env x = pure x := fun x => by cases e <;> first | rfl | cases h
theorem slc_of {i : Expr} (h : slc0 i = true) : PlainIx i := fun o v => by cases i <;> first | rfl | cases h
theorem chkEs_any {pos : Pos} {env : PySem.Env} : ∀ {es : Es} {c : Ck} {l : List Expr}, chkEs m es c l = true → (backTo pos (starEach l env)).any (·.1) = false
  | .nil, c, l, h => by
    unfold chkEs at h
    cases l with
    | nil => rfl
    | cons _ _ => cases h
  | .cons e es, c, l, h => by
    unfold chkEs at h
    cases l with
    | nil => cases h
    | cons e' l =>
      obtain ⟨h1, h2⟩ := Bool.and_eq_true_iff.mp h
      rw [starE h1]
      show (false || (backTo pos (starEach l env)).any (·.1)) = false
      rw [chkEs_any (Bool.and_eq_true_iff.mp h2).2]
      rfl
theorem tyBoot : ∀ n ∈ tyNames, bootBuiltins (Str.ofString n) = some (.type n) := by decide +kernel
theorem cst_of {X : Cx} {w : W} {q : Const} {Z : St0} {Wx : WX} {j : Nat} {pos : Pos} (h : cstB w q = true) : PE X (.Constant q j pos) (TEv Z Wx (evE Γ k (.cst w))) := by
  unfold cstB at h
  split at h
  · exact PE.w pe_non fun σ H Q q => w_cst (w := .non) (v := .non) (fun _ => rfl) (fun _ => trivial) q
  · rename_i b b'
    obtain rfl := eq_of_beq h
    exact PE.w pe_bl fun σ H Q q => w_cst (w := .bl b) (v := .bl b) (fun _ => rfl) (fun _ => trivial) q
  · rename_i i j
    obtain rfl := of_decide_eq_true h
    exact PE.w pe_int fun σ H Q q => w_cst (w := .int i) (v := .int i) (fun _ => rfl) (fun _ => trivial) q
  · rename_i x y
    obtain rfl := of_decide_eq_true h
    exact PE.w pe_str fun σ H Q q => w_cst (w := .str x) (v := .str x) (fun _ => rfl) (fun _ => trivial) q
  · exact no h
theorem isN_of {X : Cx} : ∀ s : Bool, OpR X (compareOp (if s then CmpOp.Is else CmpOp.IsNot)) (rIsN s)
  | true => fun pins st σ H x y v u Q I rx ry ⟨e, q⟩ => op_isN pins st σ H x y v u Q I rx ry ⟨e, by
      have z : (true == decide (x = V.non)) = decide (x = V.non) := by cases decide (x = V.non) <;> rfl
      rw [z] at q
      exact q⟩
  | false => fun pins st σ H x y v u Q I rx ry ⟨e, q⟩ => op_notN pins st σ H x y v u Q I rx ry ⟨e, by
      have z : (false == decide (x = V.non)) = !decide (x = V.non) := by cases decide (x = V.non) <;> rfl
      rw [z] at q
      exact q⟩
variable {Z : St0}
theorem call_of {X : Cx} {c : Ck} {Wx : WX} (G : GoodE m Γ k lv Z Wx X c) {f : Nat} {es : Es} {x : Str} {e' : Expr} {l : List Expr} {p pos : Pos}
    (hf : m.fns.lookup f = some x) (hg : glB c x = true) (hh : (!c.hot || m.fhot.contains f) = true) (ha : PA X (e' :: l) (TAv Z Wx (evEs Γ k es))) (hs : starEach (e' :: l) X.env = (false, eval e' X.env) :: starEach l X.env) (hp : (backTo pos (starEach l X.env)).any (·.1) = false) :
    PE X (.Call (.Name x p) (e' :: l) [] pos) (TEv Z Wx (evE Γ k (.call f es))) := by
  obtain ⟨ar, fa, fd, ps, h1, h2, h3, h4, h5, h6⟩ := G.env.fn f x hf
  obtain ⟨g1, g2⟩ := gl_of G hg
  cases hc : c.hot with
  | false =>
    obtain ⟨b1, b2, b3⟩ := G.calm hc
    have eZ : (⟨Z.cl, X.K, none⟩ : St0) = Z := by rw [G.K, ← b3]
    rw [eZ] at h5
    exact PE.w (pe_callS h5 b2 g1 h1 h2 h3 (fun σ => L2N.passAt G.tk σ) ha (nd_of g2).1 hs hp) fun σ H Q q => w_call h4 q
  | true =>
    rw [hc] at hh
    obtain ⟨b1, q, b2, b3, b4, _⟩ := G.hot hc
    have F := h6 hh
    have eZ : (⟨Z.cl, X.K, some q⟩ : St0) = Z := by rw [G.K, ← b2]
    have z := pe_callX (p := q) (E := WE Wx) (q := p) (pos := pos) F b1 b3 b4 g1 h1 h2 h3 (fun σ => L2N.passAt G.tk σ) ha (nd_of g2).1 hs hp
    rw [eZ] at z
    exact PE.w z fun σ H Q q => w_call h4 q
theorem fn_of_ {X : Cx} {c : Ck} {Wx : WX} (G : GoodE m Γ k lv Z Wx X c) {b : Fn} {es : Es} {x : Str} {e' : Expr} {l : List Expr} {p pos : Pos}
    (hx : x = fnName b) (hg : frB m c x = true) (hh : (!c.hot || fnHot b) = true) (ha : PA X (e' :: l) (TAv Z Wx (evEs Γ k es))) (hs : starEach (e' :: l) X.env = (false, eval e' X.env) :: starEach l X.env) (hp : (backTo pos (starEach l X.env)).any (·.1) = false) :
    PE X (.Call (.Name x p) (e' :: l) [] pos) (TEv Z Wx (evE Γ k (.fn b es))) := by
  obtain ⟨g1, g2, g3⟩ := fr_of G hg
  obtain ⟨n1, _, n3⟩ := nd_of g2
  have rule := callFn2 G.K (px_of G) b fun e => by
    cases hc : c.hot with
    | false => exact (G.calm hc).1
    | true => rw [hc, e] at hh; cases hh
  have bt := fnBoot b
  rw [← hx] at bt
  have fin : PE X (.Call (.Name x p) (e' :: l) [] pos) (tCB (rFn2 Z b) (TAv Z Wx (evEs Γ k es))) := by
    cases b <;> first | exact pe_callB rule g1 g3 bt ha n3 n1 hs hp | exact pe_callTy rule g1 g3 bt ha n3 n1 hs hp
  exact PE.w fin fun σ H Q q => w_fn (F_of G) q
theorem pe_bmK {X : Cx} (hK : X.K = Z.K) {mt : Mt} {o e : Expr} {to : TE} {t : TA} {n : Str} {apos cpos : Pos} (hn : n = mName mt) (hb : base0 o = true) (hl : (apos.endLine == cpos.line) = true) (hs : star0 e = true) (ho : PE X o to) (ha : PA X [e] t) :
    PE X (.Call (.Attribute o n apos) [e] [] cpos) (tBM Z.K (mTy mt) (rMt mt) to t) := by
  subst hn
  rw [← hK]
  have s1 : starEach [e] X.env = (false, eval e X.env) :: starEach [] X.env := starE hs
  exact pe_bm (mPlain mt) (mSlot mt) (mType mt) (mRule mt) ho ha (base_of hb) (by rw [s1]; rfl) hl s1 rfl
theorem pe_bmK0 {X : Cx} (hK : X.K = Z.K) {mt : Mt} {o : Expr} {to : TE} {n : Str} {apos cpos : Pos} (hn : n = mName mt) (hb : base0 o = true) (hl : (apos.endLine == cpos.line) = true) (ho : PE X o to) :
    PE X (.Call (.Attribute o n apos) [] [] cpos) (tBM0 Z.K (mTy mt) (rMt mt) to) := by
  subst hn
  rw [← hK]
  exact pe_bm0 (mPlain mt) (mSlot mt) (mType mt) (mRule mt) ho (base_of hb) hl
theorem star_of : ∀ {e : E} {c : Ck} {ex : Expr}, chkE m e c ex = true → star0 ex = true := by
  intro e c ex h
  cases ex with
  | Starred v pos => cases e <;> (unfold chkE at h; exact no h)
  | _ => rfl
theorem chkEs_st {es : Es} {c : Ck} {e : Expr} {l : List Expr} {env : PySem.Env} (h : chkEs m es c (e :: l) = true) : starEach (e :: l) env = (false, eval e env) :: starEach l env := by
  cases es with
  | nil => unfold chkEs at h; cases h
  | cons a es => unfold chkEs at h; exact starE (Bool.and_eq_true_iff.mp h).1
theorem chkEs_tl {es : Es} {c : Ck} {e : Expr} {l : List Expr} {env : PySem.Env} {pos : Pos} (h : chkEs m es c (e :: l) = true) : (backTo pos (starEach l env)).any (·.1) = false := by
  cases es with
  | nil => unfold chkEs at h; cases h
  | cons a es => unfold chkEs at h; exact chkEs_any (Bool.and_eq_true_iff.mp (Bool.and_eq_true_iff.mp h).2).2
theorem chkEs_s0 {es : Es} {c : Ck} {e : Expr} {l : List Expr} (h : chkEs m es c (e :: l) = true) : star0 e = true := by
  cases es with
  | nil => unfold chkEs at h; cases h
  | cons a es => unfold chkEs at h; exact (Bool.and_eq_true_iff.mp h).1
theorem bnd_assoc {α β γ : Type} (r : M α) (f : α → Hq → M β) (g : β → Hq → M γ) : bnd (bnd r f) g = bnd r fun x h => bnd (f x h) g := by
  match r with
  | none => rfl
  | some (.ok a, h) => rfl
  | some (.exc c w, h) => rfl
variable {Wx : WX} {σ : L2.St} {H : Hp}
theorem w_bndE {es : Es} {f : List W → Hq → M W} {Q : Bool → Hp → Prop} (q : TTv Z Wx (fun ρ h => bnd (evEs Γ k es ρ h) fun vs h => bnd (f vs h) fun x h => optT (truV h x) h) σ H Q) :
    TTv Z Wx (fun ρ h => bnd (bnd (evEs Γ k es ρ h) f) fun x h => optT (truV h x) h) σ H Q := by
  have e : (fun ρ h => bnd (bnd (evEs Γ k es ρ h) f) fun x h => optT (truV h x) h) = fun ρ h => bnd (evEs Γ k es ρ h) fun vs h => bnd (f vs h) fun x h => optT (truV h x) h := by
    funext ρ h
    exact bnd_assoc _ _ _
  rw [e]
  exact q
theorem TEv.imp {r : Env → Hq → M W} {Q Q' : VK} (q : TEv Z Wx r σ H Q) (k : ∀ v H', Q v H' → Q' v H') : TEv Z Wx r σ H Q' := by
  obtain ⟨m, ρ, h, e, w, R, t⟩ := q
  exact ⟨m, ρ, h, e, w, R, t.mono fun _ _ _ _ _ _ z wv => k _ _ (z wv)⟩
theorem w_bndE2 {a i : E} {Q : Bool → Hp → Prop} (q : TTv Z Wx (evT Γ k (.ix a i)) σ H Q) : TTv Z Wx (fun ρ h => bnd (evE Γ k (.ix a i) ρ h) fun x h => optT (truV h x) h) σ H Q := by
  have e : (fun ρ h => bnd (evE Γ k (.ix a i) ρ h) fun x h => optT (truV h x) h) = evT Γ k (.ix a i) := by
    funext ρ h
    unfold evE evT
    rw [bnd_assoc]
    congr 1
    funext x h
    rw [bnd_assoc]
  rw [e]
  exact q
theorem w_varT {i : Nat} {Q : Bool → Hp → Prop} (q : TTv Z Wx (evT Γ k (.var i)) σ H Q) : TTv Z Wx (fun ρ h => bnd (evE Γ k (.var i) ρ h) fun x h => optT (truV h x) h) σ H Q := by
  have e : (fun ρ h => bnd (evE Γ k (.var i) ρ h) fun x h => optT (truV h x) h) = evT Γ k (.var i) := by
    funext ρ h
    unfold evE evT
    split <;> rfl
  rw [e]
  exact q
theorem w_cno {Q : Bool → Hp → Prop} (q : TTv Z Wx (evC Γ k .no) σ H Q) : tYes σ H Q := by
  obtain ⟨m, ρ, h, rfl, w, R, t⟩ := q
  unfold evC at t
  exact t.of_ret R
theorem w_cyes {e : E} {Q : Bool → Hp → Prop} (q : TTv Z Wx (evC Γ k (.yes e)) σ H Q) : TTv Z Wx (evT Γ k e) σ H Q := by
  obtain ⟨m, ρ, h, e', w, R, t⟩ := q
  unfold evC at t
  exact ⟨m, ρ, h, e', w, R, t⟩
theorem w_rng1 {e : E} {R : It → Hp → Prop} (q : TIv Z Wx (evS Γ k (.rng e)) σ H R) : tRg1 (TEv Z Wx (evE Γ k e)) σ H fun a b H' => rngOk a = true ∧ rngOk b = true ∧ ∃ p, R (JW Z p none (rngL a b)) H' :=
  TEv.imp (w_rng q) fun v H' ⟨j, p, e, ok, z⟩ => ⟨j, e, by decide, ok, p, z⟩
theorem w_rng12 {a b : E} {R : It → Hp → Prop} (q : TIv Z Wx (evS Γ k (.rng2 a b)) σ H R) : tRg2 (TEv Z Wx (evE Γ k a)) (TEv Z Wx (evE Γ k b)) σ H fun a b H' => rngOk a = true ∧ rngOk b = true ∧ ∃ p, R (JW Z p none (rngL a b)) H' :=
  TEv.imp (w_rng2 q) fun v H' z => TEv.imp z fun u H2 ⟨i, j, p, e1, e2, o1, o2, z⟩ => ⟨i, j, e1, e2, o1, o2, p, z⟩
end
end Mp
set_option Elab.async false
set_option linter.all false
set_option maxRecDepth 100000
set_option maxHeartbeats 1000000
/-! Mp O: the check is sound: the induction over expressions. -/
namespace Mp
open PySem PySem.Spec PyProof.Rows L2
section
variable {m : Nm} {Γ : Gam} {k : Calls} {lv : Nat} {Z : St0}
theorem var_ok {Wx : WX} {X : Cx} {c : Ck} (G : GoodE m Γ k lv Z Wx X c) {i : Nat} {x : Str} {pos : Pos} (h : (decide (c.N[i]? = some x) && (visB c.sc x && nd x)) = true) : PE X (.Name x pos) (TEv Z Wx (evE Γ k (.var i))) := by
  simp only [Bool.and_eq_true, decide_eq_true_eq] at h
  obtain ⟨h1, h2, h3⟩ := h
  exact PE.w (pe_var (slot_of G h1) (by rw [G.sc]; exact vis_of h2) (nd_of h3).1 (nd_of h3).2.1) fun σ H Q q => w_var q
mutual
theorem chkE_ok : ∀ (e : E) (c : Ck) (ex : Expr) (Wx : WX) (X : Cx), chkE m e c ex = true → GoodE m Γ k lv Z Wx X c → PE X ex (TEv Z Wx (evE Γ k e))
  | .var i, c, ex, Wx, X, h, G => by
    unfold chkE at h
    split at h
    · exact var_ok G h
    · exact no h
  | .cst w, c, ex, Wx, X, h, G => by
    unfold chkE at h
    split at h
    · exact cst_of h
    · exact no h
  | .glob g, c, ex, Wx, X, h, G => by
    unfold chkE at h
    split at h
    · simp only [Bool.and_eq_true, decide_eq_true_eq] at h
      obtain ⟨v, u, y, h1, h2, h3, h4, h5⟩ := G.env.gl g _ h.1
      exact PE.w (pe_glob (gl_of G h.2).1 h4 h5 (nd_of (gl_of G h.2).2).1) fun σ H Q q => w_glob h1 h2 h3 q
    · exact no h
  | .ty n, c, ex, Wx, X, h, G => by
    unfold chkE at h
    split at h
    · simp only [Bool.and_eq_true, decide_eq_true_eq] at h
      obtain ⟨rfl, h1, h2⟩ := h
      obtain ⟨g1, g2, g3⟩ := fr_of G h2
      exact PE.w (pe_bltn (v := .ty n) g1 g3 (tyBoot n (List.contains_iff_mem.mp h1)) rfl (nd_of g2).2.2 (nd_of g2).1) fun σ H Q q => w_ty q
    · exact no h
  | .cls d, c, ex, Wx, X, h, G => by
    unfold chkE at h
    split at h
    · simp only [Bool.and_eq_true, decide_eq_true_eq] at h
      obtain ⟨g1, g2⟩ := gl_of G h.2
      exact PE.w (pe_glob (v := .ref (Z.cl d)) g1 (G.env.cls d _ h.1) rfl (nd_of g2).1) fun σ H Q q => w_cls q
    · exact no h
  | .bin o a b, c, ex, Wx, X, h, G => by
    unfold chkE at h
    split at h
    · simp only [Bool.and_eq_true, decide_eq_true_eq] at h
      obtain ⟨rfl, h1, h2⟩ := h
      have r := opBin (X := X) o
      rw [G.K] at r
      exact PE.w (pe_op r (chkE_ok a c _ Wx X h1 G) (chkE_ok b c _ Wx X h2 G)) fun σ H Q q => w_bin q
    · exact no h
  | .neg a, c, ex, Wx, X, h, G => by
    unfold chkE at h
    split at h
    · exact PE.w (pe_un un_neg (chkE_ok a c _ Wx X h G)) fun σ H Q q => w_neg q
    · exact no h
  | .cmp o a b, c, ex, Wx, X, h, G => by
    unfold chkE at h
    split at h
    · simp only [Bool.and_eq_true, decide_eq_true_eq] at h
      obtain ⟨rfl, h1, h2, h3⟩ := h
      have r := opCmp (X := X) (units_of G) o
      rw [G.K] at r
      exact PE.w (pe_cmpR r (chkE_ok a c _ Wx X h2 G) (chkE_ok b c _ Wx X h3 G) (set_hm h1)) fun σ H Q q => w_cmp q
    · exact no h
  | .isN s a, c, ex, Wx, X, h, G => by
    unfold chkE at h
    split at h
    · simp only [Bool.and_eq_true, decide_eq_true_eq] at h
      obtain ⟨rfl, h1⟩ := h
      exact PE.w (pe_cmpR (isN_of s) (chkE_ok a c _ Wx X h1 G) pe_non (by cases s <;> rfl)) fun σ H Q q => w_isN q
    · exact no h
  | .chn o p a b d, c, ex, Wx, X, h, G => by
    unfold chkE at h
    split at h
    · simp only [Bool.and_eq_true, decide_eq_true_eq] at h
      obtain ⟨rfl, rfl, h1, h2, h3, h4⟩ := h
      have r := opCmp (X := X) (units_of G) o
      have r' := opCmp (X := X) (units_of G) p
      rw [G.K] at r r'
      exact PE.w (pe_chain r r' (chkE_ok a c _ Wx X h2 G) (chkE_ok b c _ Wx X h3 G) (chkE_ok d c _ Wx X h4 G) (set_lm h1)) fun σ H Q q => w_chn q
    · exact no h
  | .not a, c, ex, Wx, X, h, G => by
    unfold chkE at h
    split at h
    · exact PE.w (pe_not (chkE_ok a c _ Wx X h G)) fun σ H Q q => w_not q
    · exact no h
  | .and a b, c, ex, Wx, X, h, G => by
    unfold chkE at h
    split at h
    · obtain ⟨h1, h2⟩ := Bool.and_eq_true_iff.mp h
      exact PE.w (pe_and (chkE_ok a c _ Wx X h1 G) (pe_one (chkE_ok b c _ Wx X h2 G))) fun σ H Q q => w_and q
    · obtain ⟨h1, h2⟩ := Bool.and_eq_true_iff.mp h
      exact PE.w (pe_and (chkE_ok a c _ Wx X h1 G) (chkE_ok b c _ Wx X h2 G)) fun σ H Q q => w_and q
    · exact no h
  | .or a b, c, ex, Wx, X, h, G => by
    unfold chkE at h
    split at h
    · obtain ⟨h1, h2⟩ := Bool.and_eq_true_iff.mp h
      exact PE.w (pe_or (chkE_ok a c _ Wx X h1 G) (pe_one (chkE_ok b c _ Wx X h2 G))) fun σ H Q q => w_or q
    · obtain ⟨h1, h2⟩ := Bool.and_eq_true_iff.mp h
      exact PE.w (pe_or (chkE_ok a c _ Wx X h1 G) (chkE_ok b c _ Wx X h2 G)) fun σ H Q q => w_or q
    · exact no h
  | .ite t a b, c, ex, Wx, X, h, G => by
    unfold chkE at h
    split at h
    · simp only [Bool.and_eq_true] at h
      exact PE.w (pe_ifExp (chkT_ok t c _ Wx X h.1 G) (chkE_ok a c _ Wx X h.2.1 G) (chkE_ok b c _ Wx X h.2.2 G)) fun σ H Q q => w_ite q
    · exact no h
  | .call f es, c, ex, Wx, X, h, G => by
    unfold chkE at h
    split at h
    · rename_i x p e' es' pos
      simp only [Bool.and_eq_true, decide_eq_true_eq] at h
      obtain ⟨h1, h2, h3, h4⟩ := h
      exact call_of G h1 h2 h3 (chkEs_ok es c _ Wx X h4 G) (chkEs_st h4) (chkEs_tl h4)
    · exact no h
  | .fn b es, c, ex, Wx, X, h, G => by
    unfold chkE at h
    split at h
    · rename_i x p e' es' pos
      simp only [Bool.and_eq_true, decide_eq_true_eq] at h
      obtain ⟨h1, h2, h3, h4⟩ := h
      exact fn_of_ G h1 h2 h3 (chkEs_ok es c _ Wx X h4 G) (chkEs_st h4) (chkEs_tl h4)
    · exact no h
  | .mth mt o es, c, ex, Wx, X, h, G => by
    unfold chkE at h
    split at h
    · split at h
      · simp only [Bool.and_eq_true, decide_eq_true_eq] at h
        obtain ⟨h1, h2, h3, h4⟩ := h
        exact PE.w (pe_bmK0 G.K h1 h2 h3 (chkE_ok o c _ Wx X h4 G)) fun σ H Q q => w_mth0 q
      · exact no h
    · simp only [Bool.and_eq_true, decide_eq_true_eq] at h
      obtain ⟨h1, h2, h3, h4, h5⟩ := h
      exact PE.w (pe_bmK G.K h1 h2 h3 (chkEs_s0 h5) (chkE_ok o c _ Wx X h4 G) (chkEs_ok es c _ Wx X h5 G)) fun σ H Q q => w_mth q
    · exact no h
  | .attr f o, c, ex, Wx, X, h, G => by
    unfold chkE at h
    split at h
    · simp only [Bool.and_eq_true, decide_eq_true_eq] at h
      obtain ⟨rfl, rfl, h2, h3⟩ := h
      have W := G.env.what
      rw [G.K] at W
      exact PE.w (pe_what G.K (px_of G) (chkE_ok o c _ Wx X h3 G) (base_of h2)) fun σ H Q q => w_what W q
    · exact no h
  | .lrg a, c, ex, Wx, X, h, G => by
    unfold chkE at h
    split at h
    · simp only [Bool.and_eq_true, decide_eq_true_eq, Bool.not_eq_true'] at h
      obtain ⟨h1, rfl, rfl, h4, h5, h6⟩ := h
      obtain ⟨g1, g2, g3⟩ := fr_of G h4
      obtain ⟨f1, f2, f3⟩ := fr_of G h5
      exact PE.w (pe_listRg (G.calm h1).1 g1 g3 (prg_1 f1 f3 (chkE_ok a c _ Wx X h6 G) (starE (star_of h6)))) fun σ H Q q => w_lrg q
    · exact no h
  | .lrg2 a b, c, ex, Wx, X, h, G => by
    unfold chkE at h
    exact no h
  | .ix a i, c, ex, Wx, X, h, G => by
    unfold chkE at h
    split at h
    · simp only [Bool.and_eq_true] at h
      have r := ix_seq (X := X)
      rw [G.K] at r
      exact PE.w (pe_ix r (chkE_ok a c _ Wx X h.2.1 G) (chkE_ok i c _ Wx X h.2.2 G) (slc_of h.1)) fun σ H Q q => w_ix q
    · exact no h
  | .cut a lo hi, c, ex, Wx, X, h, G => by
    unfold chkE at h
    split at h
    · simp only [Bool.and_eq_true] at h
      have r := slBoth (X := X)
      rw [G.K] at r
      exact PE.w (pe_slice r (chkE_ok a c _ Wx X h.1 G) (chkO_ok lo c _ Wx X h.2.1 G) (chkO_ok hi c _ Wx X h.2.2 G)) fun σ H Q q => w_cut q
    · exact no h
  | .tup es, c, ex, Wx, X, h, G => by
    unfold chkE at h
    split at h
    · exact PE.w (pe_tup (chkEs_ok es c _ Wx X h G)) fun σ H Q q => w_tup q
    · exact no h
  | .lst es, c, ex, Wx, X, h, G => by
    unfold chkE at h
    split at h
    · exact PE.w (pe_lst (chkEs_ok es c _ Wx X h G)) fun σ H Q q => w_lst q
    · exact no h
  | .comp x s t el, c, ex, Wx, X, h, G => by
    unfold chkE at h
    split at h
    · rename_i el' y py it ifs scope pos
      simp only [Bool.and_eq_true, decide_eq_true_eq] at h
      obtain ⟨h1, h2, h3, h4, h5, h6, h7⟩ := h
      obtain ⟨b, hb, sv⟩ := chkSrc_ok s c it Wx X (.Name y py) h5 G
      have bk := blk_of h2 h1
      rw [← G.hN, ← G.sc] at bk
      exact PE.w (lcH sv (by rw [G.hN]; exact G.nod) hb bk
        (fun s H C cl fp pn hp => let Y := good_in G (scope := scope) s H C cl fp pn hp; pg_name (by rw [Y.hN]; exact Y.nod) (slot_of Y h1) (loc_of Y h3).1 (loc_of Y h3).2)
        (fun s H C cl fp pn hp => chkC_ok t (inC c scope) ifs _ h6 (good_in G s H C cl fp pn hp))
        (fun s H C cl fp pn hp => chkE_ok el _ _ wN _ h7 (good_in G s H C cl fp pn hp)) (set_hs h4)) fun σ H Q q => w_comp q
    · exact no h
theorem chkT_ok : ∀ (e : E) (c : Ck) (ex : Expr) (Wx : WX) (X : Cx), chkT m e c ex = true → GoodE m Γ k lv Z Wx X c → PT X ex (TTv Z Wx (evT Γ k e))
  | .not a, c, ex, Wx, X, h, G => by
    unfold chkT at h
    split at h
    · exact PT.w (pt_not (chkT_ok a c _ Wx X h G)) fun σ H Q q => w_notT q
    · exact no h
  | .and a b, c, ex, Wx, X, h, G => by
    unfold chkT at h
    split at h
    · obtain ⟨h1, h2⟩ := Bool.and_eq_true_iff.mp h
      exact PT.w (pw_and (chkT_ok a c _ Wx X h1 G) (pw_and1 (chkT_ok b c _ Wx X h2 G))).pt fun σ H Q q => w_andT q
    · obtain ⟨h1, h2⟩ := Bool.and_eq_true_iff.mp h
      exact PT.w (pw_and (chkT_ok a c _ Wx X h1 G) (PW.of_pt (chkT_ok b c _ Wx X h2 G))).pt fun σ H Q q => w_andT q
    · exact no h
  | .or a b, c, ex, Wx, X, h, G => by
    unfold chkT at h
    split at h
    · obtain ⟨h1, h2⟩ := Bool.and_eq_true_iff.mp h
      exact PT.w (pw_or (chkT_ok a c _ Wx X h1 G) (pw_or1 (chkT_ok b c _ Wx X h2 G))).pt fun σ H Q q => w_orT q
    · obtain ⟨h1, h2⟩ := Bool.and_eq_true_iff.mp h
      exact PT.w (pw_or (chkT_ok a c _ Wx X h1 G) (PW.of_pt (chkT_ok b c _ Wx X h2 G))).pt fun σ H Q q => w_orT q
    · exact no h
  | .cmp o a b, c, ex, Wx, X, h, G => by
    unfold chkT at h
    split at h
    · simp only [Bool.and_eq_true, decide_eq_true_eq] at h
      obtain ⟨rfl, h1, h2, h3⟩ := h
      have r := opCmp (X := X) (units_of G) o
      rw [G.K] at r
      exact PT.w (pt_cmpR r (chkE_ok a c _ Wx X h2 G) (chkE_ok b c _ Wx X h3 G) (set_hm h1)) fun σ H Q q => w_cmpT q
    · exact no h
  | .isN s a, c, ex, Wx, X, h, G => by
    unfold chkT at h
    split at h
    · simp only [Bool.and_eq_true, decide_eq_true_eq] at h
      obtain ⟨rfl, h1⟩ := h
      exact PT.w (pt_cmpR (isN_of s) (chkE_ok a c _ Wx X h1 G) pe_non (by cases s <;> rfl)) fun σ H Q q => w_isNT q
    · exact no h
  | .chn o p a b d, c, ex, Wx, X, h, G => by
    unfold chkT at h
    split at h
    · simp only [Bool.and_eq_true, decide_eq_true_eq] at h
      obtain ⟨rfl, rfl, h1, h2, h3, h4⟩ := h
      have r := opCmp (X := X) (units_of G) o
      have r' := opCmp (X := X) (units_of G) p
      rw [G.K] at r r'
      exact PT.w (pt_chain r r' (chkE_ok a c _ Wx X h2 G) (chkE_ok b c _ Wx X h3 G) (chkE_ok d c _ Wx X h4 G) (set_lm h1)) fun σ H Q q => w_chnT q
    · exact no h
  | .var i, c, ex, Wx, X, h, G => by
    unfold chkT at h
    split at h
    · exact PT.w (pt_truth (var_ok G h) fun _ => rfl) fun σ H Q q => by rw [G.K]; exact w_tru (w_varT q)
    · exact no h
  | .call f es, c, ex, Wx, X, h, G => by
    unfold chkT at h
    split at h
    · rename_i x p e' es' pos
      simp only [Bool.and_eq_true, decide_eq_true_eq] at h
      obtain ⟨h1, h2, h3, h4⟩ := h
      exact PT.w (pt_truth (call_of G h1 h2 h3 (chkEs_ok es c _ Wx X h4 G) (chkEs_st h4) (chkEs_tl h4)) fun _ => rfl) fun σ H Q q => by rw [G.K]; exact w_tru (w_bndE q)
    · exact no h
  | .fn b es, c, ex, Wx, X, h, G => by
    unfold chkT at h
    split at h
    · rename_i x p e' es' pos
      simp only [Bool.and_eq_true, decide_eq_true_eq] at h
      obtain ⟨h1, h2, h3, h4⟩ := h
      exact PT.w (pt_truth (fn_of_ G h1 h2 h3 (chkEs_ok es c _ Wx X h4 G) (chkEs_st h4) (chkEs_tl h4)) fun _ => rfl) fun σ H Q q => by rw [G.K]; exact w_tru (w_bndE q)
    · exact no h
  | .ix a i, c, ex, Wx, X, h, G => by
    unfold chkT at h
    split at h
    · simp only [Bool.and_eq_true] at h
      have r := ix_seq (X := X)
      rw [G.K] at r
      exact PT.w (pt_truth (PE.w (pe_ix r (chkE_ok a c _ Wx X h.2.1 G) (chkE_ok i c _ Wx X h.2.2 G) (slc_of h.1)) fun σ H Q q => w_ix q) fun _ => rfl) fun σ H Q q => by rw [G.K]; exact w_tru (w_bndE2 q)
    · exact no h
  | .cst _, _, _, _, _, h, _ => by unfold chkT at h; exact no h
  | .glob _, _, _, _, _, h, _ => by unfold chkT at h; exact no h
  | .ty _, _, _, _, _, h, _ => by unfold chkT at h; exact no h
  | .cls _, _, _, _, _, h, _ => by unfold chkT at h; exact no h
  | .bin _ _ _, _, _, _, _, h, _ => by unfold chkT at h; exact no h
  | .neg _, _, _, _, _, h, _ => by unfold chkT at h; exact no h
  | .ite _ _ _, _, _, _, _, h, _ => by unfold chkT at h; exact no h
  | .mth _ _ _, _, _, _, _, h, _ => by unfold chkT at h; exact no h
  | .attr _ _, _, _, _, _, h, _ => by unfold chkT at h; exact no h
  | .lrg _, _, _, _, _, h, _ => by unfold chkT at h; exact no h
  | .lrg2 _ _, _, _, _, _, h, _ => by unfold chkT at h; exact no h
  | .cut _ _ _, _, _, _, _, h, _ => by unfold chkT at h; exact no h
  | .tup _, _, _, _, _, h, _ => by unfold chkT at h; exact no h
  | .lst _, _, _, _, _, h, _ => by unfold chkT at h; exact no h
  | .comp _ _ _ _, _, _, _, _, h, _ => by unfold chkT at h; exact no h
theorem chkEs_ok : ∀ (es : Es) (c : Ck) (l : List Expr) (Wx : WX) (X : Cx), chkEs m es c l = true → GoodE m Γ k lv Z Wx X c → PA X l (TAv Z Wx (evEs Γ k es))
  | .nil, c, l, Wx, X, h, G => by
    unfold chkEs at h
    cases l with
    | nil => exact PA.w pa_nil fun σ H Q q => w_nil q
    | cons _ _ => cases h
  | .cons e es, c, l, Wx, X, h, G => by
    unfold chkEs at h
    split at h
    · simp only [Bool.and_eq_true] at h
      exact PA.w (pa_cons (chkE_ok e c _ Wx X h.2.1 G) (chkEs_ok es c _ Wx X h.2.2 G) (starE h.1)) fun σ H Q q => w_cons q
    · exact no h
theorem chkO_ok : ∀ (o : Op) (c : Ck) (l : Option Expr) (Wx : WX) (X : Cx), chkO m o c l = true → GoodE m Γ k lv Z Wx X c → PO X l (TOv Z Wx (evO Γ k o))
  | .no, c, l, Wx, X, h, G => by
    unfold chkO at h
    cases l with
    | none => exact PO.w po_none fun σ H Q q => w_no q
    | some _ => cases h
  | .yes e, c, l, Wx, X, h, G => by
    unfold chkO at h
    split at h
    · exact PO.w (po_some (chkE_ok e c _ Wx X h G)) fun σ H Q q => w_yes q
    · exact no h
theorem chkC_ok : ∀ (o : Op) (c : Ck) (ifs : List Expr) (X : Cx), (match o with
        | .no => ifs.isEmpty
        | .yes t' => (match ifs with
          | [i'] => chkT m t' c i'
          | _ => false)) = true → GoodE m Γ k lv Z wN X c → PTs X ifs (TTv Z wN (evC Γ k o))
  | .no, c, ifs, X, h, G => by
    cases ifs with
    | nil => exact ⟨fun pins s σ H Q I q => pts_nil.run pins s σ H Q I (w_cno q)⟩
    | cons _ _ => cases h
  | .yes e, c, ifs, X, h, G => by
    dsimp only at h
    split at h
    · have z := chkT_ok e c _ wN X h G
      exact ⟨fun pins s σ H Q I q => (pts_one z).run pins s σ H Q I (w_cyes q)⟩
    · exact no h
theorem chkSrc_ok : ∀ (s : Src) (c : Ck) (ex : Expr) (Wx : WX) (X : Cx) (tg : Expr), chkSrc m s c ex = true → GoodE m Γ k lv Z Wx X c → ∃ b, PIH b X tg ex (TIv Z Wx (evS Γ k s)) ∧ Serves b X
  | .any e, c, ex, Wx, X, tg, h, G => by
    unfold chkSrc at h
    simp only [Bool.and_eq_true, Bool.not_eq_true'] at h
    exact ⟨false, PIH.w (pih_any G.K (chkE_ok e c _ Wx X h.2 G)) fun σ H R q => w_any q, .inl (G.calm h.1).1⟩
  | .rng a, c, ex, Wx, X, tg, h, G => by
    unfold chkSrc at h
    split at h
    · simp only [Bool.and_eq_true, decide_eq_true_eq] at h
      obtain ⟨rfl, h1, h2, h3⟩ := h
      obtain ⟨g1, g2, g3⟩ := fr_of G h1
      exact ⟨true, pih_rg (prg_1 g1 g3 (chkE_ok a c _ Wx X h3 G) (starE h2)) fun σ H R q => w_rng1 q, serves_of G⟩
    · exact no h
  | .rng2 a b, c, ex, Wx, X, tg, h, G => by
    unfold chkSrc at h
    split at h
    · simp only [Bool.and_eq_true, decide_eq_true_eq] at h
      obtain ⟨rfl, h1, h2, h3, h4, h5⟩ := h
      obtain ⟨g1, g2, g3⟩ := fr_of G h1
      exact ⟨true, pih_rg (prg_2 g1 g3 (chkE_ok a c _ Wx X h4 G) (chkE_ok b c _ Wx X h5 G) (starE h2) (starE h3) (by rw [starE h3]; rfl)) fun σ H R q => w_rng12 q, serves_of G⟩
    · exact no h
end
end
end Mp
set_option Elab.async false
set_option linter.all false
set_option maxRecDepth 100000
set_option maxHeartbeats 1000000
/-! Mp P: the check of statements, and that it is sound. -/
namespace Mp
open PySem PySem.Spec PyProof.Rows L2
/-- several names as targets -/
def chkTs (c : Ck) : List Nat → List Expr → Bool
  | [], [] => true
  | i :: is, .Name x _ :: ts => decide (c.N[i]? = some x) && (locB c x && chkTs c is ts)
  | _, _ => false
mutual
def chkS (m : Nm) (Γ : Gam) : S → Ck → Stmt → Bool
  | .asg i e, c, st => (match st with
    | .Assign [.Name x _] e' _ => decide (c.N[i]? = some x) && (locB c x && (comp0 e' && chkE m e c e'))
    | _ => false)
  | .asc i e, c, st => (match st with
    | .Assign [.Name y py] (.ListComp el' [⟨.Name z pz, it, ifs, 0⟩] scope pos) _ => (match e with
      | .comp x s t el => decide (c.N[i]? = some y) && (decide (c.sc.names.lookup y = some .local) && ((py.line == pos.line) && (!(scope.names.any fun (n, k) => n == y && (k == .local || k == .cell)) &&
          (decide (c.N[x]? = some z) && (blkB c.N c.sc scope z && (locB (inC c scope) z && (set0 it && (chkSrc m s c it && ((match t with
            | .no => ifs.isEmpty
            | .yes t' => (match ifs with
              | [i'] => chkT m t' (inC c scope) i'
              | _ => false)) && chkE m el (inC c scope) el')))))))))
      | _ => false)
    | _ => false)
  | .unp is e, c, st => (match st with
    | .Assign [.Tuple ts _ _] e' _ => !c.hot && (chkTs c is ts && (tup0 e' && chkE m e c e'))
    | _ => false)
  | .sto o i e, c, st => (match st with
    | .Assign [.Subscript o' i' _] e' _ => slc0 i' && (chkE m e c e' && (chkE m o c o' && chkE m i c i'))
    | _ => false)
  | .aug i o e, c, st => (match st with
    | .AugAssign (.Name x _) op e' _ => decide (c.N[i]? = some x) && (locB c x && (decide (opOf o = op) && chkE m e c e'))
    | _ => false)
  | .exp e, c, st => (match st with
    | .Expr e' _ => comp0 e' && chkE m e c e'
    | _ => false)
  | .ite t a b, c, st => (match st with
    | .If t' a' b' _ => chkT m t c t' && (chkSs m Γ a c a' && chkSs m Γ b c b')
    | _ => false)
  | .whl t b, c, st => (match st with
    | .While t' b' [] _ => chkT m t c t' && chkSs m Γ b c b'
    | _ => false)
  | .for v s b, c, st => (match st with
    | .For (.Name x _) it b' [] _ => decide (c.N[v]? = some x) && (locB c x && (set0 it && (chkSrc m s c it && chkSs m Γ b c b')))
    | _ => false)
  | .ret e, c, st => (match st with
    | .Return (some e') _ => chkE m e c e'
    | _ => false)
  | .ret0, _, st => (match st with
    | .Return none _ => true
    | _ => false)
  | .rse d e, c, st => (match st with
    | .Raise (some (.Call (.Name x _) [e'] [] _)) none _ => !c.hot && (decide (m.cls.lookup d = some x) && (Γ.hc d && (Γ.exc d && (glB c x && (star0 e' && chkE m e c e')))))
    | _ => false)
  | .try b d i hb, c, st => (match st with
    | .Try b' [.ExceptHandler (some (.Name x _)) (some n) (h0 :: hs) _] [] [] _ => !c.hot && (decide (m.cls.lookup d = some x) && (Γ.hc d && (Γ.exc d && (glB c x && (decide (c.N[i]? = some n) && (decide (c.sc.names.lookup n = some .local) &&
        (chkSs m Γ b c b' && chkSs m Γ hb { c with hot := true } (h0 :: hs))))))))
    | _ => false)
  | .brk, _, st => (match st with
    | .Break _ => true
    | _ => false)
  | .cnt, _, st => (match st with
    | .Continue _ => true
    | _ => false)
  | .pas, _, st => (match st with
    | .Pass _ => true
    | .Expr (.Constant (.str _) _ _) _ => true
    | _ => false)
def chkSs (m : Nm) (Γ : Gam) : Ss → Ck → List Stmt → Bool
  | .nil, _, l => l.isEmpty
  | .cons s r, c, l => (match l with
    | s' :: r' => chkS m Γ s c s' && chkSs m Γ r c r'
    | [] => false)
end
structure GoodS (m : Nm) (Γ : Gam) (k : Calls) (lv : Nat) (Z : St0) (Wx : WX) (X : Cx) (c : Ck) : Prop extends GoodE m Γ k lv Z Wx X c where
  pas : PassesOwn (model X.prog X.w) X.A X.env X.xe
  stk : X.stack = X.env :: X.outer
  frm : X.env.frame = some X.env.locals
  knd : X.env.scope.kind = .function
section
variable {m : Nm} {Γ : Gam} {k : Calls} {lv : Nat}
theorem PS.w {st : Stmt} {X : Cx} {t u : TS} (h : PS X st t) (hw : ∀ D σ H, u D σ H → t D σ H) : PS X st u := ⟨fun pins s σ H D I q => h.run pins s σ H D I (hw D σ H q)⟩
theorem PSs.w {st : List Stmt} {X : Cx} {t u : TS} (h : PSs X st t) (hw : ∀ D σ H, u D σ H → t D σ H) : PSs X st u := ⟨fun pins s σ H D I q => h.run pins s σ H D I (hw D σ H q)⟩
theorem sw0 {e : Expr} {o : Option Expr} {l : Nat} {env : PySem.Env} (h : comp0 e = true) : swapsWith e o l env = pure false := by cases e <;> first | rfl | cases h
theorem sws_tup {e : Expr} {ts : List Expr} {j : Nat} {p : Pos} {l : Nat} {env : PySem.Env} : swapsWithSole [.Tuple ts j p] e l env = pure false := by cases e <;> rfl
theorem sws_sub {e o i : Expr} {p : Pos} {l : Nat} {env : PySem.Env} : swapsWithSole [.Subscript o i p] e l env = pure false := by cases e <;> rfl
theorem sst_tup {e : Expr} {ts : List Expr} {j : Nat} {p : Pos} {env : PySem.Env} (h : tup0 e = true) : swappedStores [.Tuple ts j p] e env = pure none := by cases e <;> first | rfl | cases h
theorem sst_sub {e o i : Expr} {p : Pos} {env : PySem.Env} : swappedStores [.Subscript o i p] e env = pure none := by cases e <;> rfl
theorem chkTs_ok {Z : St0} {Wx : WX} {X : Cx} {c : Ck} (G : GoodE m Γ k lv Z Wx X c) : ∀ {is : List Nat} {ts : List Expr}, chkTs c is ts = true →
    PGs X ts (gNs is) ∧ (assignEach ts X.env).length = is.length ∧ (assignEach ts X.env).findIdx? (·.1) = none
  | [], [], _ => ⟨pgs_nil, rfl, rfl⟩
  | i :: is, .Name x p :: ts, h => by
    unfold chkTs at h
    simp only [Bool.and_eq_true, decide_eq_true_eq] at h
    obtain ⟨h1, h2, h3⟩ := h
    obtain ⟨a, b, d⟩ := chkTs_ok G h3
    refine ⟨pgs_cons (pg_name (by rw [G.hN]; exact G.nod) (slot_of G h1) (loc_of G h2).1 (loc_of G h2).2) a rfl, congrArg (· + 1) b, ?_⟩
    show List.findIdx? (·.1) ((false, assign (.Name x p) X.env) :: assignEach ts X.env) = none
    rw [List.findIdx?_cons, d]
    rfl
theorem w_asc {Z : St0} {Wx : WX} {σ : L2.St} {H : Hp} {e : E} {i wf : Nat} {D : Ends} (t : TSv Z Wx (exS Γ wf k (.asc i e)) D σ H) : TSv Z Wx (fun ρ h => lft (evE Γ k e ρ h) ρ fun v h => some (.nx (ρ.set i (some v)), h)) D σ H := by
  obtain ⟨m, ρ, h, r, w, R, t⟩ := t
  unfold exS at t
  exact ⟨m, ρ, h, r, w, R, t⟩
theorem w_asg' {Z : St0} {Wx : WX} {σ : L2.St} {H : Hp} {e : E} {i wf : Nat} {D : Ends} (t : TSv Z Wx (exS Γ wf k (.asg i e)) D σ H) : TSv Z Wx (fun ρ h => lft (evE Γ k e ρ h) ρ fun v h => some (.nx (ρ.set i (some v)), h)) D σ H := by
  obtain ⟨m, ρ, h, r, w, R, t⟩ := t
  unfold exS at t
  exact ⟨m, ρ, h, r, w, R, t⟩
theorem tAsg_comp {Z : St0} {Wx : WX} {σ : L2.St} {H : Hp} {x : Nat} {s : Src} {t : Op} {el : E} {i : Nat} {D : Ends} (q : tAsg (TEv Z Wx (evE Γ k (.comp x s t el))) (gName i) D σ H) :
    tAsg (tLc (TIv Z Wx (evS Γ k s)) (gName x) (TTv Z wN (evC Γ k t)) (TEv Z wN (evE Γ k el)) [x]) (gName i) D σ H := w_comp q
variable {wf : Nat} (hlv : 2 ≤ lv)
include hlv
mutual
theorem chkS_ok : ∀ (t : S) (c : Ck) (st : Stmt) (Z : St0) (Wx : WX) (X : Cx), chkS m Γ t c st = true → GoodS m Γ k lv Z Wx X c → PS X st (TSv Z Wx (exS Γ wf k t))
  | .asg i e, c, st, Z, Wx, X, h, G => by
    unfold chkS at h
    split at h
    · simp only [Bool.and_eq_true, decide_eq_true_eq] at h
      obtain ⟨h1, h2, h3, h4⟩ := h
      obtain ⟨l1, l2⟩ := loc_of G.toGoodE h2
      exact PS.w (ps_set (by rw [G.hN]; exact G.nod) (slot_of G.toGoodE h1) l1 (chkE_ok e c _ Wx X h4 G.toGoodE) (sw0 h3) l2) fun D σ H q => w_asg (w_asg' q)
    · exact no h
  | .asc i e, c, st, Z, Wx, X, h, G => by
    unfold chkS at h
    split at h
    · rename_i y py el' z pz it ifs scope pos spos
      split at h
      · rename_i x s t el
        simp only [Bool.and_eq_true, decide_eq_true_eq, Bool.not_eq_true'] at h
        obtain ⟨h1, h2, h3, h4, h5, h6, h7, h8, h9, h10, h11⟩ := h
        have G1 := G.toGoodE
        obtain ⟨b, hb, sv⟩ := chkSrc_ok s c it Wx X (.Name z pz) h9 G1
        have bk := blk_of h6 h5
        rw [← G.hN, ← G.sc] at bk
        have hl : X.env.scope.names.lookup y = some .local := by rw [G.sc]; exact h2
        exact PS.w (setLcH sv (by rw [G.hN]; exact G.nod) (slot_of G1 h1) hl (sw_true G.knd hl h3 h4) hb bk
          (fun s H C cl fp pn hp => let Y := good_in G1 (scope := scope) s H C cl fp pn hp; pg_name (by rw [Y.hN]; exact Y.nod) (slot_of Y h5) (loc_of Y h7).1 (loc_of Y h7).2)
          (fun s H C cl fp pn hp => chkC_ok t (inC c scope) ifs _ h10 (good_in G1 s H C cl fp pn hp))
          (fun s H C cl fp pn hp => chkE_ok el _ _ wN _ h11 (good_in G1 s H C cl fp pn hp)) (set_hs h8)) fun D σ H q => tAsg_comp (w_asg (w_asc q))
      · exact no h
    · exact no h
  | .unp is e, c, st, Z, Wx, X, h, G => by
    unfold chkS at h
    split at h
    · rename_i ts j p e' pos
      simp only [Bool.and_eq_true, Bool.not_eq_true'] at h
      obtain ⟨h1, h2, h3, h4⟩ := h
      obtain ⟨a, b, d⟩ := chkTs_ok G.toGoodE h2
      have pg := pg_tup (k := j) (pos := p) (G.calm h1).1 a b d
      rw [G.K] at pg
      exact PS.w (ps_asg (chkE_ok e c _ Wx X h4 G.toGoodE) pg sws_tup (sst_tup h3) rfl) fun D σ H q => w_unp q
    · exact no h
  | .sto o i e, c, st, Z, Wx, X, h, G => by
    unfold chkS at h
    split at h
    · rename_i o' i' p e' pos
      simp only [Bool.and_eq_true] at h
      obtain ⟨h1, h2, h3, h4⟩ := h
      exact PS.w (ps_asg (chkE_ok e c _ Wx X h2 G.toGoodE) (pg_sub (chkE_ok o c _ Wx X h3 G.toGoodE) (chkE_ok i c _ Wx X h4 G.toGoodE) set_list fun v => by cases i' <;> first | rfl | cases h1) sws_sub sst_sub rfl) fun D σ H q => w_sto q
    · exact no h
  | .aug i o e, c, st, Z, Wx, X, h, G => by
    unfold chkS at h
    split at h
    · simp only [Bool.and_eq_true, decide_eq_true_eq] at h
      obtain ⟨h1, h2, rfl, h4⟩ := h
      obtain ⟨l1, l2⟩ := loc_of G.toGoodE h2
      exact PS.w (ps_aug (by rw [G.hN]; exact G.nod) (slot_of G.toGoodE h1) l1 (chkE_ok e c _ Wx X h4 G.toGoodE) (opAug o) l2) fun D σ H q => w_aug q
    · exact no h
  | .exp e, c, st, Z, Wx, X, h, G => by
    unfold chkS at h
    split at h
    · simp only [Bool.and_eq_true] at h
      exact PS.w (ps_expr (chkE_ok e c _ Wx X h.2 G.toGoodE) (sw0 h.1)) fun D σ H q => w_exp q
    · exact no h
  | .ite t a b, c, st, Z, Wx, X, h, G => by
    unfold chkS at h
    split at h
    · simp only [Bool.and_eq_true] at h
      exact PS.w (ps_if (chkT_ok t c _ Wx X h.1 G.toGoodE) (chkSs_ok a c _ Z Wx X h.2.1 G) (chkSs_ok b c _ Z Wx X h.2.2 G)) fun D σ H q => w_iteS q
    · exact no h
  | .whl t b, c, st, Z, Wx, X, h, G => by
    unfold chkS at h
    split at h
    · simp only [Bool.and_eq_true] at h
      exact PS.w (ps_while G.pas (chkT_ok t c _ Wx X h.1 G.toGoodE) (chkSs_ok b c _ Z Wx X h.2 G)) fun D σ H q => w_whl q
    · exact no h
  | .for v s b, c, st, Z, Wx, X, h, G => by
    unfold chkS at h
    split at h
    · rename_i x px it b' pos
      simp only [Bool.and_eq_true, decide_eq_true_eq] at h
      obtain ⟨h1, h2, h3, h4, h5⟩ := h
      obtain ⟨bb, hb, sv⟩ := chkSrc_ok s c it Wx X (.Name x px) h4 G.toGoodE
      obtain ⟨l1, l2⟩ := loc_of G.toGoodE h2
      exact PS.w (forH G.pas sv hb (pg_name (by rw [G.hN]; exact G.nod) (slot_of G.toGoodE h1) l1 l2) (chkSs_ok b c _ Z Wx X h5 G) (set_hs h3)) fun D σ H q => w_for q
    · exact no h
  | .ret e, c, st, Z, Wx, X, h, G => by
    unfold chkS at h
    split at h
    · exact PS.w (ps_ret (chkE_ok e c _ Wx X h G.toGoodE)) fun D σ H q => w_ret q
    · exact no h
  | .ret0, c, st, Z, Wx, X, h, G => by
    unfold chkS at h
    split at h
    · exact PS.w ps_retN fun D σ H q => w_ret0 q
    · exact no h
  | .rse d e, c, st, Z, Wx, X, h, G => by
    unfold chkS at h
    split at h
    · simp only [Bool.and_eq_true, decide_eq_true_eq, Bool.not_eq_true'] at h
      obtain ⟨h1, h2, h3, h4, h5, h6, h7⟩ := h
      have E := G.env.rse d _ h2 h3 h4
      obtain ⟨c1, c2, c3⟩ := G.calm h1
      obtain ⟨g1, g2⟩ := gl_of G.toGoodE h5
      refine PS.w (ps_rse E c1 (c2.mono hlv) G.tk g1 (chkE_ok e c _ Wx X h7 G.toGoodE) (nd_of g2).1 (starE h6)) fun D σ H q => ?_
      have E' := E
      rw [G.K] at E' ⊢
      exact w_rse E' q
    · exact no h
  | .try b d i hb, c, st, Z, Wx, X, h, G => by
    unfold chkS at h
    split at h
    · rename_i b' x np n h0 hs pos' pos
      simp only [Bool.and_eq_true, decide_eq_true_eq, Bool.not_eq_true'] at h
      obtain ⟨h1, h2, h3, h4, h5, h6, h7, h8, h9⟩ := h
      obtain ⟨c1, c2, c3⟩ := G.calm h1
      obtain ⟨g1, g2⟩ := gl_of G.toGoodE h5
      have hn : Names X x (.ref (Z.cl d)) := ⟨g1, (nd_of g2).1, .inl (G.env.cls d x h2)⟩
      have exm : ∀ c', Γ.hc c' = true → Γ.exc c' = true → PySem.W.exmOne Z.K (.ref (Z.cl c')) (.ref (Z.cl d)) = some (Γ.sub c' d) := fun c' a b => by
        have := G.env.exm c' d a b h3 h4
        rw [G.K] at this
        exact this
      refine PS.w (L2N.ps_try_as (tb := fun W => TSv Z W (exSs Γ wf k b)) (ts := tsX Z Γ wf k hb) (Wout := Wx) (i := i) G.stk G.frm (by rw [G.hN]; exact G.nod) (slot_of G.toGoodE h6) (by show X.env.scope.names.lookup n = _; rw [G.sc]; exact h7) hn G.tk
        (fun W pn xe tk po => chkSs_ok b c b' Z W (X.tr pn xe) h8 ⟨⟨G.hN, G.nod, G.sc, G.own, G.K, tk, fun _ => ⟨c1, c2, c3⟩, fun z => (by rw [h1] at z; cases z), G.env⟩, po, G.stk, G.frm, G.knd⟩)
        (fun a oe cls dd pn zn hv => ⟨fun pins s σ H D I q => (chkSs_ok hb { c with hot := true } (h0 :: hs) { Z with px := some (a, oe) } wN (X.suite a ((a, oe) :: pn)) h9
          ⟨⟨G.hN, G.nod, G.sc, G.own, G.K, takesN rfl, fun z => (by cases z), fun _ => ⟨L2H.roomH_mark c2 _, (a, oe), rfl, ⟨rfl, hv.choose, hv.choose_spec, zn.2.2 _ hv.choose_spec⟩, List.mem_cons_self, hv⟩, G.env⟩, PassesOwn.never, G.stk, G.frm, G.knd⟩).run pins s σ H D I (q oe zn hv)⟩)) fun D σ H q => ?_
      rw [G.K]
      exact w_try c3 exm q
    · exact no h
  | .brk, c, st, Z, Wx, X, h, G => by
    unfold chkS at h
    split at h
    · exact PS.w ps_break fun D σ H q => w_brk q
    · exact no h
  | .cnt, c, st, Z, Wx, X, h, G => by
    unfold chkS at h
    split at h
    · exact PS.w ps_continue fun D σ H q => w_cnt q
    · exact no h
  | .pas, c, st, Z, Wx, X, h, G => by
    unfold chkS at h
    split at h
    · exact PS.w ps_pass fun D σ H q => w_pas q
    · exact PS.w ps_doc fun D σ H q => w_pas q
    · exact no h
theorem chkSs_ok : ∀ (t : Ss) (c : Ck) (l : List Stmt) (Z : St0) (Wx : WX) (X : Cx), chkSs m Γ t c l = true → GoodS m Γ k lv Z Wx X c → PSs X l (TSv Z Wx (exSs Γ wf k t))
  | .nil, c, l, Z, Wx, X, h, G => by
    unfold chkSs at h
    cases l with
    | nil => exact PSs.w pss_nil fun D σ H q => w_ssnil q
    | cons _ _ => cases h
  | .cons s r, c, l, Z, Wx, X, h, G => by
    unfold chkSs at h
    split at h
    · obtain ⟨h1, h2⟩ := Bool.and_eq_true_iff.mp h
      exact PSs.w (pss_cons (chkS_ok s c _ Z Wx X h1 G) (chkSs_ok r c _ Z Wx X h2 G)) fun D σ H q => w_sscons q
    · exact no h
end
end
end Mp
set_option Elab.async false
set_option linter.all false
set_option maxRecDepth 100000
set_option maxHeartbeats 1000000
/-! Mp Q: every def keeps its promise, level by level. -/
namespace Mp
open PySem PySem.Spec PyProof.Rows L2
/-- what is known of a def of the program -/
structure DefOk (m : Nm) (Γ : Gam) (K : PySem.W.Frag) (mg : Str → Option Value) (f : Nat) (x : Str) (d : FnD) (args : Arguments) (body : List Stmt) (scope : Scope) (N : List Str) (fa : Addr) (fd : FuncData) : Prop where
  at_ : Γ.fn f = some d
  glo : mg x = some (.ref fa)
  F : FunD K x x args body scope [] [] fa fd
  B : Binds K fd (N.take d.ar) []
  S : FnScope N (N.take d.ar) scope
  len : N.length = d.n
  par : (N.take d.ar).length = d.ar
  chk : chkSs m Γ d.body ⟨N, scope, fun _ => true, false⟩ body = true
  hot : m.fhot.contains f = true → chkSs m Γ d.body ⟨N, scope, fun _ => true, true⟩ body = true
structure EnvS (m : Nm) (Γ : Gam) (P : Program) (w : World) (K : PySem.W.Frag) (mg : Str → Option Value) (base : Heap) (cl : Plc) : Prop where
  fn : ∀ (f : Nat) (x : Str), m.fns.lookup f = some x → ∃ d args body scope N fa fd, DefOk m Γ K mg f x d args body scope N fa fd
  gl : ∀ (g : Nat) (x : Str), m.gls.lookup g = some x → ∃ (v : W) (u : Value) (y : V), Γ.glob g = some v ∧ (∀ p, tv cl p v = y) ∧ (∀ n, wfW n v) ∧ mg x = some u ∧ RelV y u
  cls : ∀ (c : Nat) (x : Str), m.cls.lookup c = some x → mg x = some (.ref (cl c))
  free : ∀ x, m.free.contains x = true → mg x = none
  F : ∀ px, ClsF Γ ⟨cl, K, px⟩
  rse : ∀ (c : Nat) (x : Str), m.cls.lookup c = some x → Γ.hc c = true → Γ.exc c = true → ExK P w K mg base x (cl c)
  what : ∀ c, Γ.hc c = true → Γ.exc c = true → ExcA K (cl c)
  exm : ∀ c d, Γ.hc c = true → Γ.exc c = true → Γ.hc d = true → Γ.exc d = true → PySem.W.exmOne K (.ref (cl c)) (.ref (cl d)) = some (Γ.sub c d)
section
variable {m : Nm} {Γ : Gam} {P : Program} {w : World} {K : PySem.W.Frag} {mg : Str → Option Value} {base : Heap} {cl : Plc} {wf : Nat}
theorem start_envV {cl p : Plc} {N : List Str} {n : Nat} (h : N.length = n) (us : List W) : L2.start N (us.map (tv cl p)) = envV cl p (Mp.start n us) := by
  unfold L2.start Mp.start envV
  rw [List.map_append, List.map_map, List.map_map, List.map_replicate, List.length_map, h]
  rfl
theorem start_wf {k n : Nat} {us : List W} (h : ∀ v ∈ us, wfW k v) : wfE k (Mp.start n us) := fun v hv => by
  unfold Mp.start at hv
  rcases List.mem_append.mp hv with z | z
  · obtain ⟨u, hu, e⟩ := List.mem_map.mp z
    cases e
    exact h v hu
  · cases (List.mem_replicate.mp z).2
theorem body_of {Z : St0} {f : Nat} {d : FnD} {N : List Str} {vs : List V} {H : Hp} {Q : VK} {E : XK} (hf : Γ.fn f = some d) (hN : N.length = d.n) {n : Nat} (q : spE Z (call Γ wf (n + 1)) d.ar f vs H Q E) :
    TSv Z (fun c d _ H => E c d H) (exSs Γ wf (call Γ wf n) d.body) { nx := fun _ H' => Q .non H', rt := Q } (L2.start N vs) H := by
  obtain ⟨p, h, us, rfl, hl, wu, R, t⟩ := q
  rw [start_envV hN]
  refine ⟨p, _, h, rfl, start_wf wu, R, ?_⟩
  unfold call at t
  rw [hf] at t
  dsimp only at t
  rw [if_pos hl] at t
  match hr : exSs Γ wf (call Γ wf n) d.body (Mp.start d.n us) h, t with
  | some (.nx ρ, h1), t => exact fun m' H' e R w => t m' H' e R trivial
  | some (.ret v, h1), t => exact fun m' H' e R w => t m' H' e R w
  | some (.exc c v ρ, h1), t => exact fun m' H' dd e R w1 w2 hd => t m' H' dd e R w1 hd
  | some (.brk ρ, h1), t => exact t.elim
  | some (.ct ρ, h1), t => exact t.elim
  | none, t => exact t.elim
theorem spE_len {Z : St0} {k : Calls} {f ar : Nat} {ps : List Str} (h : ps.length = ar) : ∀ vs H Q E, spE Z k ar f vs H Q E → vs.length = ps.length := fun vs H Q E ⟨p, hh, us, e, hl, _⟩ => by
  rw [e, List.length_map, hl, h]
theorem call_ar {f : Nat} {d : FnD} (hf : Γ.fn f = some d) : ∀ (n : Nat) (us : List W) (h : Hq), us.length ≠ d.ar → call Γ wf n f us h = none
  | 0, us, h, _ => by unfold call; rfl
  | n + 1, us, h, hl => by
    unfold call
    rw [hf]
    dsimp only
    rw [if_neg hl]
theorem def_ok {f : Nat} {x : Str} {d : FnD} {args : Arguments} {body : List Stmt} {scope : Scope} {N : List Str} {fa : Addr} {fd : FuncData} {n : Nat} (D : DefOk m Γ K mg f x d args body scope N fa fd) (I : Env1 m Γ (call Γ wf n) (n + 2) P w K mg base cl) :
    FnOk P w K mg base (L2N.CX P w) (n + 3) fa fd (N.take d.ar) (spE ⟨cl, K, none⟩ (call Γ wf (n + 1)) d.ar f) :=
  D.F.ok D.S (spE_len D.par) fun cdv A outer s H vs Q Ex hr q => ⟨_, chkSs_ok (lv := n + 2) (Nat.le_add_left 2 n) d.body _ body ⟨cl, K, none⟩ (fun c dd _ H => Ex c dd H) _ D.chk
    ⟨⟨rfl, D.S.nd, rfl, fun _ _ => rfl, rfl, L2N.takes_of rfl rfl rfl rfl, fun _ => ⟨rfl, hr, rfl⟩, fun z => (by cases z), I⟩, L2.passes_of rfl, rfl, rfl, D.S.kind⟩, body_of D.at_ D.len q⟩
theorem def_okX {f : Nat} {x : Str} {d : FnD} {args : Arguments} {body : List Stmt} {scope : Scope} {N : List Str} {fa : Addr} {fd : FuncData} {n : Nat} (D : DefOk m Γ K mg f x d args body scope N fa fd) (I : Env1 m Γ (call Γ wf n) (n + 2) P w K mg base cl) (hh : m.fhot.contains f = true) :
    FnX P w K mg base (L2N.CX P w) (n + 3) fa fd (N.take d.ar) fun p => spE ⟨cl, K, some p⟩ (call Γ wf (n + 1)) d.ar f :=
  fnX_of D.F D.S (fun p => spE_len D.par) fun p cdv A outer s H vs Q Ex ⟨h1, vs', h2, h3⟩ hr q => ⟨_, chkSs_ok (lv := n + 2) (Nat.le_add_left 2 n) d.body _ body ⟨cl, K, some p⟩ (fun c dd _ H => Ex c dd H) _ (D.hot hh)
    ⟨⟨rfl, D.S.nd, rfl, fun _ _ => rfl, rfl, L2N.takes_of rfl rfl rfl rfl, fun z => (by cases z), fun _ => ⟨hr, p, rfl, ⟨h1, vs', h2, h3⟩, List.mem_singleton.mpr rfl, vs', h2⟩, I⟩, L2.passes_of rfl, rfl, rfl, D.S.kind⟩, body_of D.at_ D.len q⟩
theorem env_all (E : EnvS m Γ P w K mg base cl) : ∀ n, Env1 m Γ (call Γ wf n) (n + 2) P w K mg base cl
  | 0 => { E with
    fn := fun f x hx => by
      obtain ⟨d, args, body, scope, N, fa, fd, D⟩ := E.fn f x hx
      have never : ∀ Z vs H Q E, ¬ spE Z (call Γ wf 0) d.ar f vs H Q E := fun Z vs H Q E ⟨p, h, us, _, _, _, _, t⟩ => by
        unfold call at t
        exact t
      exact ⟨d.ar, fa, fd, _, D.glo, D.F.kp, D.B, call_ar D.at_ 0, ⟨spE_len D.par, fun _ _ _ _ _ _ _ _ _ _ _ _ _ q => (never _ _ _ _ _ q).elim⟩,
        fun _ => ⟨fun p => spE_len D.par, fun _ _ _ _ _ _ _ _ _ _ _ _ _ _ _ _ q => (never _ _ _ _ _ q).elim⟩⟩ }
  | n + 1 => { E with
    fn := fun f x hx => by
      obtain ⟨d, args, body, scope, N, fa, fd, D⟩ := E.fn f x hx
      exact ⟨d.ar, fa, fd, _, D.glo, D.F.kp, D.B, call_ar D.at_ (n + 1), def_ok D (env_all E n), def_okX D (env_all E n)⟩ }
end
end Mp
set_option Elab.async false
set_option linter.all false
set_option maxRecDepth 100000
set_option maxHeartbeats 1000000
/-! Mp R: what the head of the program tells, as one Bool, and what follows of it. -/
namespace Mp
open PySem PySem.Spec PyProof.Rows L2

theorem look_at : ∀ {ps : List Str} {us : List Value} {i : Nat} {n : Str} {v : Value}, ps.Nodup → ps[i]? = some n → us[i]? = some v → (ps.zip us).lookup n = some v
  | [], _, _, _, _, _, h, _ => by cases h
  | _ :: _, [], _, _, _, _, _, h => by cases h
  | p :: ps, u :: us, 0, n, v, nd, h, e => by
    cases h; cases e
    show (match p == p with | true => some u | false => (ps.zip us).lookup p) = _
    rw [beq_self_eq_true]
  | p :: ps, u :: us, i + 1, n, v, nd, h, e => by
    obtain ⟨a, b⟩ := List.nodup_cons.mp nd
    have ne : (n == p) = false := beq_false_of_ne fun z => a (z ▸ List.mem_of_getElem? (show ps[i]? = some n from h))
    show (match n == p with | true => some u | false => (ps.zip us).lookup n) = _
    rw [ne]
    exact look_at b h e
theorem bind_plain {fd : FuncData} {as : List Arg} {us : List Value} (hp : fd.params = { posonlyargs := [], args := as, vararg := none, kwonlyargs := [], kw_defaults := [], kwarg := none, defaults := [] }) (hd : fd.defaults = .none) (nd : (as.map (·.arg)).Nodup) (hl : us.length = (as.map (·.arg)).length) :
    bindArgs fd ⟨us, []⟩ = pure ((as.map (·.arg)).zip us) := by
  have lk : ∀ n ∈ as.map (·.arg), ∃ v, ((as.map (·.arg)).zip us).lookup n = some v := fun n hn => by
    obtain ⟨i, hi, e⟩ := List.mem_iff_getElem.mp hn
    exact ⟨us[i]'(hl ▸ hi), look_at nd (by rw [List.getElem?_eq_getElem hi, e]) (List.getElem?_eq_getElem _)⟩
  have h1 : ((as.map (·.arg)).filter fun n => (((as.map (·.arg)).zip us).lookup n).isNone) = [] := List.filter_eq_nil_iff.mpr fun n hn => by
    obtain ⟨v, e⟩ := lk n hn
    rw [e]
    exact Bool.false_ne_true
  have h2 : ((as.map (·.arg)).filterMap fun n => (((as.map (·.arg)).zip us).lookup n).map fun x => (n, x)) = (as.map (·.arg)).zip us := by
    have key : ∀ {ps : List Str} {us : List Value} {f : Str → Option Value}, us.length = ps.length → (∀ (i : Nat) (n : Str) (v : Value), ps[i]? = some n → us[i]? = some v → f n = some v) → (ps.filterMap fun n => (f n).map fun x => (n, x)) = ps.zip us := by
      intro ps
      induction ps with
      | nil => intro us f hl h; rfl
      | cons p ps ih =>
        intro us f hl h
        cases us with
        | nil => cases hl
        | cons u us =>
          rw [List.filterMap_cons, h 0 p u rfl rfl]
          show (p, u) :: _ = _
          rw [ih (Nat.succ.inj hl) fun i n v a b => h (i + 1) n v a b]
          rfl
    exact key hl fun i n v a b => look_at nd a b
  unfold bindArgs
  rw [hp, hd]
  dsimp only
  have hs : seqItems? Value.none = pure none := rfl
  rw [hs]
  generalize as.map (·.arg) = ps at *
  simp only [List.map_nil, List.nil_append, List.forIn_nil, pure_bind, Option.getD_none, List.append_nil]
  have h0 : ¬ (us.length > ps.length) := by omega
  simp [h0, h1, h2]
/-! ### classes that are exceptions -/
def oexB (K : PySem.W.Frag) (C : Addr) : Bool := (match K.lookup C with
  | some ⟨.type t, _, .cls cd, sl⟩ => decide (t = "type") && (match cd.mro, sl.toList with
    | .ref C' :: bm, [_, _, _, _, some (.builtin n), _] => decide (C' = C) && (decide (n = "ValueError.__new__") && (cd.hasDict && (!cd.hasDel && PySem.HandSPX.refsVE bm)))
    | _, _ => false)
  | _ => false) && (decide (PySem.W.findIn K (.ref C) "__setattr__" = some (some (.builtin "object.__setattr__"))) && (decide (PySem.W.subIn K (.ref C) (.type "BaseException") = some true) &&
    (decide (PySem.W.typeIn K (.ref C) = some (.type "type")) && PySem.W.keepIn K (.ref C))))
theorem oexB_ok {K : PySem.W.Frag} {C : Addr} (h : oexB K C = true) : OexC K C := by
  unfold oexB at h
  simp only [Bool.and_eq_true, decide_eq_true_eq] at h
  obtain ⟨h1, h2, h3, h4, h5⟩ := h
  refine ⟨?_, h2, h3, h4, h5⟩
  split at h1
  · rename_i t dd cd sl ho
    simp only [Bool.and_eq_true, decide_eq_true_eq] at h1
    obtain ⟨rfl, h1⟩ := h1
    split at h1
    · rename_i C' bm k0 k1 k2 k3 n k5 hm hs
      simp only [Bool.and_eq_true, decide_eq_true_eq, Bool.not_eq_true'] at h1
      obtain ⟨rfl, rfl, g1, g2, g3⟩ := h1
      obtain ⟨nm, bs, mro, ns, qn, hd, sn, sub, ab, col, del⟩ := cd
      dsimp only at hm g1 g2
      subst hm g1 g2
      have e : sl = #[k0, k1, k2, k3, some (.builtin "ValueError.__new__"), k5] := by rw [← hs]
      subst e
      exact ⟨nm, qn, ns, bs, bm, sn, sub, ab, col, dd, k0, k1, k2, k3, k5, ho, g3⟩
    · exact (Bool.false_ne_true h1).elim
  · exact (Bool.false_ne_true h1).elim
/-- what an exception class of the program is asked; fI: the __init__ that it has -/
def excB (K : PySem.W.Frag) (C fI : Addr) : Bool := oexB K C && (decide (PySem.W.findIn K (.ref C) wht = some none) && (decide (PySem.W.findIn K (.ref C) "__init__" = some (some (.ref fI))) &&
  (decide (PySem.W.findIn K (.ref C) "__getattribute__" = some (some (.builtin "BaseException.__getattribute__"))) && (decide (PySem.W.findIn K (.ref C) "__getattr__" = some none) && (PySem.W.hasDictIn K C &&
    (decide (PySem.W.findIn K (.ref C) "__class__" = some (some (.builtin "object.__class__"))) && decide (PySem.W.mroIn K C (.type "object") = some true)))))))
def objB (K : PySem.W.Frag) : Bool := decide (PySem.W.specialIn K (.builtin "object.__class__") "__get__" = some (some (.builtin "getset_descriptor.__get__"))) && decide (PySem.W.takesIn K (.builtin "object.__class__") = some true)
structure ExcFacts (K : PySem.W.Frag) (C fI : Addr) : Prop where
  oex : OexC K C
  no : PySem.W.findIn K (.ref C) wht = some none
  ini : PySem.W.findIn K (.ref C) "__init__" = some (some (.ref fI))
  exc : ExcC K C
theorem excB_ok {K : PySem.W.Frag} {C fI : Addr} (h : excB K C fI = true) (ho : objB K = true) : ExcFacts K C fI := by
  unfold excB at h
  unfold objB at ho
  simp only [Bool.and_eq_true, decide_eq_true_eq] at h ho
  obtain ⟨h1, h2, h3, h4, h5, h6, h7, h8⟩ := h
  have o := oexB_ok h1
  exact ⟨o, h2, h3, ⟨h4, h5, o.exC, h6, h7, ho.1, ho.2, h8⟩⟩
/-- __init__(self, what): self.what = what -/
theorem init_ok {P : Program} {w : World} {K : PySem.W.Frag} {mg : Str → Option Value} {base : Heap} {x qual : Str} {args : Arguments} {scope : Scope} {f : Addr} {fd : FuncData} {p1 p2 p3 p4 : Pos}
    (F : FunD K x qual args [.Assign [.Attribute (.Name "self" p1) "what" p2] (.Name "what" p3) p4] scope [] [] f fd) (S : FnScope ["self", "what"] ["self", "what"] scope) (v0 : Vis scope "self") (v1 : Vis scope "what") :
    FnOk P w K mg base CX0 1 f fd ["self", "what"] (spInit K) := by
  refine F.ok S (fun vs H Q E h => ?_) fun cdv A outer s H vs Q E hr h => ⟨tOst K wht (tVar 0) (tVar 1), pss_one (ps_ost (pe_var (i := 0) rfl v0) (pe_var (i := 1) rfl v1)), ?_⟩
  · obtain ⟨a, C, y, rfl, _⟩ := h
    rfl
  · obtain ⟨a, C, y, rfl, T, no, ha, q⟩ := h
    exact ⟨y, rfl, .ref a, rfl, a, C, rfl, T, no, .inl ⟨ha, q⟩⟩
/-! ### the program's text -/
def isDef : Stmt → Bool
  | .FunctionDef _ _ _ _ _ _ _ _ _ _ => true
  | _ => false
def defNm : Stmt → Str
  | .FunctionDef x _ _ _ _ _ _ _ _ _ => x
  | _ => Str.empty
def topDefs (P : Program) : List Stmt := P.main.body.filter isDef
def dOf (s : Stmt) : He.DefD := ⟨(defNm s, none), defNm s, defNm s, defArgs s, defBody s, defScope s, [], []⟩
def inisOf : Stmt → List (Str × Stmt)
  | .ClassDef x _ _ body _ _ _ _ _ _ _ => (body.filter fun s => isDef s && decide (defNm s = "__init__")).map fun s => (x, s)
  | _ => []
def clsInit (P : Program) : Str × Stmt := (P.main.body.flatMap inisOf).headD (Str.empty, .Pass ⟨0, 0, 0, 0⟩)
def iniD (P : Program) : He.DefD := ⟨((clsInit P).1, some "__init__"), "__init__", (clsInit P).1 ++ ".__init__", defArgs (clsInit P).2, defBody (clsInit P).2, defScope (clsInit P).2, [], []⟩
def scopeB (N ps : List Str) (sc : Scope) : Bool := decide (sc.kind = .function) && (!sc.isCoroutine && (!sc.isGenerator && (decide N.Nodup && (decide (N.take ps.length = ps) &&
  ((ps.all fun x => decide (sc.names.lookup x = some .local) || decide (sc.names.lookup x = some .cell)) && sc.names.all fun y => decide (y.2 ≠ .free))))))
theorem scopeB_ok {N ps : List Str} {sc : Scope} (h : scopeB N ps sc = true) : FnScope N ps sc := by
  unfold scopeB at h
  simp only [Bool.and_eq_true, decide_eq_true_eq, Bool.not_eq_true', List.all_eq_true, Bool.or_eq_true] at h
  obtain ⟨h1, h2, h3, h4, h5, h6, h7⟩ := h
  exact ⟨h1, h2, h3, h4, h5, h6, h7⟩
/-- parameters by position, nothing else -/
def plainArgs (a : Arguments) : Bool := a.posonlyargs.isEmpty && (a.vararg.isNone && (a.kwonlyargs.isEmpty && (a.kw_defaults.isEmpty && (a.kwarg.isNone && a.defaults.isEmpty))))
theorem plainArgs_ok {a : Arguments} (h : plainArgs a = true) : a = { posonlyargs := [], args := a.args, vararg := none, kwonlyargs := [], kw_defaults := [], kwarg := none, defaults := [] } := by
  obtain ⟨a1, a2, a3, a4, a5, a6, a7⟩ := a
  unfold plainArgs at h
  simp only [Bool.and_eq_true, List.isEmpty_iff, Option.isNone_iff_eq_none] at h
  obtain ⟨rfl, rfl, rfl, rfl, rfl, rfl⟩ := h
  rfl
def psOf (s : Stmt) : List Str := (defArgs s).args.map (·.arg)
def defB1 (m : Nm) (Γ : Gam) (f : Nat) (x : Str) (s : Stmt) (d : FnD) (N : List Str) : Bool := isDef s && (decide (defNm s = x) && (plainArgs (defArgs s) && (decide (psOf s).Nodup && (decide ((psOf s).length = d.ar) && (decide (N.take d.ar = psOf s) && (decide (N.length = d.n) &&
  (scopeB N (psOf s) (defScope s) && (chkSs m Γ d.body ⟨N, defScope s, fun _ => true, false⟩ (defBody s) && (!m.fhot.contains f || chkSs m Γ d.body ⟨N, defScope s, fun _ => true, true⟩ (defBody s))))))))))
/-- the whole text is the own text -/
def defsB (m : Nm) (Γ : Gam) (Ns : List (Nat × List Str)) (tops : List Stmt) : Bool := m.fns.all fun q => match tops.find? fun s => decide (defNm s = q.2), Γ.fn q.1, Ns.lookup q.1 with
  | some s, some d, some N => defB1 m Γ q.1 q.2 s d N
  | _, _, _ => false
theorem look_mem {α : Type} {a : Nat} {o : α} : ∀ {l : List (Nat × α)}, l.lookup a = some o → (a, o) ∈ l
  | [], h => by cases h
  | (b, u) :: r, h => by
    cases q : (a == b) with
    | true =>
      have h : (match a == b with | true => some u | false => r.lookup a) = some o := h
      rw [q] at h
      cases h
      rw [eq_of_beq q]
      exact List.mem_cons_self
    | false =>
      have h : (match a == b with | true => some u | false => r.lookup a) = some o := h
      rw [q] at h
      exact List.mem_cons_of_mem _ (look_mem h)
/-- the __init__ of the exceptions -/
def iniB (s : Stmt) : Bool := (match defBody s with
  | [.Assign [.Attribute (.Name a _) b _] (.Name c _) _] => decide (a = "self") && (decide (b = "what") && decide (c = "what"))
  | _ => false) && (plainArgs (defArgs s) && (decide (psOf s = [Str.ofString "self", Str.ofString "what"]) && (scopeB ["self", "what"] ["self", "what"] (defScope s) && (visB (defScope s) "self" && visB (defScope s) "what"))))
def clN (K : PySem.W.Frag) (m : Nm) : Plc := fun c => He.ga K ((m.cls.lookup c).getD Str.empty)
def glB1 (K : PySem.W.Frag) (x : Str) : W → Bool
  | .int i => (He.Fa.int x i).ok K
  | .str s => (He.Fa.str x s).ok K
  | _ => false
/-- what is asked of the heap behind the top -/
def exB (m : Nm) (Γ : Gam) (inC : Str) (K : PySem.W.Frag) : Bool :=
  (m.fns.all fun q => (He.Fa.glo q.2).ok K) && ((m.cls.all fun q => (He.Fa.glo q.2).ok K) && ((m.free.all fun x => (He.Fa.free x).ok K) && (objB K &&
    ((m.gls.all fun q => match Γ.glob q.1 with
      | some v => glB1 K q.2 v
      | _ => false) &&
    (decide (PySem.W.typeIn K (.ref (He.fAd K (inC, some "__init__"))) = some (.type "function")) &&
    (m.cls.all fun q => Γ.exc q.1 && (excB K (clN K m q.1) (He.fAd K (inC, some "__init__")) &&
      ((m.cls.all fun r => decide (PySem.W.kitOne K (.ref (clN K m q.1)) (.ref (clN K m r.1)) = some (Γ.sub q.1 r.1)) && decide (PySem.W.exmOne K (.ref (clN K m q.1)) (.ref (clN K m r.1)) = some (Γ.sub q.1 r.1))) &&
       (Γ.tys.all fun t => decide (PySem.W.kitOne K (.ref (clN K m q.1)) (.type t) = some (Γ.subT q.1 t)))))))))))
section
variable {m : Nm} {Γ : Gam} {P : Program} {w : World} {K : PySem.W.Frag} {mg : Str → Option Value} {base h : Heap} {Ns : List (Nat × List Str)}
theorem def_of (hd : defsB m Γ Ns (topDefs P) = true) (X : K.In h) (G : h.Ns mainGlobals mg) (hs : He.SaysD [] ((topDefs P).map dOf ++ [iniD P]) K) (hx : ∀ q ∈ m.fns, (He.Fa.glo q.2).ok K = true) {f : Nat} {x : Str} (hf : m.fns.lookup f = some x) :
    ∃ s d N fd, ((topDefs P).find? fun s => decide (defNm s = x)) = some s ∧ DefOk m Γ K mg f x d (defArgs s) (defBody s) (defScope s) N (He.ga K x) fd ∧ N.take d.ar = psOf s ∧ ∀ (st : Shared) (us : List Value), us.length = (psOf s).length → BindsTo st fd ⟨us, []⟩ ((psOf s).zip us) := by
  have q := List.all_eq_true.mp hd (f, x) (look_mem hf)
  dsimp only at q
  split at q
  · rename_i s d N es ed eN
    unfold defB1 at q
    simp only [Bool.and_eq_true, decide_eq_true_eq] at q
    obtain ⟨q0, q1, q2, q3, q4, q5, q6, q7, q8, q9⟩ := q
    subst q1
    obtain ⟨fd, F⟩ := He.SaysD.defs hs (d := dOf s) (List.mem_append_left _ (List.mem_map.mpr ⟨s, List.mem_of_find?_eq_some es, rfl⟩))
    refine ⟨s, d, N, fd, es, ⟨ed, He.glo_ok X G (hx _ (look_mem hf)), F, ?_, ?_, q6, by rw [q5]; exact q4, q8, fun hh => ?_⟩, q5, fun st us hu => ?_⟩
    · rw [q5]
      exact FunD.bindsN F fun kV doc pm an cdv ct us hu => bind_plain (plainArgs_ok q2) rfl q3 hu
    · rw [q5]; exact scopeB_ok q7
    · rw [hh] at q9
      exact q9
    · exact FunD.bindsA F (fun kV doc pm an cdv ct us hu => bind_plain (plainArgs_ok q2) rfl q3 hu) st us hu
  · exact (Bool.false_ne_true q).elim
theorem env_of (hd : defsB m Γ Ns (topDefs P) = true) (hi : iniB (clsInit P).2 = true) (hl : ∀ c, Γ.hc c = (m.cls.lookup c).isSome) (X : K.In h) (G : h.Ns mainGlobals mg) (hs : He.SaysD [] ((topDefs P).map dOf ++ [iniD P]) K) (hx : exB m Γ (clsInit P).1 K = true) :
    EnvS m Γ P w K mg base (clN K m) := by
  unfold exB at hx
  simp only [Bool.and_eq_true, List.all_eq_true] at hx
  obtain ⟨x1, x2, x3, x4, x5, x6, x7⟩ := hx
  have inn : ∀ c, Γ.hc c = true → ∃ x, (c, x) ∈ m.cls := fun c hc => by
    rw [hl] at hc
    obtain ⟨x, e⟩ := Option.isSome_iff_exists.mp hc
    exact ⟨x, look_mem e⟩
  have exc : ∀ c, Γ.hc c = true → Γ.exc c = true ∧ ExcFacts K (clN K m c) (He.fAd K ((clsInit P).1, some "__init__")) := fun c hc => by
    obtain ⟨x, hx⟩ := inn c hc
    obtain ⟨a, b, _⟩ := x7 _ hx
    exact ⟨a, excB_ok b x4⟩
  have atc : ∀ (c : Nat) (x : Str), m.cls.lookup c = some x → clN K m c = He.ga K x := fun c x e => by
    unfold clN
    rw [e]
    rfl
  have gl : ∀ (c : Nat) (x : Str), m.cls.lookup c = some x → mg x = some (.ref (He.ga K x)) := fun c x e => He.glo_ok X G (x2 _ (look_mem e))
  obtain ⟨fi, FI⟩ := He.SaysD.defs hs (d := iniD P) (List.mem_append_right _ (List.mem_singleton.mpr rfl))
  refine ⟨fun f x hx => ?_, fun g x hx => ?_, fun c x e => ?_, fun x hx => ?_, fun px => ⟨fun c d h1 h2 => ?_, fun c t h1 h2 => ?_, fun c h1 _ => ?_, fun c h1 h2 => ?_⟩, fun c x e h1 h2 => ?_, fun c h1 _ => ?_, fun c d h1 _ h2 _ => ?_⟩
  · obtain ⟨s, d, N, fd, _, D, _⟩ := def_of hd X G hs x1 hx
    exact ⟨_, _, _, _, _, _, _, D⟩
  · have q := x5 _ (look_mem hx)
    dsimp only at q
    split at q
    · rename_i v ev
      cases v with
      | int i =>
        obtain ⟨t, e⟩ := He.int_ok X G q
        exact ⟨_, _, .int i, ev, fun _ => rfl, fun _ => trivial, e, ⟨t, rfl⟩⟩
      | str z =>
        obtain ⟨t, e⟩ := He.str_ok X G q
        exact ⟨_, _, .str z, ev, fun _ => rfl, fun _ => trivial, e, ⟨t, rfl⟩⟩
      | _ => exact (Bool.false_ne_true q).elim
    · exact (Bool.false_ne_true q).elim
  · rw [atc c x e]
    exact gl c x e
  · exact He.free_ok X G (x3 x (List.contains_iff_mem.mp hx))
  · obtain ⟨x, y1⟩ := inn c h1
    obtain ⟨x', y2⟩ := inn d h2
    exact of_decide_eq_true ((x7 _ y1).2.2.1 _ y2).1
  · obtain ⟨x, y1⟩ := inn c h1
    exact of_decide_eq_true ((x7 _ y1).2.2.2 t h2)
  · exact (exc c h1).2.exc
  · rw [(exc c h1).1] at h2; cases h2
  · obtain ⟨_, T⟩ := exc c h1
    refine ⟨?_, T.oex, T.no, _, fi, T.ini, of_decide_eq_true x6, ?_, ?_⟩
    · rw [atc c x e]; exact gl c x e
    all_goals
      unfold iniB at hi
      simp only [Bool.and_eq_true, decide_eq_true_eq] at hi
      obtain ⟨i1, i2, i3, i4, i5, i6⟩ := hi
    · exact FunD.bindsN (ps := ["self", "what"]) FI fun kV doc pm an cdv ct us hu => by
        have := bind_plain (fd := PySem.W.fnOf "__init__" ((clsInit P).1 ++ ".__init__") (defArgs (clsInit P).2) (defBody (clsInit P).2) (defScope (clsInit P).2) .none kV doc pm an cdv ct) (us := us) (plainArgs_ok i2) rfl
        rw [show (defArgs (clsInit P).2).args.map (·.arg) = [Str.ofString "self", Str.ofString "what"] from i3] at this
        exact this (by decide) hu
    · split at i1
      · rename_i a pa b pb c' pc pd hb
        simp only [Bool.and_eq_true, decide_eq_true_eq] at i1
        obtain ⟨rfl, rfl, rfl⟩ := i1
        have FI' := FI
        unfold iniD at FI'
        dsimp only at FI'
        rw [hb] at FI'
        exact init_ok FI' (scopeB_ok i4) (vis_of i5) (vis_of i6)
      · exact (Bool.false_ne_true i1).elim
  · obtain ⟨_, T⟩ := exc c h1
    exact ⟨T.exc.hg, T.exc.hk, T.no, T.exc.hs, T.exc.hd⟩
  · obtain ⟨x, y1⟩ := inn c h1
    obtain ⟨x', y2⟩ := inn d h2
    exact of_decide_eq_true ((x7 _ y1).2.2.1 _ y2).2
end
end Mp
set_option Elab.async false
set_option linter.all false
set_option maxRecDepth 100000
set_option maxHeartbeats 1000000
/-! Mp S: the law's walk, by the evaluator's word. -/
namespace Mp
open PySem PySem.Spec PyProof.Rows L2
theorem walk_cx {l : PySem.W.OpenLaw} {n k : Nat} {q : Program} {loose : List Str} {XP : (Str → Option Value) → Heap → Prop} {YP : World → Heap → Prop} {d : DefRec} {x : Str} (hn : l.most = some n) (hs : n ≤ sizeLine) (hdf : d.params.defaults = []) (hr : Room k callerA)
    (F : ∀ (w : World) (mg : Str → Option Value) (fa : Addr) (h : Heap), YP w h → h.Ns mainGlobals mg → mg d.name = some (.ref fa) → ∃ (K : PySem.W.Frag) (fd : FuncData) (sp : Sp), K.In h ∧ (∀ (s : Shared) (u : Value), BindsTo s fd ⟨[u], []⟩ [(x, u)]) ∧
      (∀ (H : Hp) (a : Addr) (ns : List Int), ns.length ≤ n → Only H → SqL K H a (ns.map V.int) → sp [.ref a] H (fun v _ => v = .bl true) fun _ _ _ => False) ∧ ∀ base : Heap, K.In base → base.Ns mainGlobals mg → FnOk l.prog w K mg base (L2N.CX l.prog w) k fa fd [x] sp) :
    PySem.W.WalkO q loose XP YP l.row.toRowW d [] (fun f vs => PySem.call f vs) := by
  refine Att.attach_call hn hdf fun w s0 s1 mg mb fa o pm cd doc a vs ns G Y ho hd hcd hmg hobj hints hlen hg => ?_
  obtain ⟨K, fd, sp, KX, hb, hsp, hF⟩ := F w mg fa _ Y G.T.g hmg
  exact law_call KX G.T.g G.T.b G.T.builtins G.T.nolimit hg hobj hints (Nat.le_trans hlen hs) hr hF hb (fun H hO hS => hsp H a ns hlen hO hS) fun H e s' ⟨_, _, _, _, _, _, _, _, _, _, _, _, z⟩ => z
section
variable {m : Nm} {Γ : Gam} {Ns : List (Nat × List Str)} {wf n f N : Nat} {l : PySem.W.OpenLaw} {q : Program} {loose : List Str} {XP : (Str → Option Value) → Heap → Prop} {d : DefRec} {x : Str}
abbrev hkP (N : Nat) (P : Program) (m : Nm) (Γ : Gam) : PySem.W.Hook := He.hookX N [] ((topDefs P).map dOf ++ [iniD P]) [] [] (exB m Γ (clsInit P).1)
theorem law_walk (hn : l.most = some 63) (hdf : d.params.defaults = []) (hr : Room (n + 3) callerA) (hf : m.fns.lookup f = some d.name) (hx : ((topDefs l.prog).find? fun s => decide (defNm s = d.name)).map psOf = some [x])
    (hd : defsB m Γ Ns (topDefs l.prog) = true) (hi : iniB (clsInit l.prog).2 = true) (hl : ∀ c, Γ.hc c = (m.cls.lookup c).isSome)
    (run : ∀ ns : List Int, ns.length ≤ 63 → ∃ h', call Γ wf (n + 1) f [.ref 0] [.frl (ns.map W.int)] = some (.ok (.bl true), h')) :
    PySem.W.WalkO q loose XP (hkP N l.prog m Γ).says l.row.toRowW d [] (fun f vs => PySem.call f vs) := by
  refine walk_cx (x := x) hn (by rw [sizeLine_eq]; decide) hdf hr fun w mg fa h Y G hmg => ?_
  obtain ⟨K, KX, S⟩ := Y
  have E : ∀ base, EnvS m Γ l.prog w K mg base (clN K m) := fun base => env_of hd hi hl KX G S.t.d S.more
  have x1 : ∀ q ∈ m.fns, (He.Fa.glo q.2).ok K = true := List.all_eq_true.mp (Bool.and_eq_true_iff.mp S.more).1
  obtain ⟨s, dd, NN, fd, es, D, eN, hB⟩ := def_of hd KX G S.t.d x1 hf
  rw [es] at hx
  have ep : psOf s = [x] := Option.some.inj hx
  have ef : He.ga K d.name = fa := by
    have z := D.glo
    rw [hmg] at z
    injection z with z
    injection z with z
    exact z.symm
  rw [ef] at D
  rw [ep] at hB eN
  have ar1 : dd.ar = 1 := by rw [← D.par, eN]; rfl
  refine ⟨K, fd, spE ⟨clN K m, K, none⟩ (call Γ wf (n + 1)) dd.ar f, KX, fun st u => hB st [u] rfl, fun H a ns hl hO hS => ?_, fun base hK hG => ?_⟩
  · obtain ⟨h', e⟩ := run ns hl
    refine ⟨fun _ => a, [.frl (ns.map W.int)], [.ref 0], rfl, ar1.symm, fun w hw => ?_, ⟨fun i o e => ?_, fun i j o u e1 e2 h1 h2 _ => ?_, fun i o e => ?_⟩, ?_⟩
    · rw [List.mem_singleton.mp hw]; exact Nat.zero_lt_one
    · cases i with
      | zero =>
        cases e
        show Frl K H a ((ns.map W.int).map (tv _ _))
        rw [List.map_map]
        have em : (tv (clN K m) (fun _ => a)) ∘ W.int = V.int := rfl
        show Frl K H a (ns.map ((tv (clN K m) (fun _ => a)) ∘ W.int))
        rw [em]
        rcases hS with (z | ⟨o, z⟩) | z
        · rcases hO a with y | ⟨o, xs, y⟩
          · rw [y] at z; cases z
          · rw [y] at z; cases z
        · exact .inl ⟨o, z⟩
        · exact .inr z
      | succ i => cases e
    · cases i with
      | zero => cases j with
        | zero => rfl
        | succ j => cases e2
      | succ i => cases e1
    · cases i with
      | zero =>
        cases e
        intro w hw
        obtain ⟨z, _, rfl⟩ := List.mem_map.mp hw
        trivial
      | succ i => cases e
    · rw [e]
      intro m' H' _ _ _
      rfl
  · have E1 := def_ok D (env_all (wf := wf) (E base) n)
    rw [eN] at E1
    exact E1
end
end Mp
set_option Elab.async false
set_option linter.all false
set_option maxRecDepth 100000
/-! Mp T: the evaluator by named continuations: rules for simp that open nothing ahead of its turn. -/
namespace Mp
section
variable (Γ : Gam) (k : Calls) (wf : Nat) (ρ : Env)
def varF (h : Hq) : Option (Option W) → M W
  | some (some v) => ret v h
  | _ => none
def globF (h : Hq) : Option W → M W
  | some v => ret v h
  | none => none
def kBin1 (o : BOp) (b : E) (x : W) (h : Hq) : M W := bnd (evE Γ k b ρ h) (binV o x)
def kNeg (x : W) (h : Hq) : M W := match x with
  | .int i => ret (.int (-i)) h
  | _ => none
def kCmp2 (o : COp) (x y : W) (h : Hq) : M W := optB (cmpV o x y h) h
def kCmp1 (o : COp) (b : E) (x : W) (h : Hq) : M W := bnd (evE Γ k b ρ h) (kCmp2 o x)
def kIsN (s : Bool) (x : W) (h : Hq) : M W := ret (.bl (s == decide (x = .non))) h
def kChn3 (p : COp) (c : E) (y : W) (t : Bool) (h : Hq) : M W := if t = true then bnd (evE Γ k c ρ h) (kCmp2 p y) else ret (.bl false) h
def kChn2 (o p : COp) (c : E) (x y : W) (h : Hq) : M W := bnd (optT (cmpV o x y h) h) (kChn3 Γ k ρ p c y)
def kChn1 (o p : COp) (b c : E) (x : W) (h : Hq) : M W := bnd (evE Γ k b ρ h) (kChn2 Γ k ρ o p c x)
def kNot (x : W) (h : Hq) : M W := match x with
  | .bl b => ret (.bl (!b)) h
  | _ => none
def kAnd (b : E) (x : W) (h : Hq) : M W := match x with
  | .bl true => evE Γ k b ρ h
  | .bl false => ret (.bl false) h
  | _ => none
def kOr (b : E) (x : W) (h : Hq) : M W := match x with
  | .bl true => ret (.bl true) h
  | .bl false => evE Γ k b ρ h
  | _ => none
def kIte (a b : E) (t : Bool) (h : Hq) : M W := if t = true then evE Γ k a ρ h else evE Γ k b ρ h
def mthF : Bool → M W → M W
  | true, r => r
  | false, _ => none
def kMth (m : Mt) (es : Es) (x : W) (h : Hq) : M W := mthF (mthPre m x h) (bnd (evEs Γ k es ρ h) (mthV m x))
def kLrg (a : E) (x : W) (h : Hq) : M W := bnd (evE Γ k a ρ h) (lrgV x)
def kIx (i : E) (x : W) (h : Hq) : M W := bnd (evE Γ k i ρ h) (ixV x)
def kCut2 (hi : Op) (x : W) (l : Option Int) (h : Hq) : M W := bnd (evO Γ k hi ρ h) (cutW x l)
def kCut1 (lo hi : Op) (x : W) (h : Hq) : M W := bnd (evO Γ k lo ρ h) (kCut2 Γ k ρ hi x)
def kTup (vs : List W) (h : Hq) : M W := if vs.length ≤ line then alloc (.tup vs) h else none
def kLst (vs : List W) (h : Hq) : M W := if vs.length ≤ line then alloc (.lst vs) h else none
def Ct (c : Op) (x : Nat) (v : W) (h : Hq) : M Bool := evC Γ k c (ρ.set x (some v)) h
def Ce (el : E) (x : Nat) (v : W) (h : Hq) : M W := evE Γ k el (ρ.set x (some v)) h
def compF (D : Nat) : Option Hq → M W
  | some h' => ret (.ref D) h'
  | none => none
def kComp (x : Nat) (c : Op) (el : E) (w : Wk) (h : Hq) : M W := compF h.length (compL w.1 h.length (Ct Γ k ρ c x) (Ce Γ k ρ el x) w.2 (h ++ [.lst []]))
def kNotT (b : Bool) (h : Hq) : M Bool := ret (!b) h
def kAndT (b : E) (t : Bool) (h : Hq) : M Bool := if t = true then evT Γ k b ρ h else ret false h
def kOrT (b : E) (t : Bool) (h : Hq) : M Bool := if t = true then ret true h else evT Γ k b ρ h
def kCmpT2 (o : COp) (x y : W) (h : Hq) : M Bool := optT (cmpV o x y h) h
def kCmpT1 (o : COp) (b : E) (x : W) (h : Hq) : M Bool := bnd (evE Γ k b ρ h) (kCmpT2 o x)
def kIsNT (s : Bool) (x : W) (h : Hq) : M Bool := ret (s == decide (x = .non)) h
def kChnT3 (p : COp) (c : E) (y : W) (t : Bool) (h : Hq) : M Bool := if t = true then bnd (evE Γ k c ρ h) (kCmpT2 p y) else ret false h
def kChnT2 (o p : COp) (c : E) (x y : W) (h : Hq) : M Bool := bnd (optT (cmpV o x y h) h) (kChnT3 Γ k ρ p c y)
def kChnT1 (o p : COp) (b c : E) (x : W) (h : Hq) : M Bool := bnd (evE Γ k b ρ h) (kChnT2 Γ k ρ o p c x)
def varT (h : Hq) : Option (Option W) → M Bool
  | some (some v) => optT (truV h v) h
  | _ => none
def kTru (x : W) (h : Hq) : M Bool := optT (truV h x) h
def kCallT (f : Nat) (vs : List W) (h : Hq) : M Bool := bnd (k f vs h) kTru
def kFnT (b : Fn) (vs : List W) (h : Hq) : M Bool := bnd (fnV Γ b vs h) kTru
def kIxT2 (x y : W) (h : Hq) : M Bool := bnd (ixV x y h) kTru
def kIxT (i : E) (x : W) (h : Hq) : M Bool := bnd (evE Γ k i ρ h) (kIxT2 x)
def kEs2 (v : W) (vs : List W) (h : Hq) : M (List W) := ret (v :: vs) h
def kEs1 (es : Es) (v : W) (h : Hq) : M (List W) := bnd (evEs Γ k es ρ h) (kEs2 v)
def kO (v : W) (h : Hq) : M (Option Int) := match v with
  | .int i => ret (some i) h
  | _ => none
def rngF : Bool → List W → Hq → M Wk
  | true, xs, h => ret (none, xs) h
  | false, _, _ => none
def kRng (v : W) (h : Hq) : M Wk := match v with
  | .int j => rngF (rngOk j) (rngL 0 j) h
  | _ => none
def kRng22 (v w : W) (h : Hq) : M Wk := match v, w with
  | .int i, .int j => rngF (rngOk i && rngOk j) (rngL i j) h
  | _, _ => none
def kRng2 (b : E) (v : W) (h : Hq) : M Wk := bnd (evE Γ k b ρ h) (kRng22 v)
def kAsg (i : Nat) (v : W) (h : Hq) : RS := some (.nx (ρ.set i (some v)), h)
def unpF (is : List Nat) (h : Hq) : Option (List W) → RS
  | some xs => (match setAll is xs ρ with
    | some ρ' => some (.nx ρ', h)
    | none => none)
  | none => none
def kUnp (is : List Nat) (v : W) (h : Hq) : RS := unpF ρ is h (tupOf h v)
def stoF : Option Hq → RS
  | some h' => some (.nx ρ, h')
  | none => none
def kSto3 (v x y : W) (h : Hq) : RS := stoF ρ (setV x y v h)
def kSto2 (i : E) (v x : W) (h : Hq) : RS := lft (evE Γ k i ρ h) ρ (kSto3 ρ v x)
def kSto1 (o i : E) (v : W) (h : Hq) : RS := lft (evE Γ k o ρ h) ρ (kSto2 Γ k ρ i v)
def kAug1 (i : Nat) (o : BOp) (x y : W) (h : Hq) : RS := lft (augV o x y h) ρ (kAsg ρ i)
def augF (i : Nat) (o : BOp) (e : E) (h : Hq) : Option (Option W) → RS
  | some (some x) => lft (evE Γ k e ρ h) ρ (kAug1 ρ i o x)
  | _ => none
def kExp (_ : W) (h : Hq) : RS := some (.nx ρ, h)
def kIf (a b : Ss) (t : Bool) (h : Hq) : RS := if t = true then exSs Γ wf k a ρ h else exSs Γ wf k b ρ h
def Bd (b : Ss) (ρ : Env) (h : Hq) : RS := exSs Γ wf k b ρ h
def Tt (c : E) (ρ : Env) (h : Hq) : M Bool := evT Γ k c ρ h
def kFor (t : Nat) (b : Ss) (w : Wk) (h : Hq) : RS := forL w.1 t (Bd Γ k wf b) w.2 ρ h
def kRet (v : W) (h : Hq) : RS := some (.ret v, h)
def kRse (c : Nat) (v : W) (h : Hq) : RS := some (.exc c v ρ, h)
def tryE (i : Nat) : RS → RS
  | some (.nx ρ2, h2) => some (.nx (ρ2.set i none), h2.map killX)
  | some (.ret v, h2) => some (.ret v, h2.map killX)
  | _ => none
def tryF (c i : Nat) (hb : Ss) : RS → RS
  | some (.exc c' w ρ', h') => if (Γ.hc c' && Γ.exc c') = true then (if Γ.sub c' c = true then tryE i (exSs Γ wf k hb (ρ'.set i (some (.ref h'.length))) (h' ++ [.exc c' w])) else some (.exc c' w ρ', h')) else none
  | r => r
def kSs (r : Ss) (ρ : Env) (h : Hq) : RS := exSs Γ wf k r ρ h
end
section
variable {Γ : Gam} {k : Calls} {wf : Nat} {ρ : Env} {h : Hq}
/-! ### what fires -/
@[simp] theorem varF_some (v : W) : varF h (some (some v)) = ret v h := rfl
@[simp] theorem globF_some (v : W) : globF h (some v) = ret v h := rfl
@[simp] theorem kBin1_ap (o : BOp) (b : E) (x : W) : kBin1 Γ k ρ o b x h = bnd (evE Γ k b ρ h) (binV o x) := rfl
@[simp] theorem kNeg_ap (i : Int) : kNeg (.int i) h = ret (.int (-i)) h := rfl
@[simp] theorem kCmp2_ap (o : COp) (x y : W) : kCmp2 o x y h = optB (cmpV o x y h) h := rfl
@[simp] theorem kCmp1_ap (o : COp) (b : E) (x : W) : kCmp1 Γ k ρ o b x h = bnd (evE Γ k b ρ h) (kCmp2 o x) := rfl
@[simp] theorem kIsN_ap (s : Bool) (x : W) : kIsN s x h = ret (.bl (s == decide (x = .non))) h := rfl
@[simp] theorem kChn3_t (p : COp) (c : E) (y : W) : kChn3 Γ k ρ p c y true h = bnd (evE Γ k c ρ h) (kCmp2 p y) := rfl
@[simp] theorem kChn3_f (p : COp) (c : E) (y : W) : kChn3 Γ k ρ p c y false h = ret (.bl false) h := rfl
@[simp] theorem kChn2_ap (o p : COp) (c : E) (x y : W) : kChn2 Γ k ρ o p c x y h = bnd (optT (cmpV o x y h) h) (kChn3 Γ k ρ p c y) := rfl
@[simp] theorem kChn1_ap (o p : COp) (b c : E) (x : W) : kChn1 Γ k ρ o p b c x h = bnd (evE Γ k b ρ h) (kChn2 Γ k ρ o p c x) := rfl
@[simp] theorem kNot_ap (b : Bool) : kNot (.bl b) h = ret (.bl (!b)) h := rfl
@[simp] theorem kAnd_t (b : E) : kAnd Γ k ρ b (.bl true) h = evE Γ k b ρ h := rfl
@[simp] theorem kAnd_f (b : E) : kAnd Γ k ρ b (.bl false) h = ret (.bl false) h := rfl
@[simp] theorem kOr_t (b : E) : kOr Γ k ρ b (.bl true) h = ret (.bl true) h := rfl
@[simp] theorem kOr_f (b : E) : kOr Γ k ρ b (.bl false) h = evE Γ k b ρ h := rfl
@[simp] theorem kIte_t (a b : E) : kIte Γ k ρ a b true h = evE Γ k a ρ h := rfl
@[simp] theorem kIte_f (a b : E) : kIte Γ k ρ a b false h = evE Γ k b ρ h := rfl
@[simp] theorem mthF_t (r : M W) : mthF true r = r := rfl
@[simp] theorem kMth_ap (m : Mt) (es : Es) (x : W) : kMth Γ k ρ m es x h = mthF (mthPre m x h) (bnd (evEs Γ k es ρ h) (mthV m x)) := rfl
@[simp] theorem kIx_ap (i : E) (x : W) : kIx Γ k ρ i x h = bnd (evE Γ k i ρ h) (ixV x) := rfl
@[simp] theorem kCut2_ap (hi : Op) (x : W) (l : Option Int) : kCut2 Γ k ρ hi x l h = bnd (evO Γ k hi ρ h) (cutW x l) := rfl
@[simp] theorem kCut1_ap (lo hi : Op) (x : W) : kCut1 Γ k ρ lo hi x h = bnd (evO Γ k lo ρ h) (kCut2 Γ k ρ hi x) := rfl
@[simp] theorem compF_some (D : Nat) (h' : Hq) : compF D (some h') = ret (.ref D) h' := rfl
@[simp] theorem kComp_ap (x : Nat) (c : Op) (el : E) (w : Wk) : kComp Γ k ρ x c el w h = compF h.length (compL w.1 h.length (Ct Γ k ρ c x) (Ce Γ k ρ el x) w.2 (h ++ [.lst []])) := rfl
@[simp] theorem kNotT_ap (b : Bool) : kNotT b h = ret (!b) h := rfl
@[simp] theorem kAndT_t (b : E) : kAndT Γ k ρ b true h = evT Γ k b ρ h := rfl
@[simp] theorem kAndT_f (b : E) : kAndT Γ k ρ b false h = ret false h := rfl
@[simp] theorem kOrT_t (b : E) : kOrT Γ k ρ b true h = ret true h := rfl
@[simp] theorem kOrT_f (b : E) : kOrT Γ k ρ b false h = evT Γ k b ρ h := rfl
@[simp] theorem kCmpT2_ap (o : COp) (x y : W) : kCmpT2 o x y h = optT (cmpV o x y h) h := rfl
@[simp] theorem kCmpT1_ap (o : COp) (b : E) (x : W) : kCmpT1 Γ k ρ o b x h = bnd (evE Γ k b ρ h) (kCmpT2 o x) := rfl
@[simp] theorem kIsNT_ap (s : Bool) (x : W) : kIsNT s x h = ret (s == decide (x = .non)) h := rfl
@[simp] theorem kChnT3_t (p : COp) (c : E) (y : W) : kChnT3 Γ k ρ p c y true h = bnd (evE Γ k c ρ h) (kCmpT2 p y) := rfl
@[simp] theorem kChnT3_f (p : COp) (c : E) (y : W) : kChnT3 Γ k ρ p c y false h = ret false h := rfl
@[simp] theorem kChnT2_ap (o p : COp) (c : E) (x y : W) : kChnT2 Γ k ρ o p c x y h = bnd (optT (cmpV o x y h) h) (kChnT3 Γ k ρ p c y) := rfl
@[simp] theorem kChnT1_ap (o p : COp) (b c : E) (x : W) : kChnT1 Γ k ρ o p b c x h = bnd (evE Γ k b ρ h) (kChnT2 Γ k ρ o p c x) := rfl
@[simp] theorem varT_some (v : W) : varT h (some (some v)) = optT (truV h v) h := rfl
@[simp] theorem kTru_ap (x : W) : kTru x h = optT (truV h x) h := rfl
@[simp] theorem kCallT_ap (f : Nat) (vs : List W) : kCallT k f vs h = bnd (k f vs h) kTru := rfl
@[simp] theorem kFnT_ap (b : Fn) (vs : List W) : kFnT Γ b vs h = bnd (fnV Γ b vs h) kTru := rfl
@[simp] theorem kIxT2_ap (x y : W) : kIxT2 x y h = bnd (ixV x y h) kTru := rfl
@[simp] theorem kIxT_ap (i : E) (x : W) : kIxT Γ k ρ i x h = bnd (evE Γ k i ρ h) (kIxT2 x) := rfl
@[simp] theorem kEs2_ap (v : W) (vs : List W) : kEs2 v vs h = ret (v :: vs) h := rfl
@[simp] theorem kEs1_ap (es : Es) (v : W) : kEs1 Γ k ρ es v h = bnd (evEs Γ k es ρ h) (kEs2 v) := rfl
@[simp] theorem kO_ap (i : Int) : kO (.int i) h = ret (some i) h := rfl
@[simp] theorem rngF_t (xs : List W) : rngF true xs h = ret (none, xs) h := rfl
@[simp] theorem kRng_ap (j : Int) : kRng (.int j) h = rngF (rngOk j) (rngL 0 j) h := rfl
@[simp] theorem kRng22_ap (i j : Int) : kRng22 (.int i) (.int j) h = rngF (rngOk i && rngOk j) (rngL i j) h := rfl
@[simp] theorem kRng2_ap (b : E) (v : W) : kRng2 Γ k ρ b v h = bnd (evE Γ k b ρ h) (kRng22 v) := rfl
@[simp] theorem kAsg_ap (i : Nat) (v : W) : kAsg ρ i v h = some (.nx (ρ.set i (some v)), h) := rfl
@[simp] theorem kUnp_ap (is : List Nat) (v : W) : kUnp ρ is v h = unpF ρ is h (tupOf h v) := rfl
@[simp] theorem unpF_some (is : List Nat) (xs : List W) : unpF ρ is h (some xs) = (match setAll is xs ρ with | some ρ' => some (.nx ρ', h) | none => none) := rfl
@[simp] theorem stoF_some (h' : Hq) : stoF ρ (some h') = some (.nx ρ, h') := rfl
@[simp] theorem kSto3_ap (v x y : W) : kSto3 ρ v x y h = stoF ρ (setV x y v h) := rfl
@[simp] theorem kSto2_ap (i : E) (v x : W) : kSto2 Γ k ρ i v x h = lft (evE Γ k i ρ h) ρ (kSto3 ρ v x) := rfl
@[simp] theorem kSto1_ap (o i : E) (v : W) : kSto1 Γ k ρ o i v h = lft (evE Γ k o ρ h) ρ (kSto2 Γ k ρ i v) := rfl
@[simp] theorem kAug1_ap (i : Nat) (o : BOp) (x y : W) : kAug1 ρ i o x y h = lft (augV o x y h) ρ (kAsg ρ i) := rfl
@[simp] theorem augF_some (i : Nat) (o : BOp) (e : E) (x : W) : augF Γ k ρ i o e h (some (some x)) = lft (evE Γ k e ρ h) ρ (kAug1 ρ i o x) := rfl
@[simp] theorem kExp_ap (v : W) : kExp ρ v h = some (.nx ρ, h) := rfl
@[simp] theorem kIf_t (a b : Ss) : kIf Γ k wf ρ a b true h = exSs Γ wf k a ρ h := rfl
@[simp] theorem kIf_f (a b : Ss) : kIf Γ k wf ρ a b false h = exSs Γ wf k b ρ h := rfl
theorem Bd_ap (b : Ss) : Bd Γ k wf b ρ h = exSs Γ wf k b ρ h := rfl
theorem Tt_ap (c : E) : Tt Γ k c ρ h = evT Γ k c ρ h := rfl
theorem Ct_ap (c : Op) (x : Nat) (v : W) : Ct Γ k ρ c x v h = evC Γ k c (ρ.set x (some v)) h := rfl
theorem Ce_ap (el : E) (x : Nat) (v : W) : Ce Γ k ρ el x v h = evE Γ k el (ρ.set x (some v)) h := rfl
@[simp] theorem kFor_ap (t : Nat) (b : Ss) (w : Wk) : kFor Γ k wf ρ t b w h = forL w.1 t (Bd Γ k wf b) w.2 ρ h := rfl
@[simp] theorem kRet_ap (v : W) : kRet v h = some (.ret v, h) := rfl
@[simp] theorem kRse_ap (c : Nat) (v : W) : kRse ρ c v h = some (.exc c v ρ, h) := rfl
@[simp] theorem tryE_nx (i : Nat) : tryE i (some (.nx ρ, h)) = some (.nx (ρ.set i none), h.map killX) := rfl
@[simp] theorem tryE_ret (i : Nat) (v : W) : tryE i (some (.ret v, h)) = some (.ret v, h.map killX) := rfl
@[simp] theorem tryF_nx (c i : Nat) (hb : Ss) : tryF Γ k wf c i hb (some (.nx ρ, h)) = some (.nx ρ, h) := rfl
@[simp] theorem tryF_ret (c i : Nat) (hb : Ss) (v : W) : tryF Γ k wf c i hb (some (.ret v, h)) = some (.ret v, h) := rfl
theorem tryF_exc {c i c' : Nat} {hb : Ss} {w : W} (h1 : (Γ.hc c' && Γ.exc c') = true) (h2 : Γ.sub c' c = true) : tryF Γ k wf c i hb (some (.exc c' w ρ, h)) = tryE i (exSs Γ wf k hb (ρ.set i (some (.ref h.length))) (h ++ [.exc c' w])) := by
  unfold tryF
  dsimp only
  rw [if_pos h1, if_pos h2]
@[simp] theorem kSs_ap (r : Ss) : kSs Γ k wf r ρ h = exSs Γ wf k r ρ h := rfl
/-! ### the constructs -/
@[simp] theorem evE_var (i : Nat) : evE Γ k (.var i) ρ h = varF h ρ[i]? := by rw [evE]; rfl
@[simp] theorem evE_cst (w : W) : evE Γ k (.cst w) ρ h = ret w h := by rw [evE]
@[simp] theorem evE_glob (g : Nat) : evE Γ k (.glob g) ρ h = globF h (Γ.glob g) := by rw [evE]; rfl
@[simp] theorem evE_ty (n : String) : evE Γ k (.ty n) ρ h = ret (.ty n) h := by rw [evE]
@[simp] theorem evE_cls (c : Nat) : evE Γ k (.cls c) ρ h = ret (.cls c) h := by rw [evE]
@[simp] theorem evE_bin (o : BOp) (a b : E) : evE Γ k (.bin o a b) ρ h = bnd (evE Γ k a ρ h) (kBin1 Γ k ρ o b) := by rw [evE]; rfl
@[simp] theorem evE_neg (a : E) : evE Γ k (.neg a) ρ h = bnd (evE Γ k a ρ h) kNeg := by rw [evE]; rfl
@[simp] theorem evE_cmp (o : COp) (a b : E) : evE Γ k (.cmp o a b) ρ h = bnd (evE Γ k a ρ h) (kCmp1 Γ k ρ o b) := by rw [evE]; rfl
@[simp] theorem evE_isN (s : Bool) (a : E) : evE Γ k (.isN s a) ρ h = bnd (evE Γ k a ρ h) (kIsN s) := by rw [evE]; rfl
@[simp] theorem evE_chn (o p : COp) (a b c : E) : evE Γ k (.chn o p a b c) ρ h = bnd (evE Γ k a ρ h) (kChn1 Γ k ρ o p b c) := by rw [evE]; rfl
@[simp] theorem evE_not (a : E) : evE Γ k (.not a) ρ h = bnd (evE Γ k a ρ h) kNot := by rw [evE]; rfl
@[simp] theorem evE_and (a b : E) : evE Γ k (.and a b) ρ h = bnd (evE Γ k a ρ h) (kAnd Γ k ρ b) := by rw [evE]; rfl
@[simp] theorem evE_or (a b : E) : evE Γ k (.or a b) ρ h = bnd (evE Γ k a ρ h) (kOr Γ k ρ b) := by rw [evE]; rfl
@[simp] theorem evE_ite (c a b : E) : evE Γ k (.ite c a b) ρ h = bnd (evT Γ k c ρ h) (kIte Γ k ρ a b) := by rw [evE]; rfl
@[simp] theorem evE_call (f : Nat) (es : Es) : evE Γ k (.call f es) ρ h = bnd (evEs Γ k es ρ h) (k f) := by rw [evE]
@[simp] theorem evE_fn (b : Fn) (es : Es) : evE Γ k (.fn b es) ρ h = bnd (evEs Γ k es ρ h) (fnV Γ b) := by rw [evE]
@[simp] theorem evE_mth (m : Mt) (o : E) (es : Es) : evE Γ k (.mth m o es) ρ h = bnd (evE Γ k o ρ h) (kMth Γ k ρ m es) := by
  rw [evE]
  congr 1
  funext x h
  unfold kMth
  cases mthPre m x h <;> rfl
@[simp] theorem evE_attr (f : PySem.Str) (o : E) : evE Γ k (.attr f o) ρ h = bnd (evE Γ k o ρ h) (attrV Γ f) := by rw [evE]
@[simp] theorem evE_lrg (a : E) : evE Γ k (.lrg a) ρ h = bnd (evE Γ k a ρ h) (lrgV (.int 0)) := by rw [evE]
@[simp] theorem evE_ix (a i : E) : evE Γ k (.ix a i) ρ h = bnd (evE Γ k a ρ h) (kIx Γ k ρ i) := by rw [evE]; rfl
@[simp] theorem evE_cut (a : E) (lo hi : Op) : evE Γ k (.cut a lo hi) ρ h = bnd (evE Γ k a ρ h) (kCut1 Γ k ρ lo hi) := by rw [evE]; rfl
@[simp] theorem evE_tup (es : Es) : evE Γ k (.tup es) ρ h = bnd (evEs Γ k es ρ h) kTup := by rw [evE]; rfl
@[simp] theorem evE_lst (es : Es) : evE Γ k (.lst es) ρ h = bnd (evEs Γ k es ρ h) kLst := by rw [evE]; rfl
@[simp] theorem evE_comp (x : Nat) (s : Src) (c : Op) (el : E) : evE Γ k (.comp x s c el) ρ h = bnd (evS Γ k s ρ h) (kComp Γ k ρ x c el) := by
  rw [evE]
  congr 1
@[simp] theorem evT_not (a : E) : evT Γ k (.not a) ρ h = bnd (evT Γ k a ρ h) kNotT := by rw [evT]; rfl
@[simp] theorem evT_and (a b : E) : evT Γ k (.and a b) ρ h = bnd (evT Γ k a ρ h) (kAndT Γ k ρ b) := by rw [evT]; rfl
@[simp] theorem evT_or (a b : E) : evT Γ k (.or a b) ρ h = bnd (evT Γ k a ρ h) (kOrT Γ k ρ b) := by rw [evT]; rfl
@[simp] theorem evT_cmp (o : COp) (a b : E) : evT Γ k (.cmp o a b) ρ h = bnd (evE Γ k a ρ h) (kCmpT1 Γ k ρ o b) := by rw [evT]; rfl
@[simp] theorem evT_isN (s : Bool) (a : E) : evT Γ k (.isN s a) ρ h = bnd (evE Γ k a ρ h) (kIsNT s) := by rw [evT]; rfl
@[simp] theorem evT_chn (o p : COp) (a b c : E) : evT Γ k (.chn o p a b c) ρ h = bnd (evE Γ k a ρ h) (kChnT1 Γ k ρ o p b c) := by rw [evT]; rfl
@[simp] theorem evT_var (i : Nat) : evT Γ k (.var i) ρ h = varT h ρ[i]? := by rw [evT]; rfl
@[simp] theorem evT_call (f : Nat) (es : Es) : evT Γ k (.call f es) ρ h = bnd (evEs Γ k es ρ h) (kCallT k f) := by rw [evT]; rfl
@[simp] theorem evT_fn (b : Fn) (es : Es) : evT Γ k (.fn b es) ρ h = bnd (evEs Γ k es ρ h) (kFnT Γ b) := by rw [evT]; rfl
@[simp] theorem evT_ix (a i : E) : evT Γ k (.ix a i) ρ h = bnd (evE Γ k a ρ h) (kIxT Γ k ρ i) := by rw [evT]; rfl
@[simp] theorem evEs_nil : evEs Γ k .nil ρ h = ret [] h := by rw [evEs]
@[simp] theorem evEs_cons (e : E) (es : Es) : evEs Γ k (.cons e es) ρ h = bnd (evE Γ k e ρ h) (kEs1 Γ k ρ es) := by rw [evEs]; rfl
@[simp] theorem evO_no : evO Γ k .no ρ h = ret none h := by rw [evO]
@[simp] theorem evO_yes (e : E) : evO Γ k (.yes e) ρ h = bnd (evE Γ k e ρ h) kO := by rw [evO]; rfl
@[simp] theorem evC_no : evC Γ k .no ρ h = ret true h := by rw [evC]
@[simp] theorem evC_yes (e : E) : evC Γ k (.yes e) ρ h = evT Γ k e ρ h := by rw [evC]
@[simp] theorem evS_any (e : E) : evS Γ k (.any e) ρ h = bnd (evE Γ k e ρ h) walkOf := by rw [evS]
@[simp] theorem evS_rng (e : E) : evS Γ k (.rng e) ρ h = bnd (evE Γ k e ρ h) kRng := by
  rw [evS]
  congr 1
  funext v h
  cases v with
  | int j => unfold kRng; dsimp only; cases rngOk j <;> rfl
  | _ => rfl
@[simp] theorem evS_rng2 (a b : E) : evS Γ k (.rng2 a b) ρ h = bnd (evE Γ k a ρ h) (kRng2 Γ k ρ b) := by
  rw [evS]
  congr 1
  funext v h
  unfold kRng2
  congr 1
  funext w h
  cases v with
  | int i => cases w with
    | int j => unfold kRng22; dsimp only; cases (rngOk i && rngOk j) <;> rfl
    | _ => rfl
  | _ => rfl
@[simp] theorem exS_asg (i : Nat) (e : E) : exS Γ wf k (.asg i e) ρ h = lft (evE Γ k e ρ h) ρ (kAsg ρ i) := by rw [exS]; rfl
@[simp] theorem exS_asc (i : Nat) (e : E) : exS Γ wf k (.asc i e) ρ h = lft (evE Γ k e ρ h) ρ (kAsg ρ i) := by rw [exS]; rfl
@[simp] theorem exS_unp (is : List Nat) (e : E) : exS Γ wf k (.unp is e) ρ h = lft (evE Γ k e ρ h) ρ (kUnp ρ is) := by
  rw [exS]
  congr 1
@[simp] theorem exS_sto (o i e : E) : exS Γ wf k (.sto o i e) ρ h = lft (evE Γ k e ρ h) ρ (kSto1 Γ k ρ o i) := by
  rw [exS]
  congr 1
@[simp] theorem exS_aug (i : Nat) (o : BOp) (e : E) : exS Γ wf k (.aug i o e) ρ h = augF Γ k ρ i o e h ρ[i]? := by rw [exS]; rfl
@[simp] theorem exS_exp (e : E) : exS Γ wf k (.exp e) ρ h = lft (evE Γ k e ρ h) ρ (kExp ρ) := by rw [exS]; rfl
@[simp] theorem exS_ite (c : E) (a b : Ss) : exS Γ wf k (.ite c a b) ρ h = lft (evT Γ k c ρ h) ρ (kIf Γ k wf ρ a b) := by rw [exS]; rfl
@[simp] theorem exS_whl (c : E) (b : Ss) : exS Γ wf k (.whl c b) ρ h = whileL (Tt Γ k c) (Bd Γ k wf b) wf ρ h := by rw [exS]; rfl
@[simp] theorem exS_for (t : Nat) (s : Src) (b : Ss) : exS Γ wf k (.for t s b) ρ h = lft (evS Γ k s ρ h) ρ (kFor Γ k wf ρ t b) := by rw [exS]; rfl
@[simp] theorem exS_ret (e : E) : exS Γ wf k (.ret e) ρ h = lft (evE Γ k e ρ h) ρ kRet := by rw [exS]; rfl
@[simp] theorem exS_ret0 : exS Γ wf k .ret0 ρ h = some (.ret .non, h) := by rw [exS]
@[simp] theorem exS_rse (c : Nat) (e : E) : exS Γ wf k (.rse c e) ρ h = lft (evE Γ k e ρ h) ρ (kRse ρ c) := by rw [exS]; rfl
@[simp] theorem exS_try (b : Ss) (c i : Nat) (hb : Ss) : exS Γ wf k (.try b c i hb) ρ h = tryF Γ k wf c i hb (exSs Γ wf k b ρ h) := by
  rw [exS]
  unfold tryF
  cases exSs Γ wf k b ρ h with
  | none => rfl
  | some r =>
    obtain ⟨f, h'⟩ := r
    cases f with
    | exc c' w ρ' =>
      dsimp only
      split
      · split
        · unfold tryE
          split <;> simp_all
        · rfl
      · rfl
    | _ => rfl
@[simp] theorem exS_brk : exS Γ wf k .brk ρ h = some (.brk ρ, h) := by rw [exS]
@[simp] theorem exS_cnt : exS Γ wf k .cnt ρ h = some (.ct ρ, h) := by rw [exS]
@[simp] theorem exS_pas : exS Γ wf k .pas ρ h = some (.nx ρ, h) := by rw [exS]
@[simp] theorem exSs_nil : exSs Γ wf k .nil ρ h = some (.nx ρ, h) := by rw [exSs]
@[simp] theorem exSs_cons (s : S) (r : Ss) : exSs Γ wf k (.cons s r) ρ h = sq (exS Γ wf k s ρ h) (kSs Γ k wf r) := by rw [exSs]; rfl
end
end Mp
set_option Elab.async false
set_option linter.all false
set_option maxRecDepth 100000
set_option maxHeartbeats 400000
/-! Mp U: values' rules for simp, calls, loops. -/
namespace Mp
open PySem
section
variable {Γ : Gam} {k : Calls} {wf : Nat} {ρ : Env} {h : Hq}
theorem lg {i : Int} {k : Nat} (h : i.natAbs < 2 ^ k) : i.natAbs.log2 ≤ k := by
  by_cases z : i.natAbs = 0
  · rw [z]; simp
  · exact Nat.le_of_lt ((Nat.log2_lt z).mpr h)
@[simp] theorem binV_add (x y : W) : binV .add x y h = addV x y h := rfl
@[simp] theorem binV_sub (x y : W) : binV .sub x y h = subV x y h := rfl
@[simp] theorem binV_mul (x y : W) : binV .mul x y h = mulV x y h := rfl
@[simp] theorem binV_fdiv (x y : W) : binV .fdiv x y h = fdivV x y h := rfl
@[simp] theorem binV_mod (x y : W) : binV .mod x y h = modV x y h := rfl
@[simp] theorem binV_pow (x y : W) : binV .pow x y h = powV x y h := rfl
@[simp] theorem addV_int (i j : Int) : addV (.int i) (.int j) h = ret (.int (i + j)) h := rfl
@[simp] theorem subV_int (i j : Int) : subV (.int i) (.int j) h = ret (.int (i - j)) h := rfl
theorem mul_ok {i j : Int} (b : i.natAbs.log2 + j.natAbs.log2 < 1000000) : mulV (.int i) (.int j) h = ret (.int (i * j)) h := if_pos b
theorem mod_ok {i j : Int} (b : 0 < j) : modV (.int i) (.int j) h = ret (.int (i % j)) h := if_pos b
theorem fdiv_ok {i j : Int} (b : 0 < j) (c : j.natAbs.log2 < 9000) : fdivV (.int i) (.int j) h = ret (.int (i / j)) h := if_pos ⟨b, c⟩
theorem pow_ok {i n : Int} (b : 0 ≤ n) (c : (Builtin.Int.intBits i : Int) * n ≤ 134217728) : powV (.int i) (.int n) h = ret (.int (i ^ n.toNat)) h := if_pos ⟨b, c⟩
@[simp] theorem fnV_int (i : Int) : fnV Γ .int [.int i] h = ret (.int i) h := rfl
@[simp] theorem fnV_abs (i : Int) : fnV Γ .abs [.int i] h = ret (.int (if i < 0 then -i else i)) h := rfl
@[simp] theorem fnV_min (i j : Int) : fnV Γ .min [.int i, .int j] h = ret (.int (if j < i then j else i)) h := rfl
@[simp] theorem fnV_max (i j : Int) : fnV Γ .max [.int i, .int j] h = ret (.int (if j > i then j else i)) h := rfl
@[simp] theorem pow61 : powV (.int 2) (.int 61) h = ret (.int 2305843009213693952) h := rfl
theorem call_s {n f : Nat} {us : List W} {d : FnD} (hf : Γ.fn f = some d) (hl : us.length = d.ar) : call Γ wf (n + 1) f us h = endF (exSs Γ wf (call Γ wf n) d.body (start d.n us) h) := by
  unfold call
  rw [hf]
  exact if_pos hl
@[simp] theorem endF_ret (v : W) : endF (some (.ret v, h)) = some (.ok v, h) := rfl
@[simp] theorem endF_nx : endF (some (.nx ρ, h)) = some (.ok .non, h) := rfl
@[simp] theorem endF_exc (c : Nat) (w : W) : endF (some (.exc c w ρ, h)) = some (.exc c w, h) := rfl
theorem rngL_nil {i j : Int} (b : j ≤ i) : rngL i j = [] := by
  unfold rngL
  rw [show (j - i).toNat = 0 by omega]
  rfl
theorem rngL_cons {i j : Int} (b : i < j) : rngL i j = .int i :: rngL (i + 1) j := by
  unfold rngL
  rw [show (j - i).toNat = (j - (i + 1)).toNat + 1 by omega, List.range_succ_eq_map, List.map_cons, List.map_map]
  refine congr (congrArg List.cons (by simp)) (List.map_congr_left fun x _ => ?_)
  show W.int _ = W.int _
  congr 1
  simp only [Nat.succ_eq_add_one]
  omega
theorem forL_nil {g : Option (Nat × Ob)} {t : Nat} {body : Env → Hq → RS} (s : stays g h = true) : forL g t body [] ρ h = some (.nx ρ, h) := by
  unfold forL
  rw [if_pos s]
@[simp] theorem stays_none : stays none h = true := rfl
end
end Mp
set_option Elab.async false
set_option linter.all false
set_option maxRecDepth 100000
set_option maxHeartbeats 400000
/-! Mp V: what a run's end satisfies; loops by an invariant. -/
namespace Mp
open PySem
/-- a block's end -/
def WF (r : RS) (Q : Fl → Hq → Prop) : Prop := match r with
  | some (f, h) => Q f h
  | none => False
/-- a value's end -/
def WM {α : Type} (r : M α) (Q : Er α → Hq → Prop) : Prop := match r with
  | some (e, h) => Q e h
  | none => False
section
variable {Γ : Gam} {k : Calls} {wf : Nat} {ρ : Env} {h : Hq} {α β : Type}
@[simp] theorem WF_some (f : Fl) (Q : Fl → Hq → Prop) : WF (some (f, h)) Q = Q f h := rfl
@[simp] theorem WM_ret (v : α) (Q : Er α → Hq → Prop) : WM (ret v h) Q = Q (.ok v) h := rfl
@[simp] theorem WM_some (v : Er α) (Q : Er α → Hq → Prop) : WM (some (v, h)) Q = Q v h := rfl
theorem WF.mono {r : RS} {Q Q' : Fl → Hq → Prop} (a : WF r Q) (k : ∀ f h, Q f h → Q' f h) : WF r Q' := by
  match r, a with
  | some (f, h), a => exact k f h a
theorem WM.mono {r : M α} {Q Q' : Er α → Hq → Prop} (a : WM r Q) (k : ∀ f h, Q f h → Q' f h) : WM r Q' := by
  match r, a with
  | some (f, h), a => exact k f h a
theorem WF.ex {r : RS} {Q : Fl → Hq → Prop} (a : WF r Q) : ∃ f h, r = some (f, h) ∧ Q f h := by
  match r, a with
  | some (f, h), a => exact ⟨f, h, rfl, a⟩
/-- one block behind another -/
theorem WF_sq {r : RS} {f : Env → Hq → RS} {Q : Fl → Hq → Prop} (a : WF r fun fl h => match fl with
    | .nx ρ => WF (f ρ h) Q
    | fl => Q fl h) : WF (sq r f) Q := by
  match r, a with
  | some (.nx ρ, h), a => exact a
  | some (.ret v, h), a => exact a
  | some (.brk ρ, h), a => exact a
  | some (.ct ρ, h), a => exact a
  | some (.exc c w ρ, h), a => exact a
theorem WF_lft {r : M α} {f : α → Hq → RS} {Q : Fl → Hq → Prop} (a : WM r fun e h => match e with
    | .ok v => WF (f v h) Q
    | .exc c w => Q (.exc c w ρ) h) : WF (lft r ρ f) Q := by
  match r, a with
  | some (.ok v, h), a => exact a
  | some (.exc c w, h), a => exact a
theorem WM_bnd {r : M α} {f : α → Hq → M β} {Q : Er β → Hq → Prop} (a : WM r fun e h => match e with
    | .ok v => WM (f v h) Q
    | .exc c w => Q (.exc c w) h) : WM (bnd r f) Q := by
  match r, a with
  | some (.ok v, h), a => exact a
  | some (.exc c w, h), a => exact a
theorem WM_endF {r : RS} {Q : Er W → Hq → Prop} (a : WF r fun fl h => match fl with
    | .nx _ => Q (.ok .non) h
    | .ret v => Q (.ok v) h
    | .exc c w _ => Q (.exc c w) h
    | _ => False) : WM (endF r) Q := by
  match r, a with
  | some (.nx ρ, h), a => exact a
  | some (.ret v, h), a => exact a
  | some (.exc c w ρ, h), a => exact a
/-- a for loop: I tells what holds ahead of the items that are left -/
theorem forL_ok {g : Option (Nat × Ob)} {t : Nat} {body : Env → Hq → RS} {I : List W → Env → Hq → Prop} {Q : Fl → Hq → Prop} (hs : ∀ xs ρ h, I xs ρ h → stays g h = true)
    (step : ∀ x xs ρ h, I (x :: xs) ρ h → WF (body (ρ.set t (some x)) h) fun f h' => match f with
      | .nx ρ' => I xs ρ' h'
      | .ct ρ' => I xs ρ' h'
      | .brk ρ' => Q (.nx ρ') h'
      | f => Q f h') (fin : ∀ ρ h, I [] ρ h → Q (.nx ρ) h) : ∀ xs ρ h, I xs ρ h → WF (forL g t body xs ρ h) Q
  | [], ρ, h, i => by
    unfold forL
    rw [if_pos (hs _ _ _ i)]
    exact fin ρ h i
  | x :: xs, ρ, h, i => by
    unfold forL
    rw [if_pos (hs _ _ _ i)]
    obtain ⟨f, h', e, q⟩ := (step x xs ρ h i).ex
    rw [e]
    match f, q with
    | .nx ρ', q => exact forL_ok hs step fin xs ρ' h' q
    | .ct ρ', q => exact forL_ok hs step fin xs ρ' h' q
    | .brk ρ', q => exact q
    | .ret v, q => exact q
    | .exc c w ρ', q => exact q
theorem forL_cons {g : Option (Nat × Ob)} {t : Nat} {body : Env → Hq → RS} {x : W} {xs : List W} {ρ' : Env} {h' : Hq} (hs : stays g h = true) (hb : body (ρ.set t (some x)) h = some (.nx ρ', h')) : forL g t body (x :: xs) ρ h = forL g t body xs ρ' h' := by
  rw [forL, if_pos hs, hb]
theorem forL_ret {g : Option (Nat × Ob)} {t : Nat} {body : Env → Hq → RS} {x : W} {xs : List W} {v : W} {h' : Hq} (hs : stays g h = true) (hb : body (ρ.set t (some x)) h = some (.ret v, h')) : forL g t body (x :: xs) ρ h = some (.ret v, h') := by
  rw [forL, if_pos hs, hb]
theorem walk_lst {a : Nat} {xs : List W} (ha : h[a]? = some (.lst xs)) : walkOf (.ref a) h = ret (some (a, .lst xs), xs) h := by
  unfold walkOf
  dsimp only
  rw [ha]
theorem walk_tup {a : Nat} {xs : List W} (ha : h[a]? = some (.tup xs)) : walkOf (.ref a) h = ret (some (a, .tup xs), xs) h := by
  unfold walkOf
  dsimp only
  rw [ha]
@[simp] theorem walk_str (z : PySem.Str) : walkOf (.str z) h = ret (none, z.cps.toList.map fun c => W.str ⟨#[c]⟩) h := rfl
theorem stays_at {a : Nat} {o : Ob} (ha : h[a]? = some o) : stays (some (a, o)) h = true := decide_eq_true ha
theorem get_new2 (a e : Hq) (o : Ob) : (a ++ (e ++ [o]))[a.length + e.length]? = some o := by
  rw [← List.append_assoc, List.getElem?_append_right (by rw [List.length_append]; exact Nat.le_refl _), List.length_append, Nat.sub_self]
  rfl
theorem get_new1 (a : Hq) (o : Ob) : (a ++ [o])[a.length]? = some o := by
  rw [List.getElem?_append_right (Nat.le_refl _), Nat.sub_self]
  rfl
@[simp] theorem cmp_eq_int (i j : Int) : cmpV .eq (.int i) (.int j) h = some (decide (i = j)) := by
  show eqV (.int i) (.int j) h = _
  unfold eqV
  rw [if_pos (show scalW (.int i) (.int j) = true from rfl)]
  congr 1
  by_cases e : i = j
  · subst e; simp
  · rw [decide_eq_false e]
    exact decide_eq_false fun z => e (by injection z)
@[simp] theorem cmp_lt_int (i j : Int) : cmpV .lt (.int i) (.int j) h = some (decide (i < j)) := rfl
@[simp] theorem cmp_le_int (i j : Int) : cmpV .le (.int i) (.int j) h = some (decide (i ≤ j)) := rfl
@[simp] theorem cmp_gt_int (i j : Int) : cmpV .gt (.int i) (.int j) h = some (decide (j < i)) := rfl
@[simp] theorem cmp_ge_int (i j : Int) : cmpV .ge (.int i) (.int j) h = some (decide (j ≤ i)) := rfl
@[simp] theorem optT_some (b : Bool) : optT (some b) h = ret b h := rfl
@[simp] theorem optB_some (b : Bool) : optB (some b) h = ret (.bl b) h := rfl
end
end Mp
set_option Elab.async false
set_option linter.all false
set_option maxRecDepth 100000
set_option maxHeartbeats 400000
/-! Mp W: texts, lists, comprehensions. -/
namespace Mp
open PySem
section
variable {Γ : Gam} {k : Calls} {wf : Nat} {ρ : Env} {h : Hq}
theorem slen (a b : Str) : (a ++ b).length = a.length + b.length := Str.length_append a b
theorem add_str {a b : Str} (z : a.length + b.length ≤ line) : addV (.str a) (.str b) h = ret (.str (a ++ b)) h := if_pos z
theorem atI_ok {α : Type} {xs : List α} {i : Int} (h0 : 0 ≤ i) (h1 : i < xs.length) : ∃ x, xs[i.toNat]? = some x ∧ L2.atI xs i = some x := by
  have hl : i.toNat < xs.length := by omega
  refine ⟨xs[i.toNat], List.getElem?_eq_getElem hl, ?_⟩
  unfold L2.atI L2.ixN
  rw [if_pos h0, if_pos h1]
  exact List.getElem?_eq_getElem hl
theorem ix_str {z : Str} {i : Int} (hz : z.length ≤ line) (h0 : 0 ≤ i) (h1 : i < z.length) : ∃ c, ixV (.str z) (.int i) h = ret (.str ⟨#[c]⟩) h := by
  obtain ⟨c, _, e⟩ := atI_ok (xs := z.cps.toList) h0 (by rw [Array.length_toList]; exact h1)
  refine ⟨c, ?_⟩
  unfold ixV
  dsimp only
  rw [if_pos hz, e]
theorem cut_str {z : Str} {lo hi : Option Int} (hz : z.length ≤ line) : cutW (.str z) lo hi h = ret (.str (L2.cutS z lo hi)) h := if_pos hz
theorem cutS_len (z : Str) (lo hi : Option Int) : (L2.cutS z lo hi).length ≤ z.length := by
  show ((z.cps.toList.drop _).take _).toArray.size ≤ z.cps.size
  rw [List.size_toArray, List.length_take, List.length_drop, Array.length_toList]
  omega
theorem len_str {z : Str} (hz : z.length ≤ line) : fnV Γ .len [.str z] h = ret (.int z.length) h := if_pos hz
theorem repS_len (x : Str) (n : Int) : (repS x n).length ≤ x.length * n.toNat := by
  unfold repS
  split
  · exact Nat.zero_le _
  · rename_i h1
    split
    · rename_i h2
      rcases Bool.or_eq_true_iff.mp h2 with q | q
      · rw [eq_of_beq q]; simp
      · have : x.length = 0 := eq_of_beq q
        omega
    · have key : ∀ (k : Nat) (a : Array Nat), ((List.replicate k x.cps).foldl (· ++ ·) a).size = a.size + k * x.cps.size := by
        intro k
        induction k with
        | zero => intro a; simp
        | succ k ih => intro a; rw [List.replicate_succ, List.foldl_cons, ih, Array.size_append, Nat.succ_mul]; omega
      show ((List.replicate n.toNat x.cps).foldl (· ++ ·) #[]).size ≤ _
      rw [key]
      show 0 + n.toNat * x.cps.size ≤ x.cps.size * n.toNat
      rw [Nat.mul_comm]; omega
theorem mul_str {x : Str} {n : Int} (h0 : -1000000 ≤ n) (h1 : n ≤ 1000000) (h2 : x.length * n.toNat ≤ line) : mulV (.str x) (.int n) h = ret (.str (repS x n)) h := if_pos ⟨h0, h1, h2⟩
theorem upper_ok {z : Str} (hz : z.length ≤ 5592405) : mthV .upper (.str z) [] h = ret (.str (Txt.upper z)) h := if_pos hz
@[simp] theorem pre_upper (z : Str) : mthPre .upper (.str z) h = true := rfl
theorem upper_len (z : Str) : (Txt.upper z).length ≤ 3 * z.length := PyProof.Rows.len_upper z
/-! ### an object in the midst -/
theorem get_mid (a b : Hq) (o : Ob) : (a ++ o :: b)[a.length]? = some o := by
  rw [List.getElem?_append_right (Nat.le_refl _), Nat.sub_self]
  rfl
theorem set_mid (a b : Hq) (o o' : Ob) : (a ++ o :: b).set a.length o' = a ++ o' :: b := by
  rw [List.set_append_right _ _ (Nat.le_refl _), Nat.sub_self]
  rfl
theorem append_ok {a : Nat} {xs : List W} {y : W} (ha : h[a]? = some (.lst xs)) (hz : xs.length < line) : mthV .append (.ref a) [y] h = ret .non (h.set a (.lst (xs ++ [y]))) := by
  unfold mthV
  dsimp only
  rw [ha]
  exact if_pos hz
theorem pre_append {a : Nat} {xs : List W} (ha : h[a]? = some (.lst xs)) : mthPre .append (.ref a) h = true := by
  show (lstOf h (.ref a)).isSome = true
  unfold lstOf
  dsimp only
  rw [ha]
  rfl
theorem pre_pop {a : Nat} {xs : List W} (ha : h[a]? = some (.lst xs)) : mthPre .pop (.ref a) h = true := pre_append ha
theorem pop_ok {a : Nat} {xs : List W} {y : W} (ha : h[a]? = some (.lst (xs ++ [y]))) : mthV .pop (.ref a) [] h = ret y (h.set a (.lst xs)) := by
  unfold mthV
  dsimp only
  rw [ha]
  dsimp only
  rw [show (xs ++ [y]).length - 1 = xs.length by simp, List.getElem?_append_right (Nat.le_refl _), Nat.sub_self]
  dsimp only [List.getElem?_cons_zero]
  rw [List.dropLast_concat]
theorem len_lst {a : Nat} {xs : List W} (ha : h[a]? = some (.lst xs)) : fnV Γ .len [.ref a] h = ret (.int xs.length) h := by
  unfold fnV
  dsimp only
  rw [ha]
theorem len_tup {a : Nat} {xs : List W} (ha : h[a]? = some (.tup xs)) : fnV Γ .len [.ref a] h = ret (.int xs.length) h := by
  unfold fnV
  dsimp only
  rw [ha]
theorem ix_lst {a : Nat} {xs : List W} {i : Int} {v : W} (ha : h[a]? = some (.lst xs)) (e : L2.atI xs i = some v) : ixV (.ref a) (.int i) h = ret v h := by
  unfold ixV
  dsimp only
  rw [ha]
  dsimp only
  rw [e]
theorem ix_tup {a : Nat} {xs : List W} {i : Int} {v : W} (ha : h[a]? = some (.tup xs)) (e : L2.atI xs i = some v) : ixV (.ref a) (.int i) h = ret v h := by
  unfold ixV
  dsimp only
  rw [ha]
  dsimp only
  rw [e]
theorem kLst_ok {vs : List W} (z : vs.length ≤ line) : kLst vs h = ret (.ref h.length) (h ++ [.lst vs]) := if_pos z
theorem kTup_ok {vs : List W} (z : vs.length ≤ line) : kTup vs h = ret (.ref h.length) (h ++ [.tup vs]) := if_pos z
/-! ### a comprehension whose parts make nothing -/
theorem compL_ok {g : Option (Nat × Ob)} {t : W → Hq → M Bool} {el : W → Hq → M W} {p : W → Bool} {f : W → W} (a : Hq) : ∀ (xs acc : List W), (∀ acc, stays g (a ++ [.lst acc]) = true) → (∀ x ∈ xs, ∀ acc, t x (a ++ [.lst acc]) = ret (p x) (a ++ [.lst acc])) →
    (∀ x ∈ xs, p x = true → ∀ acc, el x (a ++ [.lst acc]) = ret (f x) (a ++ [.lst acc])) → acc.length + xs.length ≤ line → compL g a.length t el xs (a ++ [.lst acc]) = some (a ++ [.lst (acc ++ (xs.filter p).map f)])
  | [], acc, hs, _, _, _ => by
    rw [compL, if_pos (hs acc)]
    simp
  | x :: xs, acc, hs, ht, he, hl => by
    rw [compL, if_pos (hs acc), ht x List.mem_cons_self acc]
    cases hp : p x with
    | false =>
      show compL g a.length t el xs (a ++ [.lst acc]) = _
      rw [compL_ok a xs acc hs (fun y hy => ht y (List.mem_cons_of_mem _ hy)) (fun y hy => he y (List.mem_cons_of_mem _ hy)) (by simp at hl; omega), List.filter_cons_of_neg (by rw [hp]; exact Bool.false_ne_true)]
    | true =>
      show (match el x (a ++ [.lst acc]) with
        | some (.ok y, h2) => (match h2[a.length]? with
          | some (.lst acc) => if acc.length < line then compL g a.length t el xs (h2.set a.length (.lst (acc ++ [y]))) else none
          | _ => none)
        | _ => none) = _
      rw [he x List.mem_cons_self hp acc]
      show (match (a ++ [Ob.lst acc])[a.length]? with
          | some (.lst acc') => if acc'.length < line then compL g a.length t el xs ((a ++ [Ob.lst acc]).set a.length (.lst (acc' ++ [f x]))) else none
          | _ => none) = _
      rw [get_mid]
      dsimp only
      simp only [List.length_cons] at hl
      rw [if_pos (by omega), set_mid, compL_ok a xs (acc ++ [f x]) hs (fun y hy => ht y (List.mem_cons_of_mem _ hy)) (fun y hy => he y (List.mem_cons_of_mem _ hy)) (by simp; omega), List.filter_cons_of_pos hp]
      simp
end
end Mp
set_option maxRecDepth 100000
namespace Cf
open Mp
/-! 0 is_name(text): 0 text 1 sign -/
def N_is_name : List PySem.Str := [PySem.Str.ofString "text", PySem.Str.ofString "sign"]
def b_is_name : Ss :=
  (.cons (.ite (.or (.cmp .lt (.fn .len (.cons (.var 0) .nil)) (.cst (.int (1)))) (.cmp .gt (.fn .len (.cons (.var 0) .nil)) (.glob 2)))
    (.cons (.ret (.cst (.bl false)))
     .nil)
    .nil)
   (.cons (.for 1 (.any (.var 0))
    (.cons (.ite (.cmp .nin (.var 1) (.glob 1))
      (.cons (.ret (.cst (.bl false)))
       .nil)
      .nil)
     .nil))
   (.cons (.ret (.cmp .isin (.ix (.var 0) (.cst (.int (0)))) (.glob 0)))
   .nil)))
def d_is_name : FnD := ⟨1, 2, b_is_name⟩
/-! 1 check_name(text): 0 text -/
def N_check_name : List PySem.Str := [PySem.Str.ofString "text"]
def b_check_name : Ss :=
  (.cons (.ite (.not (.call 0 (.cons (.var 0) .nil)))
    (.cons (.rse 1 (.var 0))
     .nil)
    .nil)
   (.cons (.ret (.var 0))
   .nil))
def d_check_name : FnD := ⟨1, 1, b_check_name⟩
/-! 2 _law_mix(key, turn): 0 key 1 turn 2 prime 3 one 4 two -/
def N_law_mix : List PySem.Str := [PySem.Str.ofString "key", PySem.Str.ofString "turn", PySem.Str.ofString "prime", PySem.Str.ofString "one", PySem.Str.ofString "two"]
def b_law_mix : Ss :=
  (.cons (.asg 2 (.bin .sub (.bin .pow (.cst (.int (2))) (.cst (.int (61)))) (.cst (.int (1)))))
   (.cons (.asg 3 (.bin .mod (.fn .int (.cons (.bin .add (.bin .add (.bin .mul (.var 0) (.cst (.int (48271)))) (.bin .mul (.var 1) (.cst (.int (2862933555777941757))))) (.cst (.int (1442695040888963407)))) .nil)) (.var 2)))
   (.cons (.asg 4 (.bin .mod (.fn .int (.cons (.bin .add (.bin .add (.bin .mul (.var 3) (.var 3)) (.bin .fdiv (.var 3) (.cst (.int (1073741824))))) (.bin .mul (.var 1) (.cst (.int (69621))))) .nil)) (.var 2)))
   (.cons (.ret (.bin .mod (.fn .int (.cons (.bin .add (.bin .add (.bin .add (.bin .mul (.var 4) (.var 4)) (.bin .fdiv (.var 4) (.cst (.int (4194304))))) (.bin .mul (.var 0) (.cst (.int (16807))))) (.cst (.int (1)))) .nil)) (.var 2)))
   .nil))))
def d_law_mix : FnD := ⟨2, 5, b_law_mix⟩
/-! 3 _law_store(script): 0 script 1 cells 2 cell -/
def N_law_store : List PySem.Str := [PySem.Str.ofString "script", PySem.Str.ofString "cells", PySem.Str.ofString "cell"]
def b_law_store : Ss :=
  (.cons (.asc 1 (.comp 2 (.any (.cut (.var 0) .no (.yes (.cst (.int (63)))))) .no (.fn .int (.cons (.var 2) .nil))))
   (.cons (.ret (.lst (.cons (.var 1) (.cons (.cst (.int (0))) (.cons (.cst (.int (3))) (.cons (.cst (.int (0))) (.cons (.cst (.int (0))) (.cons (.cst (.int (0))) .nil))))))))
   .nil))
def d_law_store : FnD := ⟨1, 3, b_law_store⟩
/-! 4 _law_load(store): 0 store 1 prime 2 cells 3 at 4 cell 5 key -/
def N_law_load : List PySem.Str := [PySem.Str.ofString "store", PySem.Str.ofString "prime", PySem.Str.ofString "cells", PySem.Str.ofString "at", PySem.Str.ofString "cell", PySem.Str.ofString "key"]
def b_law_load : Ss :=
  (.cons (.asg 1 (.bin .sub (.bin .pow (.cst (.int (2))) (.cst (.int (61)))) (.cst (.int (1)))))
   (.cons (.asg 2 (.ix (.var 0) (.cst (.int (0)))))
   (.cons (.asg 3 (.ix (.var 0) (.cst (.int (1)))))
   (.cons (.ite (.cmp .lt (.var 3) (.fn .len (.cons (.var 2) .nil)))
    (.cons (.asg 4 (.fn .int (.cons (.ix (.var 2) (.var 3)) .nil)))
     (.cons (.sto (.var 0) (.cst (.int (1))) (.bin .add (.var 3) (.cst (.int (1)))))
     (.cons (.sto (.var 0) (.cst (.int (4))) (.cst (.int (6))))
     (.cons (.ite (.or (.cmp .ge (.var 4) (.bin .pow (.cst (.int (10))) (.cst (.int (18))))) (.cmp .le (.var 4) (.neg (.bin .pow (.cst (.int (10))) (.cst (.int (18)))))))
      (.cons (.sto (.var 0) (.cst (.int (2))) (.cst (.int (1))))
       (.cons (.sto (.var 0) (.cst (.int (3))) (.bin .mod (.fn .int (.cons (.fn .abs (.cons (.var 4) .nil)) .nil)) (.bin .pow (.bin .pow (.cst (.int (10))) (.cst (.int (60)))) (.cst (.int (10))))))
       .nil))
      (.cons (.sto (.var 0) (.cst (.int (2))) (.cst (.int (2))))
       (.cons (.sto (.var 0) (.cst (.int (3))) (.bin .mod (.fn .int (.cons (.bin .add (.bin .add (.bin .mul (.var 4) (.cst (.int (97)))) (.bin .mul (.var 3) (.cst (.int (1000003))))) (.cst (.int (11)))) .nil)) (.var 1)))
       .nil)))
     .nil))))
    (.cons (.asg 5 (.bin .add (.fn .len (.cons (.var 2) .nil)) (.cst (.int (1)))))
     (.cons (.for 4 (.any (.fn .list (.cons (.var 2) .nil)))
      (.cons (.asg 5 (.bin .mod (.fn .int (.cons (.bin .add (.bin .mul (.var 5) (.cst (.int (1000003)))) (.bin .mod (.fn .int (.cons (.var 4) .nil)) (.var 1))) .nil)) (.var 1)))
       .nil))
     (.cons (.sto (.var 0) (.cst (.int (2))) (.cst (.int (0))))
     (.cons (.sto (.var 0) (.cst (.int (3))) (.var 5))
     .nil)))))
   .nil))))
def d_law_load : FnD := ⟨1, 6, b_law_load⟩
/-! 5 _law_take(store, count): 0 store 1 count 2 turn 3 got -/
def N_law_take : List PySem.Str := [PySem.Str.ofString "store", PySem.Str.ofString "count", PySem.Str.ofString "turn", PySem.Str.ofString "got"]
def b_law_take : Ss :=
  (.cons (.ite (.cmp .lt (.var 1) (.cst (.int (2))))
    (.cons (.ret (.cst (.int (0))))
     .nil)
    .nil)
   (.cons (.for 2 (.rng (.cst (.int (70))))
    (.cons (.ite (.cmp .eq (.ix (.var 0) (.cst (.int (2)))) (.cst (.int (0))))
      (.cons .brk
       .nil)
      .nil)
     (.cons (.ite (.and (.cmp .eq (.ix (.var 0) (.cst (.int (2)))) (.cst (.int (1)))) (.cmp .gt (.ix (.var 0) (.cst (.int (3)))) (.cst (.int (0)))))
      (.cons (.asg 3 (.bin .mod (.fn .int (.cons (.ix (.var 0) (.cst (.int (3)))) .nil)) (.var 1)))
       (.cons (.sto (.var 0) (.cst (.int (3))) (.bin .fdiv (.fn .int (.cons (.ix (.var 0) (.cst (.int (3)))) .nil)) (.var 1)))
       (.cons (.ret (.var 3))
       .nil)))
      .nil)
     (.cons (.ite (.and (.cmp .eq (.ix (.var 0) (.cst (.int (2)))) (.cst (.int (2)))) (.cmp .gt (.ix (.var 0) (.cst (.int (4)))) (.cst (.int (0)))))
      (.cons (.sto (.var 0) (.cst (.int (4))) (.bin .sub (.ix (.var 0) (.cst (.int (4)))) (.cst (.int (1)))))
       (.cons (.sto (.var 0) (.cst (.int (5))) (.bin .add (.ix (.var 0) (.cst (.int (5)))) (.cst (.int (1)))))
       (.cons (.ret (.bin .mod (.fn .int (.cons (.bin .fdiv (.call 2 (.cons (.ix (.var 0) (.cst (.int (3)))) (.cons (.ix (.var 0) (.cst (.int (5)))) .nil))) (.cst (.int (16)))) .nil)) (.var 1)))
       .nil)))
      .nil)
     (.cons (.exp (.call 4 (.cons (.var 0) .nil)))
     .nil)))))
   (.cons (.sto (.var 0) (.cst (.int (5))) (.bin .add (.ix (.var 0) (.cst (.int (5)))) (.cst (.int (1)))))
   (.cons (.ret (.bin .mod (.fn .int (.cons (.bin .fdiv (.call 2 (.cons (.ix (.var 0) (.cst (.int (3)))) (.cons (.ix (.var 0) (.cst (.int (5)))) .nil))) (.cst (.int (16)))) .nil)) (.var 1)))
   .nil))))
def d_law_take : FnD := ⟨2, 4, b_law_take⟩
/-! 6 _law_hit(store, whole): 0 store 1 whole -/
def N_law_hit : List PySem.Str := [PySem.Str.ofString "store", PySem.Str.ofString "whole"]
def b_law_hit : Ss :=
  (.cons (.ret (.cmp .eq (.call 5 (.cons (.var 0) (.cons (.var 1) .nil))) (.cst (.int (0)))))
   .nil)
def d_law_hit : FnD := ⟨2, 2, b_law_hit⟩
/-! 7 _law_edge(store, low, high): 0 store 1 low 2 high 3 kind -/
def N_law_edge : List PySem.Str := [PySem.Str.ofString "store", PySem.Str.ofString "low", PySem.Str.ofString "high", PySem.Str.ofString "kind"]
def b_law_edge : Ss :=
  (.cons (.asg 3 (.call 5 (.cons (.var 0) (.cons (.cst (.int (9))) .nil))))
   (.cons (.ite (.cmp .eq (.var 3) (.cst (.int (0))))
    (.cons (.ret (.var 1))
     .nil)
    .nil)
   (.cons (.ite (.cmp .eq (.var 3) (.cst (.int (1))))
    (.cons (.ret (.var 2))
     .nil)
    .nil)
   (.cons (.ite (.cmp .eq (.var 3) (.cst (.int (2))))
    (.cons (.ret (.fn .min (.cons (.bin .add (.var 1) (.cst (.int (1)))) (.cons (.var 2) .nil))))
     .nil)
    .nil)
   (.cons (.ite (.cmp .eq (.var 3) (.cst (.int (3))))
    (.cons (.ret (.fn .max (.cons (.bin .sub (.var 2) (.cst (.int (1)))) (.cons (.var 1) .nil))))
     .nil)
    .nil)
   (.cons (.ret (.bin .add (.var 1) (.call 5 (.cons (.var 0) (.cons (.bin .add (.bin .sub (.var 2) (.var 1)) (.cst (.int (1)))) .nil)))))
   .nil))))))
def d_law_edge : FnD := ⟨3, 4, b_law_edge⟩
/-! 8 _law_isnumber(value): 0 value -/
def N_law_isnumber : List PySem.Str := [PySem.Str.ofString "value"]
def b_law_isnumber : Ss :=
  (.cons (.ret (.and (.fn .isi (.cons (.var 0) (.cons (.ty "int") .nil))) (.not (.fn .isi (.cons (.var 0) (.cons (.ty "bool") .nil))))))
   .nil)
def d_law_isnumber : FnD := ⟨1, 1, b_law_isnumber⟩
/-! 9 _law_same_flat(told, due): 0 told 1 due -/
def N_law_same_flat : List PySem.Str := [PySem.Str.ofString "told", PySem.Str.ofString "due"]
def b_law_same_flat : Ss :=
  (.cons (.ite (.isN true (.var 1))
    (.cons (.ret (.isN true (.var 0)))
     .nil)
    .nil)
   (.cons (.ite (.fn .isi (.cons (.var 1) (.cons (.ty "bool") .nil)))
    (.cons (.ret (.and (.fn .isi (.cons (.var 0) (.cons (.ty "bool") .nil))) (.cmp .eq (.var 0) (.var 1))))
     .nil)
    .nil)
   (.cons (.ite (.fn .isi (.cons (.var 1) (.cons (.ty "int") .nil)))
    (.cons (.ret (.and (.call 8 (.cons (.var 0) .nil)) (.cmp .eq (.var 0) (.var 1))))
     .nil)
    .nil)
   (.cons (.ret (.and (.fn .isi (.cons (.var 0) (.cons (.ty "str") .nil))) (.cmp .eq (.var 0) (.var 1))))
   .nil))))
def d_law_same_flat : FnD := ⟨2, 2, b_law_same_flat⟩
/-! 10 _law_same(told, due): 0 told 1 due 2 pairs 3 turn 4 pair 5 left 6 right 7 k -/
def N_law_same : List PySem.Str := [PySem.Str.ofString "told", PySem.Str.ofString "due", PySem.Str.ofString "pairs", PySem.Str.ofString "turn", PySem.Str.ofString "pair", PySem.Str.ofString "left", PySem.Str.ofString "right", PySem.Str.ofString "k"]
def b_law_same : Ss :=
  (.cons (.asg 2 (.lst (.cons (.tup (.cons (.var 0) (.cons (.var 1) .nil))) .nil)))
   (.cons (.for 3 (.rng (.cst (.int (200000))))
    (.cons (.ite (.cmp .eq (.fn .len (.cons (.var 2) .nil)) (.cst (.int (0))))
      (.cons (.ret (.cst (.bl true)))
       .nil)
      .nil)
     (.cons (.asg 4 (.mth .pop (.var 2) .nil))
     (.cons (.asg 5 (.ix (.var 4) (.cst (.int (0)))))
     (.cons (.asg 6 (.ix (.var 4) (.cst (.int (1)))))
     (.cons (.ite (.or (.fn .isi (.cons (.var 6) (.cons (.ty "list") .nil))) (.fn .isi (.cons (.var 6) (.cons (.ty "tuple") .nil))))
      (.cons (.ite (.and (.fn .isi (.cons (.var 6) (.cons (.ty "list") .nil))) (.not (.fn .isi (.cons (.var 5) (.cons (.ty "list") .nil)))))
        (.cons (.ret (.cst (.bl false)))
         .nil)
        .nil)
       (.cons (.ite (.and (.fn .isi (.cons (.var 6) (.cons (.ty "tuple") .nil))) (.not (.fn .isi (.cons (.var 5) (.cons (.ty "tuple") .nil)))))
        (.cons (.ret (.cst (.bl false)))
         .nil)
        .nil)
       (.cons (.ite (.cmp .ne (.fn .len (.cons (.var 5) .nil)) (.fn .len (.cons (.var 6) .nil)))
        (.cons (.ret (.cst (.bl false)))
         .nil)
        .nil)
       (.cons (.for 7 (.rng (.fn .len (.cons (.var 6) .nil)))
        (.cons (.exp (.mth .append (.var 2) (.cons (.tup (.cons (.ix (.var 5) (.var 7)) (.cons (.ix (.var 6) (.var 7)) .nil))) .nil)))
         .nil))
       .nil))))
      (.cons (.ite (.not (.call 9 (.cons (.var 5) (.cons (.var 6) .nil))))
        (.cons (.ret (.cst (.bl false)))
         .nil)
        .nil)
       .nil))
     .nil))))))
   (.cons (.ret (.cst (.bl false)))
   .nil)))
def d_law_same : FnD := ⟨2, 8, b_law_same⟩
/-! 11 _law_isname(text): 0 text 1 letters 2 sign -/
def N_law_isname : List PySem.Str := [PySem.Str.ofString "text", PySem.Str.ofString "letters", PySem.Str.ofString "sign"]
def b_law_isname : Ss :=
  (.cons (.asg 1 (.cst (.str (PySem.Str.ofString "abcdefghijklmnopqrstuvwxyz"))))
   (.cons (.ite (.or (.cmp .lt (.fn .len (.cons (.var 0) .nil)) (.cst (.int (1)))) (.or (.cmp .gt (.fn .len (.cons (.var 0) .nil)) (.cst (.int (8)))) (.cmp .nin (.ix (.var 0) (.cst (.int (0)))) (.var 1))))
    (.cons (.ret (.cst (.bl false)))
     .nil)
    .nil)
   (.cons (.ret (.cmp .eq (.fn .len (.cons (.comp 2 (.any (.var 0)) (.yes (.cmp .nin (.var 2) (.bin .add (.var 1) (.cst (.str (PySem.Str.ofString "0123456789")))))) (.var 2)) .nil)) (.cst (.int (0)))))
   .nil)))
def d_law_isname : FnD := ⟨1, 3, b_law_isname⟩
/-! 12 _law_name(store): 0 store 1 letters 2 words 3 kind 4 size 5 name 6 k -/
def N_law_name : List PySem.Str := [PySem.Str.ofString "store", PySem.Str.ofString "letters", PySem.Str.ofString "words", PySem.Str.ofString "kind", PySem.Str.ofString "size", PySem.Str.ofString "name", PySem.Str.ofString "k"]
def b_law_name : Ss :=
  (.cons (.asg 1 (.cst (.str (PySem.Str.ofString "abcdefghijklmnopqrstuvwxyz0123456789"))))
   (.cons (.asg 2 (.lst (.cons (.cst (.str (PySem.Str.ofString "room"))) (.cons (.cst (.str (PySem.Str.ofString "thing"))) (.cons (.cst (.str (PySem.Str.ofString "at"))) (.cons (.cst (.str (PySem.Str.ofString "way"))) (.cons (.cst (.str (PySem.Str.ofString "place"))) (.cons (.cst (.str (PySem.Str.ofString "arrow"))) (.cons (.cst (.str (PySem.Str.ofString "p10"))) (.cons (.cst (.str (PySem.Str.ofString "p2"))) (.cons (.cst (.str (PySem.Str.ofString "t0"))) (.cons (.cst (.str (PySem.Str.ofString "none"))) .nil))))))))))))
   (.cons (.asg 3 (.call 5 (.cons (.var 0) (.cons (.cst (.int (9))) .nil))))
   (.cons (.ite (.cmp .eq (.var 3) (.cst (.int (0))))
    (.cons (.ret (.ix (.var 2) (.call 5 (.cons (.var 0) (.cons (.cst (.int (10))) .nil)))))
     .nil)
    .nil)
   (.cons (.asg 4 (.bin .add (.cst (.int (1))) (.call 5 (.cons (.var 0) (.cons (.cst (.int (8))) .nil)))))
   (.cons (.ite (.cmp .eq (.var 3) (.cst (.int (1))))
    (.cons (.asg 4 (.cst (.int (8))))
     .nil)
    .nil)
   (.cons (.ite (.cmp .eq (.var 3) (.cst (.int (2))))
    (.cons (.asg 4 (.cst (.int (1))))
     .nil)
    .nil)
   (.cons (.asg 5 (.ix (.var 1) (.call 5 (.cons (.var 0) (.cons (.cst (.int (26))) .nil)))))
   (.cons (.for 6 (.rng (.bin .sub (.var 4) (.cst (.int (1)))))
    (.cons (.asg 5 (.bin .add (.var 5) (.ix (.var 1) (.call 5 (.cons (.var 0) (.cons (.cst (.int (36))) .nil))))))
     .nil))
   (.cons (.ret (.var 5))
   .nil))))))))))
def d_law_name : FnD := ⟨1, 7, b_law_name⟩
/-! 13 _law_badname(store): 0 store 1 signs 2 kind 3 name 4 at -/
def N_law_badname : List PySem.Str := [PySem.Str.ofString "store", PySem.Str.ofString "signs", PySem.Str.ofString "kind", PySem.Str.ofString "name", PySem.Str.ofString "at"]
def b_law_badname : Ss :=
  (.cons (.asg 1 (.cst (.str (PySem.Str.ofString " !\"#$&'()*+,-./:;<=>?@ABCDEFGHIJKLMNOPQRSTUVWXYZ[\\]^_`{|}~"))))
   (.cons (.asg 2 (.call 5 (.cons (.var 0) (.cons (.cst (.int (7))) .nil))))
   (.cons (.ite (.cmp .eq (.var 2) (.cst (.int (0))))
    (.cons (.ret (.cst (.str (PySem.Str.ofString ""))))
     .nil)
    .nil)
   (.cons (.asg 3 (.call 12 (.cons (.var 0) .nil)))
   (.cons (.ite (.cmp .eq (.var 2) (.cst (.int (1))))
    (.cons (.ret (.cut (.bin .mul (.var 3) (.cst (.int (9)))) .no (.yes (.cst (.int (9))))))
     .nil)
    .nil)
   (.cons (.ite (.cmp .eq (.var 2) (.cst (.int (2))))
    (.cons (.ret (.cut (.bin .mul (.var 3) (.cst (.int (40)))) .no (.yes (.bin .add (.cst (.int (9))) (.call 5 (.cons (.var 0) (.cons (.cst (.int (32))) .nil)))))))
     .nil)
    .nil)
   (.cons (.ite (.cmp .eq (.var 2) (.cst (.int (3))))
    (.cons (.ret (.bin .add (.ix (.cst (.str (PySem.Str.ofString "0123456789"))) (.call 5 (.cons (.var 0) (.cons (.cst (.int (10))) .nil)))) (.cut (.var 3) .no (.yes (.cst (.int (7)))))))
     .nil)
    .nil)
   (.cons (.ite (.cmp .eq (.var 2) (.cst (.int (4))))
    (.cons (.ret (.bin .add (.mth .upper (.cut (.var 3) .no (.yes (.cst (.int (7))))) .nil) (.cst (.str (PySem.Str.ofString "A")))))
     .nil)
    .nil)
   (.cons (.asg 4 (.call 5 (.cons (.var 0) (.cons (.bin .add (.fn .len (.cons (.var 3) .nil)) (.cst (.int (1)))) .nil))))
   (.cons (.ret (.bin .add (.bin .add (.cut (.var 3) .no (.yes (.var 4))) (.ix (.var 1) (.call 5 (.cons (.var 0) (.cons (.fn .len (.cons (.var 1) .nil)) .nil))))) (.cut (.var 3) (.yes (.var 4)) .no)))
   .nil))))))))))
def d_law_badname : FnD := ⟨1, 5, b_law_badname⟩
/-! 14 _law_text(store): 0 store 1 signs 2 text 3 k -/
def N_law_text : List PySem.Str := [PySem.Str.ofString "store", PySem.Str.ofString "signs", PySem.Str.ofString "text", PySem.Str.ofString "k"]
def b_law_text : Ss :=
  (.cons (.asg 1 (.cst (.str (PySem.Str.ofString " !\"#$&'()*+,-./0123456789:;<=>?@ABCDEFGHIJKLMNOPQRSTUVWXYZ[\\]^_`"))))
   (.cons (.asg 1 (.bin .add (.var 1) (.cst (.str (PySem.Str.ofString "abcdefghijklmnopqrstuvwxyz{|}~")))))
   (.cons (.asg 2 (.cst (.str (PySem.Str.ofString ""))))
   (.cons (.for 3 (.rng (.call 7 (.cons (.var 0) (.cons (.cst (.int (0))) (.cons (.cst (.int (40))) .nil)))))
    (.cons (.asg 2 (.bin .add (.var 2) (.ix (.var 1) (.call 5 (.cons (.var 0) (.cons (.cst (.int (94))) .nil))))))
     .nil))
   (.cons (.ret (.var 2))
   .nil)))))
def d_law_text : FnD := ⟨1, 4, b_law_text⟩
/-! 15 _law_kinds(error): 0 error 1 names 2 flags 3 k -/
def N_law_kinds : List PySem.Str := [PySem.Str.ofString "error", PySem.Str.ofString "names", PySem.Str.ofString "flags", PySem.Str.ofString "k"]
def b_law_kinds : Ss :=
  (.cons (.asg 1 (.lst (.cons (.cst (.str (PySem.Str.ofString "BadName"))) (.cons (.cst (.str (PySem.Str.ofString "BadRooms"))) (.cons (.cst (.str (PySem.Str.ofString "BadNumber"))) (.cons (.cst (.str (PySem.Str.ofString "Double"))) (.cons (.cst (.str (PySem.Str.ofString "TooMany"))) (.cons (.cst (.str (PySem.Str.ofString "NoPlace"))) (.cons (.cst (.str (PySem.Str.ofString "NoArrow"))) (.cons (.cst (.str (PySem.Str.ofString "NoThing"))) (.cons (.cst (.str (PySem.Str.ofString "NoPrice"))) (.cons (.cst (.str (PySem.Str.ofString "NoRing"))) (.cons (.cst (.str (PySem.Str.ofString "Loop"))) (.cons (.cst (.str (PySem.Str.ofString "BadWay"))) (.cons (.cst (.str (PySem.Str.ofString "NoRoom"))) (.cons (.cst (.str (PySem.Str.ofString "BadLine"))) (.cons (.cst (.str (PySem.Str.ofString "NotPossible"))) (.cons (.cst (.str (PySem.Str.ofString "NotBarred"))) (.cons (.cst (.str (PySem.Str.ofString "NotClean"))) (.cons (.cst (.str (PySem.Str.ofString "SearchFull"))) (.cons (.cst (.str (PySem.Str.ofString "BadPlan"))) (.cons (.cst (.str (PySem.Str.ofString "Busy"))) (.cons (.cst (.str (PySem.Str.ofString "BadEvent"))) (.cons (.cst (.str (PySem.Str.ofString "WrongNet"))) (.cons (.cst (.str (PySem.Str.ofString "no ValueError"))) .nil)))))))))))))))))))))))))
   (.cons (.asg 2 (.lst (.cons (.fn .isi (.cons (.var 0) (.cons (.cls 1) .nil))) (.cons (.fn .isi (.cons (.var 0) (.cons (.cls 2) .nil))) (.cons (.fn .isi (.cons (.var 0) (.cons (.cls 3) .nil))) (.cons (.fn .isi (.cons (.var 0) (.cons (.cls 4) .nil))) (.cons (.fn .isi (.cons (.var 0) (.cons (.cls 5) .nil))) (.cons (.fn .isi (.cons (.var 0) (.cons (.cls 6) .nil))) (.cons (.fn .isi (.cons (.var 0) (.cons (.cls 7) .nil))) (.cons (.fn .isi (.cons (.var 0) (.cons (.cls 8) .nil))) (.cons (.fn .isi (.cons (.var 0) (.cons (.cls 9) .nil))) (.cons (.fn .isi (.cons (.var 0) (.cons (.cls 10) .nil))) (.cons (.fn .isi (.cons (.var 0) (.cons (.cls 11) .nil))) (.cons (.fn .isi (.cons (.var 0) (.cons (.cls 12) .nil))) (.cons (.fn .isi (.cons (.var 0) (.cons (.cls 13) .nil))) (.cons (.fn .isi (.cons (.var 0) (.cons (.cls 14) .nil))) (.cons (.fn .isi (.cons (.var 0) (.cons (.cls 15) .nil))) (.cons (.fn .isi (.cons (.var 0) (.cons (.cls 16) .nil))) (.cons (.fn .isi (.cons (.var 0) (.cons (.cls 17) .nil))) (.cons (.fn .isi (.cons (.var 0) (.cons (.cls 18) .nil))) (.cons (.fn .isi (.cons (.var 0) (.cons (.cls 19) .nil))) (.cons (.fn .isi (.cons (.var 0) (.cons (.cls 20) .nil))) (.cons (.fn .isi (.cons (.var 0) (.cons (.cls 21) .nil))) (.cons (.fn .isi (.cons (.var 0) (.cons (.cls 22) .nil))) (.cons (.not (.fn .isi (.cons (.var 0) (.cons (.ty "ValueError") .nil)))) .nil)))))))))))))))))))))))))
   (.cons (.ret (.comp 3 (.rng (.cst (.int (23)))) (.yes (.ix (.var 2) (.var 3))) (.ix (.var 1) (.var 3))))
   .nil)))
def d_law_kinds : FnD := ⟨1, 4, b_law_kinds⟩
/-! 16 _law_error(error): 0 error -/
def N_law_error : List PySem.Str := [PySem.Str.ofString "error"]
def b_law_error : Ss :=
  (.cons (.ret (.tup (.cons (.cst (.int (1))) (.cons (.call 15 (.cons (.var 0) .nil)) (.cons (.attr (PySem.Str.ofString "what") (.var 0)) .nil)))))
   .nil)
def d_law_error : FnD := ⟨1, 1, b_law_error⟩
/-! 17 _law_meets(told, due): 0 told 1 due -/
def N_law_meets : List PySem.Str := [PySem.Str.ofString "told", PySem.Str.ofString "due"]
def b_law_meets : Ss :=
  (.cons (.ite (.cmp .ne (.ix (.var 0) (.cst (.int (0)))) (.ix (.var 1) (.cst (.int (0)))))
    (.cons (.ret (.cst (.bl false)))
     .nil)
    .nil)
   (.cons (.ite (.cmp .eq (.ix (.var 1) (.cst (.int (0)))) (.cst (.int (0))))
    (.cons (.ret (.call 10 (.cons (.ix (.var 0) (.cst (.int (1)))) (.cons (.ix (.var 1) (.cst (.int (1)))) .nil))))
     .nil)
    .nil)
   (.cons (.ret (.and (.cmp .eq (.ix (.var 0) (.cst (.int (1)))) (.lst (.cons (.ix (.var 1) (.cst (.int (1)))) .nil))) (.call 10 (.cons (.ix (.var 0) (.cst (.int (2)))) (.cons (.ix (.var 1) (.cst (.int (2)))) .nil)))))
   .nil)))
def d_law_meets : FnD := ⟨2, 2, b_law_meets⟩
/-! 18 _law_texts(store): 0 store 1 signs 2 name 3 at 4 texts 5 size 6 k 7 start 8 sign -/
def N_law_texts : List PySem.Str := [PySem.Str.ofString "store", PySem.Str.ofString "signs", PySem.Str.ofString "name", PySem.Str.ofString "at", PySem.Str.ofString "texts", PySem.Str.ofString "size", PySem.Str.ofString "k", PySem.Str.ofString "start", PySem.Str.ofString "sign"]
def b_law_texts : Ss :=
  (.cons (.asg 1 (.cst (.str (PySem.Str.ofString " !\"#$&'()*+,-./0123456789:;<=>?@ABCDEFGHIJKLMNOPQRSTUVWXYZ[\\]^_`"))))
   (.cons (.asg 1 (.bin .add (.var 1) (.cst (.str (PySem.Str.ofString "abcdefghijklmnopqrstuvwxyz{|}~")))))
   (.cons (.asg 2 (.call 12 (.cons (.var 0) .nil)))
   (.cons (.asg 3 (.call 5 (.cons (.var 0) (.cons (.fn .len (.cons (.var 2) .nil)) .nil))))
   (.cons (.ite (.call 6 (.cons (.var 0) (.cons (.cst (.int (2))) .nil)))
    (.cons (.asg 3 (.cst (.int (0))))
     .nil)
    .nil)
   (.cons (.asc 4 (.comp 8 (.any (.var 1)) .no (.bin .add (.bin .add (.cut (.var 2) .no (.yes (.var 3))) (.var 8)) (.cut (.var 2) (.yes (.bin .add (.var 3) (.cst (.int (1))))) .no))))
   (.cons (.for 5 (.any (.bin .add (.lrg (.cst (.int (11)))) (.lst (.cons (.cst (.int (39))) (.cons (.cst (.int (40))) .nil)))))
    (.cons (.exp (.mth .append (.var 4) (.cons (.cut (.bin .mul (.var 2) (.cst (.int (40)))) .no (.yes (.var 5))) .nil)))
     .nil))
   (.cons (.for 6 (.rng (.cst (.int (4))))
    (.cons (.exp (.mth .append (.var 4) (.cons (.call 13 (.cons (.var 0) .nil)) .nil)))
     .nil))
   (.cons (.for 6 (.rng (.cst (.int (3))))
    (.cons (.exp (.mth .append (.var 4) (.cons (.call 12 (.cons (.var 0) .nil)) .nil)))
     (.cons (.exp (.mth .append (.var 4) (.cons (.call 14 (.cons (.var 0) .nil)) .nil)))
     .nil)))
   (.cons (.asg 7 (.call 5 (.cons (.var 0) (.cons (.fn .len (.cons (.var 4) .nil)) .nil))))
   (.cons (.asg 4 (.bin .add (.cut (.var 4) (.yes (.var 7)) .no) (.cut (.var 4) .no (.yes (.var 7)))))
   (.cons (.ret (.bin .add (.var 4) (.cut (.var 4) .no (.yes (.cst (.int (4)))))))
   .nil))))))))))))
def d_law_texts : FnD := ⟨1, 9, b_law_texts⟩
/-! 19 _law_ask(door, text): 0 door 1 text 2 e -/
def N_law_ask : List PySem.Str := [PySem.Str.ofString "door", PySem.Str.ofString "text", PySem.Str.ofString "e"]
def b_law_ask : Ss :=
  (.cons (.try
    (.cons (.ite (.cmp .eq (.var 0) (.cst (.int (0))))
      (.cons (.ret (.tup (.cons (.cst (.int (0))) (.cons (.call 0 (.cons (.var 1) .nil)) .nil))))
       .nil)
      .nil)
     (.cons (.ret (.tup (.cons (.cst (.int (0))) (.cons (.call 1 (.cons (.var 1) .nil)) .nil))))
     .nil)) 0 2
    (.cons (.ret (.call 16 (.cons (.var 2) .nil)))
     .nil))
   .nil)
def d_law_ask : FnD := ⟨2, 3, b_law_ask⟩
/-! 20 _law_base_right(what): 0 what 1 e -/
def N_law_base_right : List PySem.Str := [PySem.Str.ofString "what", PySem.Str.ofString "e"]
def b_law_base_right : Ss :=
  (.cons (.try
    (.cons (.rse 0 (.var 0))
     .nil) 0 1
    (.cons (.ret (.and (.cmp .eq (.call 15 (.cons (.var 1) .nil)) (.lst .nil)) (.call 10 (.cons (.attr (PySem.Str.ofString "what") (.var 1)) (.cons (.var 0) .nil)))))
     .nil))
   .nil)
def d_law_base_right : FnD := ⟨1, 2, b_law_base_right⟩
/-! 21 _law_due(door, text): 0 door 1 text 2 good -/
def N_law_due : List PySem.Str := [PySem.Str.ofString "door", PySem.Str.ofString "text", PySem.Str.ofString "good"]
def b_law_due : Ss :=
  (.cons (.asg 2 (.call 11 (.cons (.var 1) .nil)))
   (.cons (.ite (.cmp .eq (.var 0) (.cst (.int (0))))
    (.cons (.ret (.tup (.cons (.cst (.int (0))) (.cons (.var 2) .nil))))
     .nil)
    .nil)
   (.cons (.ite (.var 2)
    (.cons (.ret (.tup (.cons (.cst (.int (0))) (.cons (.var 1) .nil))))
     .nil)
    .nil)
   (.cons (.ret (.tup (.cons (.cst (.int (1))) (.cons (.cst (.str (PySem.Str.ofString "BadName"))) (.cons (.var 1) .nil)))))
   .nil))))
def d_law_due : FnD := ⟨2, 3, b_law_due⟩
/-! 22 law(script): 0 script 1 store 2 first 3 text 4 door -/
def N_law : List PySem.Str := [PySem.Str.ofString "script", PySem.Str.ofString "store", PySem.Str.ofString "first", PySem.Str.ofString "text", PySem.Str.ofString "door"]
def b_law : Ss :=
  (.cons (.asg 1 (.call 3 (.cons (.var 0) .nil)))
   (.cons (.asg 2 (.call 5 (.cons (.var 1) (.cons (.cst (.int (2))) .nil))))
   (.cons (.ite (.or (.not (.call 20 (.cons (.call 14 (.cons (.var 1) .nil)) .nil))) (.not (.call 20 (.cons (.bin .sub (.call 5 (.cons (.var 1) (.cons (.cst (.int (1000000))) .nil))) (.cst (.int (7)))) .nil))))
    (.cons (.ret (.cst (.bl false)))
     .nil)
    .nil)
   (.cons (.for 3 (.any (.call 18 (.cons (.var 1) .nil)))
    (.cons (.for 4 (.any (.lst (.cons (.var 2) (.cons (.bin .sub (.cst (.int (1))) (.var 2)) .nil))))
      (.cons (.ite (.not (.call 17 (.cons (.call 19 (.cons (.var 4) (.cons (.var 3) .nil))) (.cons (.call 21 (.cons (.var 4) (.cons (.var 3) .nil))) .nil))))
        (.cons (.ret (.cst (.bl false)))
         .nil)
        .nil)
       .nil))
     .nil))
   (.cons (.ret (.cst (.bl true)))
   .nil)))))
def d_law : FnD := ⟨1, 5, b_law⟩
end Cf
set_option Elab.async false
set_option linter.all false
set_option maxRecDepth 100000
set_option maxHeartbeats 400000
/-! the drawn store -/
namespace Cf
open Mp
structure St6 where
  at_ : Int
  kind : Int
  key : Int
  left : Int
  turn : Int
def sto (s : St6) : Ob := .lst [.ref 2, .int s.at_, .int s.kind, .int s.key, .int s.left, .int s.turn]
/-- the heap: script, its slice, cells, the store -/
def B (ns : List Int) (s : St6) : Hq := [.frl (ns.map W.int), .lst (ns.map W.int), .lst (ns.map W.int), sto s]
def big : Int := (10 ^ 60) ^ 10
structure Inv (ns : List Int) (s : St6) (T : Nat) : Prop where
  len : ns.length ≤ 63
  a0 : 0 ≤ s.at_
  a1 : s.at_ ≤ ns.length
  k0 : 0 ≤ s.key
  k1 : s.key < big
  t0 : 0 ≤ s.turn
  t1 : s.turn ≤ T
theorem Inv.up {ns : List Int} {s : St6} {T T' : Nat} (i : Inv ns s T) (h : T ≤ T') : Inv ns s T' := ⟨i.len, i.a0, i.a1, i.k0, i.k1, i.t0, by have := i.t1; omega⟩
/-- the prelude's defs -/
structure Pre (Γ : Gam) : Prop where
  mix : Γ.fn 2 = some d_law_mix
  store : Γ.fn 3 = some d_law_store
  load : Γ.fn 4 = some d_law_load
  take : Γ.fn 5 = some d_law_take
section
variable {Γ : Gam} {wf : Nat} {ns : List Int} {s : St6} {e : Hq} {h : Hq}
@[simp] theorem st_ix0 : ixV (.ref 3) (.int 0) (B ns s ++ e) = ret (.ref 2) (B ns s ++ e) := rfl
@[simp] theorem st_ix1 : ixV (.ref 3) (.int 1) (B ns s ++ e) = ret (.int s.at_) (B ns s ++ e) := rfl
@[simp] theorem st_ix2 : ixV (.ref 3) (.int 2) (B ns s ++ e) = ret (.int s.kind) (B ns s ++ e) := rfl
@[simp] theorem st_ix3 : ixV (.ref 3) (.int 3) (B ns s ++ e) = ret (.int s.key) (B ns s ++ e) := rfl
@[simp] theorem st_ix4 : ixV (.ref 3) (.int 4) (B ns s ++ e) = ret (.int s.left) (B ns s ++ e) := rfl
@[simp] theorem st_ix5 : ixV (.ref 3) (.int 5) (B ns s ++ e) = ret (.int s.turn) (B ns s ++ e) := rfl
@[simp] theorem st_set1 (v : Int) : setV (.ref 3) (.int 1) (.int v) (B ns s ++ e) = some (B ns { s with at_ := v } ++ e) := rfl
@[simp] theorem st_set2 (v : Int) : setV (.ref 3) (.int 2) (.int v) (B ns s ++ e) = some (B ns { s with kind := v } ++ e) := rfl
@[simp] theorem st_set3 (v : Int) : setV (.ref 3) (.int 3) (.int v) (B ns s ++ e) = some (B ns { s with key := v } ++ e) := rfl
@[simp] theorem st_set4 (v : Int) : setV (.ref 3) (.int 4) (.int v) (B ns s ++ e) = some (B ns { s with left := v } ++ e) := rfl
@[simp] theorem st_set5 (v : Int) : setV (.ref 3) (.int 5) (.int v) (B ns s ++ e) = some (B ns { s with turn := v } ++ e) := rfl
@[simp] theorem st_len : fnV Γ .len [.ref 2] (B ns s ++ e) = ret (.int ns.length) (B ns s ++ e) := by
  show ret (W.int ((ns.map W.int).length : Nat)) _ = _
  rw [List.length_map]
@[simp] theorem st_list : fnV Γ .list [.ref 2] (B ns s ++ e) = alloc (.lst (ns.map W.int)) (B ns s ++ e) := rfl
theorem st_cell {i : Int} (h0 : 0 ≤ i) (h1 : i < ns.length) : ∃ c, ixV (.ref 2) (.int i) (B ns s ++ e) = ret (.int c) (B ns s ++ e) := by
  have hl : i.toNat < ns.length := by omega
  refine ⟨ns[i.toNat], ?_⟩
  have e1 : L2.atI (ns.map W.int) i = some (.int ns[i.toNat]) := by
    unfold L2.atI L2.ixN
    rw [List.length_map, if_pos h0, if_pos h1]
    show (ns.map W.int)[i.toNat]? = _
    rw [List.getElem?_map, List.getElem?_eq_getElem hl]
    rfl
  show (match L2.atI (ns.map W.int) i with | some v => ret v (B ns s ++ e) | none => none) = _
  rw [e1]
theorem big_lg : big.natAbs.log2 ≤ 2000 := by decide +kernel
theorem pow18 : powV (.int 10) (.int 18) h = ret (.int 1000000000000000000) h := rfl
theorem pow60 : powV (.int 10) (.int 60) h = ret (.int 1000000000000000000000000000000000000000000000000000000000000) h := pow_ok (by decide) (by decide +kernel)
theorem pow600 : powV (.int 1000000000000000000000000000000000000000000000000000000000000) (.int 10) h = ret (.int big) h := pow_ok (by decide) (by decide +kernel)
def mix1 (key turn : Int) : Int := (key * 48271 + turn * 2862933555777941757 + 1442695040888963407) % 2305843009213693951
def mix2 (one turn : Int) : Int := (one * one + one / 1073741824 + turn * 69621) % 2305843009213693951
def mix3 (two key : Int) : Int := (two * two + two / 4194304 + key * 16807 + 1) % 2305843009213693951
def mixF (key turn : Int) : Int := mix3 (mix2 (mix1 key turn) turn) key
theorem mix1_b (key turn : Int) : 0 ≤ mix1 key turn ∧ mix1 key turn < 2305843009213693951 := ⟨Int.emod_nonneg _ (by decide), Int.emod_lt_of_pos _ (by decide)⟩
theorem mix2_b (key turn : Int) : 0 ≤ mix2 key turn ∧ mix2 key turn < 2305843009213693951 := ⟨Int.emod_nonneg _ (by decide), Int.emod_lt_of_pos _ (by decide)⟩
theorem mixF_b (key turn : Int) : 0 ≤ mixF key turn ∧ mixF key turn < 2305843009213693951 := ⟨Int.emod_nonneg _ (by decide), Int.emod_lt_of_pos _ (by decide)⟩
theorem lg61 {i : Int} (h : 0 ≤ i ∧ i < 2305843009213693951) : i.natAbs.log2 ≤ 61 := lg (by omega)
theorem mix_ok {n : Nat} {h : Hq} (P : Pre Γ) {key turn : Int} (hk : key.natAbs.log2 ≤ 2000) (ht : turn.natAbs.log2 ≤ 2000) :
    call Γ wf (n + 1) 2 [.int key, .int turn] h = some (.ok (.int (mixF key turn)), h) := by
  have b1 := lg61 (mix1_b key turn)
  have b2 := lg61 (mix2_b (mix1 key turn) turn)
  rw [call_s P.mix rfl]
  have l1 : (Int.natAbs 48271).log2 = 15 := by decide +kernel
  have l2 : (Int.natAbs 2862933555777941757).log2 = 61 := by decide +kernel
  have l3 : (Int.natAbs 69621).log2 = 16 := by decide +kernel
  have l4 : (Int.natAbs 16807).log2 = 14 := by decide +kernel
  have e1 : ∀ h, mulV (.int key) (.int 48271) h = ret (.int (key * 48271)) h := fun h => mul_ok (by omega)
  have e2 : ∀ h, mulV (.int turn) (.int 2862933555777941757) h = ret (.int (turn * 2862933555777941757)) h := fun h => mul_ok (by omega)
  have e3 : ∀ i h, modV (.int i) (.int 2305843009213693951) h = ret (.int (i % 2305843009213693951)) h := fun i h => mod_ok (by decide)
  have e4 : ∀ h, mulV (.int (mix1 key turn)) (.int (mix1 key turn)) h = ret (.int (mix1 key turn * mix1 key turn)) h := fun h => mul_ok (by omega)
  have e5 : ∀ i h, fdivV (.int i) (.int 1073741824) h = ret (.int (i / 1073741824)) h := fun i h => fdiv_ok (by decide) (by decide +kernel)
  have e6 : ∀ h, mulV (.int turn) (.int 69621) h = ret (.int (turn * 69621)) h := fun h => mul_ok (by omega)
  have e7 : ∀ h, mulV (.int (mix2 (mix1 key turn) turn)) (.int (mix2 (mix1 key turn) turn)) h = ret (.int (mix2 (mix1 key turn) turn * mix2 (mix1 key turn) turn)) h := fun h => mul_ok (by omega)
  have e8 : ∀ i h, fdivV (.int i) (.int 4194304) h = ret (.int (i / 4194304)) h := fun i h => fdiv_ok (by decide) (by decide +kernel)
  have e9 : ∀ h, mulV (.int key) (.int 16807) h = ret (.int (key * 16807)) h := fun h => mul_ok (by omega)
  have f1 : (key * 48271 + turn * 2862933555777941757 + 1442695040888963407) % 2305843009213693951 = mix1 key turn := rfl
  have f2 : ∀ one, (one * one + one / 1073741824 + turn * 69621) % 2305843009213693951 = mix2 one turn := fun _ => rfl
  have f3 : ∀ two, (two * two + two / 4194304 + key * 16807 + 1) % 2305843009213693951 = mix3 two key := fun _ => rfl
  simp [d_law_mix, b_law_mix, Mp.start, e1, e2, e3, f1, e4, e5, e6, f2, e7, e8, e9, f3, mixF]
end
end Cf
set_option Elab.async false
set_option linter.all false
set_option maxRecDepth 100000
set_option maxHeartbeats 400000
namespace Cf
open Mp
section
variable {Γ : Gam} {wf : Nat} {ns : List Int} {s : St6} {e : Hq} {h : Hq} {T n : Nat}
def Nox (h : Hq) : Prop := h.map killX = h
theorem Nox.nil : Nox [] := rfl
theorem Nox.app {a b : Hq} (ha : Nox a) (hb : Nox b) : Nox (a ++ b) := by
  unfold Nox at *
  rw [List.map_append, ha, hb]
theorem Nox.one {o : Ob} (h : killX o = o) : Nox [o] := by
  unfold Nox
  rw [List.map_cons, h]
  rfl
theorem mod_big (i : Int) : modV (.int i) (.int big) h = ret (.int (i % big)) h := mod_ok (by decide +kernel)
theorem mod_prime (i : Int) : modV (.int i) (.int 2305843009213693951) h = ret (.int (i % 2305843009213693951)) h := mod_ok (by decide)
theorem prime_big : (2305843009213693951 : Int) < big := by decide +kernel
theorem hash_ok (xs : List Int) {D : Nat} {v0 v1 v2 v3 : Option W} : ∀ (key : Int) (o : Option W), 0 ≤ key → key < 2305843009213693951 → (∃ a, h[D]? = some a) →
    ∃ (key' : Int) (o' : Option W), 0 ≤ key' ∧ key' < 2305843009213693951 ∧ ∀ g, stays g h = true → forL g 4 (Bd Γ (call Γ wf n) wf (.cons (.asg 5 (.bin .mod (.fn .int (.cons (.bin .add (.bin .mul (.var 5) (.cst (.int (1000003)))) (.bin .mod (.fn .int (.cons (.var 4) .nil)) (.var 1))) .nil)) (.var 1))) .nil)) (xs.map W.int) [v0, some (.int 2305843009213693951), v2, v3, o, some (.int key)] h =
      some (.nx [v0, some (.int 2305843009213693951), v2, v3, o', some (.int key')], h) := by
  induction xs with
  | nil => exact fun key o a b _ => ⟨key, o, a, b, fun g hg => forL_nil hg⟩
  | cons x xs ih =>
    intro key o a b hD
    obtain ⟨k', o', a', b', q⟩ := ih ((key * 1000003 + x % 2305843009213693951) % 2305843009213693951) (some (.int x)) (Int.emod_nonneg _ (by decide)) (Int.emod_lt_of_pos _ (by decide)) hD
    refine ⟨k', o', a', b', fun g hg => ?_⟩
    have b1 := lg61 ⟨a, b⟩
    have l1 : (Int.natAbs 1000003).log2 = 19 := by decide +kernel
    have e1 : ∀ h, mulV (.int key) (.int 1000003) h = ret (.int (key * 1000003)) h := fun h => mul_ok (by omega)
    rw [← q g hg, List.map_cons]
    refine forL_cons hg ?_
    simp [Bd_ap, e1, mod_prime]
theorem load_ok (P : Pre Γ) (i : Inv ns s T) : ∃ s' j, call Γ wf (n + 1) 4 [.ref 3] (B ns s ++ e) = some (.ok .non, B ns s' ++ (e ++ j)) ∧ Inv ns s' T ∧ Nox j := by
  rw [call_s P.load rfl]
  by_cases hlt : s.at_ < ns.length
  · obtain ⟨c, hc⟩ := st_cell (e := e) (s := s) i.a0 hlt
    by_cases h1 : 1000000000000000000 ≤ c ∨ c ≤ -1000000000000000000
    · refine ⟨{ s with at_ := s.at_ + 1, kind := 1, key := (if c < 0 then -c else c) % big, left := 6 }, [], ?_, ⟨i.len, by have := i.a0; show 0 ≤ s.at_ + 1; omega, by show s.at_ + 1 ≤ _; omega, Int.emod_nonneg _ (by decide +kernel), Int.emod_lt_of_pos _ (by decide +kernel), i.t0, i.t1⟩, Nox.nil⟩
      rcases h1 with h1 | h1
      · simp [d_law_load, b_law_load, Mp.start, hlt, hc, pow18, pow60, pow600, h1, mod_big]
      · by_cases h2 : 1000000000000000000 ≤ c
        · simp [d_law_load, b_law_load, Mp.start, hlt, hc, pow18, pow60, pow600, h1, h2, mod_big]
        · simp [d_law_load, b_law_load, Mp.start, hlt, hc, pow18, pow60, pow600, h1, h2, mod_big]
    · have h2 : ¬ 1000000000000000000 ≤ c := fun z => h1 (.inl z)
      have h3 : ¬ c ≤ -1000000000000000000 := fun z => h1 (.inr z)
      have b1 : c.natAbs.log2 ≤ 60 := lg (by omega)
      have b2 : s.at_.natAbs.log2 ≤ 60 := lg (by have := i.a0; have := i.len; omega)
      have l1 : (Int.natAbs 97).log2 = 6 := by decide +kernel
      have l2 : (Int.natAbs 1000003).log2 = 19 := by decide +kernel
      have e1 : ∀ h, mulV (.int c) (.int 97) h = ret (.int (c * 97)) h := fun h => mul_ok (by omega)
      have e2 : ∀ h, mulV (.int s.at_) (.int 1000003) h = ret (.int (s.at_ * 1000003)) h := fun h => mul_ok (by omega)
      refine ⟨{ s with at_ := s.at_ + 1, kind := 2, key := (c * 97 + s.at_ * 1000003 + 11) % 2305843009213693951, left := 6 }, [], ?_, ⟨i.len, by have := i.a0; show 0 ≤ s.at_ + 1; omega, by show s.at_ + 1 ≤ _; omega, Int.emod_nonneg _ (by decide), Int.lt_trans (Int.emod_lt_of_pos _ (by decide)) prime_big, i.t0, i.t1⟩, Nox.nil⟩
      simp [d_law_load, b_law_load, Mp.start, hlt, hc, pow18, h2, h3, mod_prime, e1, e2]
  · have hl := i.len
    obtain ⟨k', o', a', b', q⟩ := hash_ok (Γ := Γ) (wf := wf) (n := n) (h := B ns s ++ (e ++ [.lst (ns.map W.int)])) (D := 0) (v0 := some (.ref 3)) (v1 := none) (v2 := some (.ref 2)) (v3 := some (.int s.at_)) ns (ns.length + 1) none (by omega) (by omega) ⟨_, rfl⟩
    refine ⟨{ s with kind := 0, key := k' }, [.lst (ns.map W.int)], ?_, ⟨i.len, i.a0, i.a1, a', Int.lt_trans b' prime_big, i.t0, i.t1⟩, Nox.one rfl⟩
    have g := get_new2 (B ns s) e (.lst (ns.map W.int))
    have q := q _ (stays_at g)
    simp [d_law_load, b_law_load, Mp.start, hlt, alloc, walk_lst g, q]
end
end Cf
set_option Elab.async false
set_option linter.all false
set_option maxRecDepth 100000
set_option maxHeartbeats 400000
namespace Cf
open Mp
section
variable {Γ : Gam} {wf : Nat} {ns : List Int} {s : St6} {e : Hq} {h : Hq} {T n : Nat}
theorem lgk {k : Int} (h0 : 0 ≤ k) (h1 : k < big) : k.natAbs.log2 ≤ 2000 := lg (by
  have : big < 2 ^ 2000 := by decide +kernel
  have e : ((2 : Int) ^ 2000) = ((2 ^ 2000 : Nat) : Int) := by norm_cast
  rw [e] at this
  generalize (2 : Nat) ^ 2000 = N at *
  omega)
theorem lgt {t : Int} (h0 : 0 ≤ t) (h1 : t ≤ 4000000000) : t.natAbs.log2 ≤ 2000 := lgk h0 (Int.lt_of_le_of_lt h1 (by decide +kernel))
theorem fdiv16 (i : Int) : fdivV (.int i) (.int 16) h = ret (.int (i / 16)) h := fdiv_ok (by decide) (by decide +kernel)
/-- a draw -/
theorem take_ok (P : Pre Γ) (i : Inv ns s T) (hT : T ≤ 3000000000) {count : Int} (h2 : 2 ≤ count) (hc : count ≤ 4000000000) :
    ∃ s' j v, call Γ wf (n + 2) 5 [.ref 3, .int count] (B ns s ++ e) = some (.ok (.int v), B ns s' ++ (e ++ j)) ∧ Inv ns s' (T + 1) ∧ Nox j ∧ 0 ≤ v ∧ v < count := by
  have hlc : count.natAbs.log2 < 9000 := Nat.lt_of_le_of_lt (lgt (by omega) hc) (by decide)
  have md : ∀ i h, modV (.int i) (.int count) h = ret (.int (i % count)) h := fun i h => mod_ok (by omega)
  have fd : ∀ i h, fdivV (.int i) (.int count) h = ret (.int (i / count)) h := fun i h => fdiv_ok (by omega) hlc
  rw [call_s P.take rfl]
  have n2 : ¬ count < 2 := by omega
  have main : WF (exSs Γ wf (call Γ wf (n + 1)) b_law_take (Mp.start 4 [.ref 3, .int count]) (B ns s ++ e)) fun f h => ∃ s' j v, f = .ret (.int v) ∧ h = B ns s' ++ (e ++ j) ∧ Inv ns s' (T + 1) ∧ Nox j ∧ 0 ≤ v ∧ v < count := by
    simp only [b_law_take, Mp.start, exSs_cons, exS_ite, evT_cmp, evE_var, List.map, List.replicate, List.length, List.append, List.cons_append, List.nil_append, List.getElem?_cons_zero, List.getElem?_cons_succ, varF_some, bnd_ret, kCmpT1_ap, evE_cst, kCmpT2_ap, cmp_lt_int, optT_some, lft_ret, n2, decide_false, kIf_f, exSs_nil, sq_nx, kSs_ap, exS_for, evS_rng, kRng_ap, show rngOk 70 = true from rfl, rngF_t, kFor_ap]
    refine WF_sq ((forL_ok (I := fun xs ρ h => ∃ s' j o2 o3, ρ = [some (.ref 3), some (.int count), o2, o3] ∧ h = B ns s' ++ (e ++ j) ∧ Inv ns s' T ∧ Nox j)
      (Q := fun f h => (∃ ρ s' j o2 o3, f = .nx ρ ∧ ρ = [some (.ref 3), some (.int count), o2, o3] ∧ h = B ns s' ++ (e ++ j) ∧ Inv ns s' T ∧ Nox j) ∨ ∃ s' j v, f = .ret (.int v) ∧ h = B ns s' ++ (e ++ j) ∧ Inv ns s' (T + 1) ∧ Nox j ∧ 0 ≤ v ∧ v < count)
      (fun _ _ _ _ => rfl) ?_ ?_ _ _ _ ?_).mono ?_)
    · rintro x xs ρ h ⟨s', j, o2, o3, rfl, rfl, i', nj⟩
      rw [Bd_ap]
      by_cases c0 : s'.kind = 0
      · simp [c0]
        exact ⟨s', j, rfl, i', nj⟩
      by_cases c1 : s'.kind = 1 ∧ 0 < s'.key
      · obtain ⟨c1, c2⟩ := c1
        simp [c1, c2, md, fd]
        exact ⟨_, j, rfl, ⟨i'.len, i'.a0, i'.a1, Int.ediv_nonneg i'.k0 (by omega), Int.lt_of_le_of_lt (Int.ediv_le_self _ i'.k0) i'.k1, i'.t0, Int.le_trans i'.t1 (by omega)⟩, nj, Int.emod_nonneg _ (by omega), Int.emod_lt_of_pos _ (by omega)⟩
      by_cases c2 : s'.kind = 2 ∧ 0 < s'.left
      · obtain ⟨c2, c3⟩ := c2
        have m : ∀ h, call Γ wf (n + 1) 2 [.int s'.key, .int (s'.turn + 1)] h = some (.ok (.int (mixF s'.key (s'.turn + 1))), h) := fun h => mix_ok P (lgk i'.k0 i'.k1) (lgt (by have := i'.t0; omega) (by have := i'.t1; omega))
        simp [c2, c3, md, fd, fdiv16, m]
        exact ⟨_, j, rfl, ⟨i'.len, i'.a0, i'.a1, i'.k0, i'.k1, by have := i'.t0; show 0 ≤ s'.turn + 1; omega, by have := i'.t1; show s'.turn + 1 ≤ _; omega⟩, nj, Int.emod_nonneg _ (by omega), Int.emod_lt_of_pos _ (by omega)⟩
      · obtain ⟨s2, j2, l1, l2, l3⟩ := load_ok (wf := wf) (n := n) (e := e ++ j) P i'
        have fin : ∃ x x_1, B ns s2 ++ (e ++ (j ++ j2)) = B ns x ++ (e ++ x_1) ∧ Inv ns x T ∧ Nox x_1 := ⟨s2, j ++ j2, rfl, l2, nj.app l3⟩
        have l1 : call Γ wf (n + 1) 4 [.ref 3] (B ns s' ++ (e ++ j)) = some (.ok .non, B ns s2 ++ (e ++ (j ++ j2))) := by rw [l1, List.append_assoc]
        by_cases a1 : s'.kind = 1
        · have a2 : ¬ 0 < s'.key := fun z => c1 ⟨a1, z⟩
          simp [a1, a2, l1]
          exact fin
        · by_cases a2 : s'.kind = 2
          · have a3 : ¬ 0 < s'.left := fun z => c2 ⟨a2, z⟩
            simp [a2, a3, l1]
            exact fin
          · simp [c0, a1, a2, l1]
            exact fin
    · rintro ρ h ⟨s', j, o2, o3, rfl, rfl, i', nj⟩
      exact .inl ⟨_, s', j, o2, o3, rfl, rfl, rfl, i', nj⟩
    · exact ⟨s, [], none, none, rfl, by simp, i, Nox.nil⟩
    · rintro f h (⟨ρ, s', j, o2, o3, rfl, rfl, rfl, i', nj⟩ | ⟨s', j, v, rfl, r⟩)
      · have m : ∀ h, call Γ wf (n + 1) 2 [.int s'.key, .int (s'.turn + 1)] h = some (.ok (.int (mixF s'.key (s'.turn + 1))), h) := fun h => mix_ok P (lgk i'.k0 i'.k1) (lgt (by have := i'.t0; omega) (by have := i'.t1; omega))
        simp [md, fdiv16, m]
        exact ⟨_, j, rfl, ⟨i'.len, i'.a0, i'.a1, i'.k0, i'.k1, by have := i'.t0; show 0 ≤ s'.turn + 1; omega, by have := i'.t1; show s'.turn + 1 ≤ _; omega⟩, nj, Int.emod_nonneg _ (by omega), Int.emod_lt_of_pos _ (by omega)⟩
      · exact ⟨s', j, v, rfl, r⟩
  obtain ⟨f, h', e1, s', j, v, rfl, rfl, r⟩ := main.ex
  refine ⟨s', j, v, ?_, r⟩
  show endF (exSs Γ wf (call Γ wf (n + 1)) b_law_take (Mp.start 4 [.ref 3, .int count]) (B ns s ++ e)) = _
  rw [e1]
  rfl
end
end Cf
set_option Elab.async false
set_option linter.all false
set_option maxRecDepth 100000
set_option maxHeartbeats 400000
namespace Cf
open Mp
/-- a call that draws: f(store, args) has a value of Post, after at most c draws -/
def SK (Γ : Gam) (wf n f : Nat) (args : List W) (M c : Nat) (Post : W → Prop) : Prop := ∀ (ns : List Int) (s : St6) (e : Hq) (T : Nat), Inv ns s T → T ≤ M →
  ∃ s' j v, call Γ wf n f (.ref 3 :: args) (B ns s ++ e) = some (.ok v, B ns s' ++ (e ++ j)) ∧ Inv ns s' (T + c) ∧ Nox j ∧ Post v
section
variable {Γ : Gam} {wf : Nat} {n : Nat}
theorem SK.up {f : Nat} {args : List W} {M M' c c' : Nat} {Post Post' : W → Prop} (a : SK Γ wf n f args M c Post) (hM : M' ≤ M) (hc : c ≤ c') (hp : ∀ v, Post v → Post' v) : SK Γ wf n f args M' c' Post' := fun ns s e T i hT => by
  obtain ⟨s', j, v, h1, h2, h3, h4⟩ := a ns s e T i (Nat.le_trans hT hM)
  exact ⟨s', j, v, h1, h2.up (by omega), h3, hp v h4⟩
/-- drawn below count -/
def Dr (count : Int) (v : W) : Prop := ∃ i, v = .int i ∧ 0 ≤ i ∧ i < count
theorem take_sk (P : Pre Γ) {count : Int} (h1 : 1 ≤ count) (hc : count ≤ 4000000000) : SK Γ wf (n + 2) 5 [.int count] 3000000000 1 (Dr count) := fun ns s e T i hT => by
  by_cases h2 : count < 2
  · refine ⟨s, [], .int 0, ?_, i.up (by omega), Nox.nil, 0, rfl, by omega, by omega⟩
    rw [call_s P.take rfl]
    simp [d_law_take, b_law_take, Mp.start, h2]
  · obtain ⟨s', j, v, a, b, c, d⟩ := take_ok (wf := wf) (n := n) (e := e) P i hT (by omega) hc
    exact ⟨s', j, _, a, b, c, v, rfl, d⟩
theorem hit_sk (P : Pre Γ) (h6 : Γ.fn 6 = some d_law_hit) {w : Int} (h1 : 1 ≤ w) (hc : w ≤ 4000000000) : SK Γ wf (n + 3) 6 [.int w] 3000000000 1 (fun v => ∃ b, v = .bl b) := fun ns s e T i hT => by
  obtain ⟨s', j, v, a, b, c, x, rfl, _⟩ := take_sk (wf := wf) (n := n) P h1 hc ns s e T i hT
  refine ⟨s', j, .bl (decide (x = 0)), ?_, b, c, _, rfl⟩
  rw [call_s h6 rfl]
  simp [d_law_hit, b_law_hit, Mp.start, a]
theorem edge_sk (P : Pre Γ) (h7 : Γ.fn 7 = some d_law_edge) {lo hi : Int} (h0 : lo ≤ hi) (hc : hi - lo ≤ 3000000000) : SK Γ wf (n + 3) 7 [.int lo, .int hi] 2000000000 2 (fun v => ∃ i, v = .int i ∧ lo ≤ i ∧ i ≤ hi) := fun ns s e T i hT => by
  obtain ⟨s', j, v, a, b, c, x, rfl, x0, x1⟩ := take_sk (wf := wf) (n := n) P (count := 9) (by decide) (by decide) ns s e T i (by omega)
  rw [call_s h7 rfl]
  by_cases c0 : x = 0
  · subst c0
    refine ⟨s', j, .int lo, ?_, b.up (by omega), c, lo, rfl, by omega, by omega⟩
    simp [d_law_edge, b_law_edge, Mp.start, a]
  by_cases c1 : x = 1
  · subst c1
    refine ⟨s', j, .int hi, ?_, b.up (by omega), c, hi, rfl, by omega, by omega⟩
    simp [d_law_edge, b_law_edge, Mp.start, a]
  by_cases c2 : x = 2
  · subst c2
    refine ⟨s', j, .int (if hi < lo + 1 then hi else lo + 1), ?_, b.up (by omega), c, _, rfl, by split <;> omega, by split <;> omega⟩
    simp [d_law_edge, b_law_edge, Mp.start, a]
  by_cases c3 : x = 3
  · subst c3
    refine ⟨s', j, .int (if hi - 1 < lo then lo else hi - 1), ?_, b.up (by omega), c, _, rfl, by split <;> omega, by split <;> omega⟩
    simp [d_law_edge, b_law_edge, Mp.start, a]
  · obtain ⟨s2, j2, v2, a2, b2, c4, y, rfl, y0, y1⟩ := take_sk (wf := wf) (n := n) P (count := hi - lo + 1) (by omega) (by omega) ns s' (e ++ j) (T + 1) b (by omega)
    refine ⟨s2, j ++ j2, .int (lo + y), ?_, b2, c.app c4, _, rfl, by omega, by omega⟩
    simp [d_law_edge, b_law_edge, Mp.start, a, a2, c0, c1, c2, c3]
end
end Cf
set_option Elab.async false
set_option linter.all false
set_option maxRecDepth 100000
set_option maxHeartbeats 1000000
namespace Cf
open Mp
/-- a text of such a length -/
def Tx (lo hi : Nat) (v : W) : Prop := ∃ z : PySem.Str, v = .str z ∧ lo ≤ z.length ∧ z.length ≤ hi
theorem Tx.up {lo hi lo' hi' : Nat} {v : W} (t : Tx lo hi v) (h1 : lo' ≤ lo) (h2 : hi ≤ hi') : Tx lo' hi' v := let ⟨z, e, a, b⟩ := t; ⟨z, e, by omega, by omega⟩
section
variable {Γ : Gam} {wf : Nat} {n : Nat} {h : Hq}
theorem get_at {ns : List Int} {s : St6} {e j : Hq} {o : Ob} : (B ns s ++ (e ++ o :: j))[4 + e.length]? = some o := by
  have := get_mid (B ns s ++ e) j o
  rw [List.append_assoc, List.length_append] at this
  exact this
theorem rngL_len (j : Int) : (rngL 0 j).length = j.toNat := by
  unfold rngL
  rw [List.length_map, List.length_range, Int.sub_zero]
@[simp] theorem B_len {ns : List Int} {s : St6} : (B ns s).length = 4 := rfl
theorem ix_ch {z : PySem.Str} {v : W} {m : Int} (hz : z.length ≤ line) (hm : m ≤ z.length) (d : Dr m v) : ∃ c : PySem.Str, c.length = 1 ∧ ∀ h, ixV (.str z) v h = ret (.str c) h := by
  obtain ⟨i, rfl, h0, h1⟩ := d
  obtain ⟨c, _, e⟩ := atI_ok (xs := z.cps.toList) h0 (by rw [Array.length_toList]; exact Int.lt_of_lt_of_le h1 hm)
  refine ⟨⟨#[c]⟩, rfl, fun h => ?_⟩
  unfold ixV
  dsimp only
  rw [if_pos hz, e]
abbrev low : PySem.Str := PySem.Str.ofString "abcdefghijklmnopqrstuvwxyz0123456789"
theorem low_len : low.length = 36 := by decide +kernel
theorem name_sk (P : Pre Γ) (h12 : Γ.fn 12 = some d_law_name) : SK Γ wf (n + 3) 12 [] 2000000000 10 (Tx 1 8) := fun ns s e T i hT => by
  rw [call_s h12 rfl]
  have wd : ∃ ws : List W, ws = [W.str (PySem.Str.ofString "room"), W.str (PySem.Str.ofString "thing"), W.str (PySem.Str.ofString "at"), W.str (PySem.Str.ofString "way"), W.str (PySem.Str.ofString "place"), W.str (PySem.Str.ofString "arrow"), W.str (PySem.Str.ofString "p10"), W.str (PySem.Str.ofString "p2"), W.str (PySem.Str.ofString "t0"), W.str (PySem.Str.ofString "none")] := ⟨_, rfl⟩
  obtain ⟨ws, hw⟩ := wd
  have wl : ws.length = 10 := by rw [hw]; rfl
  have kw : ∀ h, kLst ws h = ret (.ref h.length) (h ++ [.lst ws]) := fun h => kLst_ok (by rw [wl]; decide)
  have wt : ∀ w ∈ ws, Tx 1 8 w := by
    rw [hw]
    intro w hm
    simp only [List.mem_cons, List.not_mem_nil, or_false] at hm
    rcases hm with rfl | rfl | rfl | rfl | rfl | rfl | rfl | rfl | rfl | rfl <;> exact ⟨_, rfl, by decide +kernel, by decide +kernel⟩
  obtain ⟨s1, j1, v1, a1, b1, c1, k, rfl, k0, k1⟩ := take_sk (wf := wf) (n := n) P (count := 9) (by decide) (by decide) ns s (e ++ [.lst ws]) T i (by omega)
  by_cases q0 : k = 0
  · obtain ⟨s2, j2, v2, a2, b2, c2, x, rfl, x0, x1⟩ := take_sk (wf := wf) (n := n) P (count := 10) (by decide) (by decide) ns s1 (e ++ [.lst ws] ++ j1) (T + 1) b1 (by omega)
    obtain ⟨w, m, e1⟩ := atI_ok (xs := ws) x0 (by rw [wl]; exact x1)
    refine ⟨s2, .lst ws :: (j1 ++ j2), w, ?_, b2.up (by omega), (Nox.one rfl).app (c1.app c2), wt w (List.mem_of_getElem? m)⟩
    simp only [List.append_assoc, List.cons_append, List.nil_append] at a1 a2
    have g : ∀ h, h = B ns s2 ++ (e ++ .lst ws :: (j1 ++ j2)) → ixV (.ref (4 + e.length)) (.int x) h = ret w h := fun h hh => ix_lst (by rw [hh]; exact get_at) e1
    simp [d_law_name, b_law_name, Mp.start, ← hw, kw, a1, q0, a2, g]
  · obtain ⟨s2, j2, v2, a2, b2, c2, x, rfl, x0, x1⟩ := take_sk (wf := wf) (n := n) P (count := 8) (by decide) (by decide) ns s1 (e ++ [.lst ws] ++ j1) (T + 1) b1 (by omega)
    obtain ⟨s3, j3, v3, a3, b3, c3, d3⟩ := take_sk (wf := wf) (n := n) P (count := 26) (by decide) (by decide) ns s2 (e ++ [.lst ws] ++ j1 ++ j2) (T + 2) b2 (by omega)
    obtain ⟨ch, hc, e3⟩ := ix_ch (z := low) (by decide +kernel) (by rw [low_len]; decide) d3
    have loop : ∀ sz : Int, 1 ≤ sz → sz ≤ 8 → ∀ o6, WF (forL none 6 (Bd Γ (call Γ wf (n + 2)) wf (.cons (.asg 5 (.bin .add (.var 5) (.ix (.var 1) (.call 5 (.cons (.var 0) (.cons (.cst (.int (36))) .nil)))))) .nil)) (rngL 0 (sz - 1))
        [some (.ref 3), some (.str low), some (.ref (4 + e.length)), some (.int k), some (.int sz), some (.str ch), o6] (B ns s3 ++ (e ++ [.lst ws] ++ j1 ++ j2 ++ j3))) fun f h => ∃ s' j z o, f = .nx [some (.ref 3), some (.str low), some (.ref (4 + e.length)), some (.int k), some (.int sz), some (.str z), o] ∧ h = B ns s' ++ (e ++ j) ∧ Inv ns s' (T + 10) ∧ Nox j ∧ 1 ≤ z.length ∧ z.length ≤ 8 := by
      intro sz z1 z8 o6
      refine forL_ok (I := fun xs ρ h => ∃ s' j z o T', ρ = [some (.ref 3), some (.str low), some (.ref (4 + e.length)), some (.int k), some (.int sz), some (.str z), o] ∧ h = B ns s' ++ (e ++ j) ∧ Inv ns s' T' ∧ Nox j ∧ 1 ≤ z.length ∧ z.length + xs.length ≤ 8 ∧ T' + xs.length ≤ T + 10) (fun _ _ _ _ => rfl) ?_ ?_ _ _ _ ?_
      · rintro x xs ρ h ⟨s', j, z, o, T', rfl, rfl, i', nj, l1, l2, l3⟩
        simp only [List.length_cons] at l2 l3
        obtain ⟨s4, j4, v4, a4, b4, c4, d4⟩ := take_sk (wf := wf) (n := n) P (count := 36) (by decide) (by decide) ns s' (e ++ j) T' i' (by omega)
        obtain ⟨ch', hc', e4⟩ := ix_ch (z := low) (by decide +kernel) (by rw [low_len]; decide) d4
        have lz : z.length + ch'.length ≤ line := Nat.le_trans (by omega : z.length + ch'.length ≤ 9) (by decide)
        have ad : ∀ h, addV (.str z) (.str ch') h = ret (.str (z ++ ch')) h := fun h => add_str lz
        have hb : Bd Γ (call Γ wf (n + 2)) wf (.cons (.asg 5 (.bin .add (.var 5) (.ix (.var 1) (.call 5 (.cons (.var 0) (.cons (.cst (.int (36))) .nil)))))) .nil) ([some (.ref 3), some (.str low), some (.ref (4 + e.length)), some (.int k), some (.int sz), some (.str z), o].set 6 (some x)) (B ns s' ++ (e ++ j)) =
            some (.nx [some (.ref 3), some (.str low), some (.ref (4 + e.length)), some (.int k), some (.int sz), some (.str (z ++ ch')), some x], B ns s4 ++ (e ++ (j ++ j4))) := by
          simp [Bd_ap, a4, e4, ad]
        rw [hb]
        exact ⟨s4, j ++ j4, z ++ ch', some x, T' + 1, rfl, rfl, b4, nj.app c4, by rw [slen]; omega, by rw [slen, hc']; omega, by omega⟩
      · rintro ρ h ⟨s', j, z, o, T', rfl, rfl, i', nj, l1, l2, l3⟩
        exact ⟨s', j, z, o, rfl, rfl, i'.up (by simp at l3; omega), nj, l1, by simp at l2; omega⟩
      · exact ⟨s3, [.lst ws] ++ j1 ++ j2 ++ j3, ch, o6, T + 3, rfl, by simp, b3, (((Nox.one rfl).app c1).app c2).app c3, by omega, by rw [rngL_len]; omega, by rw [rngL_len]; omega⟩
    have fin : ∀ sz : Int, 1 ≤ sz → sz ≤ 8 → (∀ f' h', forL none 6 (Bd Γ (call Γ wf (n + 2)) wf (.cons (.asg 5 (.bin .add (.var 5) (.ix (.var 1) (.call 5 (.cons (.var 0) (.cons (.cst (.int (36))) .nil)))))) .nil)) (rngL 0 (sz - 1))
        [some (.ref 3), some (.str low), some (.ref (4 + e.length)), some (.int k), some (.int sz), some (.str ch), none] (B ns s3 ++ (e ++ [.lst ws] ++ j1 ++ j2 ++ j3)) = some (f', h') →
        endF (exSs Γ wf (call Γ wf (n + 2)) d_law_name.body (Mp.start d_law_name.n [W.ref 3]) (B ns s ++ e)) = endF (sq (some (f', h')) (kSs Γ (call Γ wf (n + 2)) wf (.cons (.ret (.var 5)) .nil)))) →
        ∃ s' j v, endF (exSs Γ wf (call Γ wf (n + 2)) d_law_name.body (Mp.start d_law_name.n [W.ref 3]) (B ns s ++ e)) = some (.ok v, B ns s' ++ (e ++ j)) ∧ Inv ns s' (T + 10) ∧ Nox j ∧ Tx 1 8 v := by
      intro sz z1 z8 hh
      obtain ⟨f', h', e1, s', j, z, o, rfl, rfl, i', nj, l1, l2⟩ := (loop sz z1 z8 none).ex
      exact ⟨s', j, .str z, by rw [hh _ _ e1]; simp, i', nj, z, rfl, l1, l2⟩
    simp only [List.append_assoc, List.cons_append, List.nil_append] at a1 a2 a3 fin
    by_cases q1 : k = 1
    · refine fin 8 (by decide) (by decide) fun f' h' hf => ?_
      subst q1
      simp at hf
      simp [d_law_name, b_law_name, Mp.start, ← hw, kw, a1, a2, a3, e3, hf, show rngOk 7 = true from rfl]
    · by_cases q2 : k = 2
      · refine fin 1 (by decide) (by decide) fun f' h' hf => ?_
        subst q2
        simp at hf
        simp [d_law_name, b_law_name, Mp.start, ← hw, kw, a1, a2, a3, e3, hf, show rngOk 0 = true from rfl]
      · refine fin (1 + x) (by omega) (by omega) fun f' h' hf => ?_
        have hr : rngOk x = true := decide_eq_true (by omega)
        have e9 : 1 + x - 1 = x := by omega
        rw [e9] at hf
        simp [d_law_name, b_law_name, Mp.start, ← hw, kw, a1, a2, a3, e3, q0, q1, q2, hf, hr, e9]
end
end Cf
set_option Elab.async false
set_option linter.all false
set_option maxRecDepth 100000
set_option maxHeartbeats 1000000
namespace Cf
open Mp
abbrev sgB : PySem.Str := PySem.Str.ofString " !\"#$&'()*+,-./:;<=>?@ABCDEFGHIJKLMNOPQRSTUVWXYZ[\\]^_`{|}~"
abbrev sg1 : PySem.Str := PySem.Str.ofString " !\"#$&'()*+,-./0123456789:;<=>?@ABCDEFGHIJKLMNOPQRSTUVWXYZ[\\]^_`"
abbrev sg2 : PySem.Str := PySem.Str.ofString "abcdefghijklmnopqrstuvwxyz{|}~"
section
variable {Γ : Gam} {wf : Nat} {n : Nat} {h : Hq}
theorem sgB_len : sgB.length = 58 := by decide +kernel
theorem sg1_len : sg1.length = 64 := by decide +kernel
theorem sg2_len : sg2.length = 30 := by decide +kernel
theorem cut_s {z : PySem.Str} (hz : z.length ≤ 400) (lo hi : Option Int) (h : Hq) : cutW (.str z) lo hi h = ret (.str (L2.cutS z lo hi)) h := cut_str (Nat.le_trans hz (by decide))
theorem add_s {a b : PySem.Str} (ha : a.length ≤ 400) (hb : b.length ≤ 400) (h : Hq) : addV (.str a) (.str b) h = ret (.str (a ++ b)) h := add_str (Nat.le_trans (Nat.add_le_add ha hb) (by decide))
theorem len_s {z : PySem.Str} (hz : z.length ≤ 400) (h : Hq) : fnV Γ .len [.str z] h = ret (.int z.length) h := len_str (Nat.le_trans hz (by decide))
theorem badname_sk (P : Pre Γ) (h12 : Γ.fn 12 = some d_law_name) (h13 : Γ.fn 13 = some d_law_badname) : SK Γ wf (n + 4) 13 [] 1000000000 20 (Tx 0 320) := fun ns s e T i hT => by
  rw [call_s h13 rfl]
  obtain ⟨s1, j1, v1, a1, b1, c1, k, rfl, k0, k1⟩ := take_sk (wf := wf) (n := n + 1) P (count := 7) (by decide) (by decide) ns s e T i (by omega)
  by_cases q0 : k = 0
  · subst q0
    refine ⟨s1, j1, .str (PySem.Str.ofString ""), ?_, b1.up (by omega), c1, _, rfl, Nat.zero_le _, by decide +kernel⟩
    simp [d_law_badname, b_law_badname, Mp.start, a1]
  obtain ⟨s2, j2, v2, a2, b2, c2, z, rfl, z0, z1⟩ := name_sk (wf := wf) (n := n) P h12 ns s1 (e ++ j1) (T + 1) b1 (by omega)
  simp only [List.append_assoc] at a2
  have cs := fun lo hi h => cut_s (z := z) (by omega) lo hi h
  have cl := fun lo hi => cutS_len z lo hi
  by_cases q1 : k = 1
  · subst q1
    have r := repS_len z 9
    have m : ∀ h, mulV (.str z) (.int 9) h = ret (.str (repS z 9)) h := fun h => mul_str (by decide) (by decide) (Nat.le_trans (Nat.mul_le_mul_right _ z1) (by decide))
    have r9 : (repS z 9).length ≤ 72 := Nat.le_trans r (Nat.mul_le_mul_right _ z1)
    have c := fun lo hi h => cut_s (z := repS z 9) (by omega) lo hi h
    refine ⟨s2, j1 ++ j2, .str (L2.cutS (repS z 9) none (some 9)), ?_, b2.up (by omega), c1.app c2, _, rfl, Nat.zero_le _, Nat.le_trans (cutS_len _ _ _) (by omega)⟩
    simp [d_law_badname, b_law_badname, Mp.start, a1, a2, m, c]
  by_cases q2 : k = 2
  · subst q2
    obtain ⟨s3, j3, v3, a3, b3, c3, x, rfl, x0, x1⟩ := take_sk (wf := wf) (n := n + 1) P (count := 32) (by decide) (by decide) ns s2 (e ++ j1 ++ j2) (T + 1 + 10) b2 (by omega)
    simp only [List.append_assoc] at a3
    have r := repS_len z 40
    have m : ∀ h, mulV (.str z) (.int 40) h = ret (.str (repS z 40)) h := fun h => mul_str (by decide) (by decide) (Nat.le_trans (Nat.mul_le_mul_right _ z1) (by decide))
    have r9 : (repS z 40).length ≤ 320 := Nat.le_trans r (Nat.mul_le_mul_right _ z1)
    have c := fun lo hi h => cut_s (z := repS z 40) (by omega) lo hi h
    refine ⟨s3, j1 ++ (j2 ++ j3), .str (L2.cutS (repS z 40) none (some (9 + x))), ?_, b3.up (by omega), c1.app (c2.app c3), _, rfl, Nat.zero_le _, Nat.le_trans (cutS_len _ _ _) (by omega)⟩
    simp [d_law_badname, b_law_badname, Mp.start, a1, a2, a3, m, c]
  by_cases q3 : k = 3
  · subst q3
    obtain ⟨s3, j3, v3, a3, b3, c3, d3⟩ := take_sk (wf := wf) (n := n + 1) P (count := 10) (by decide) (by decide) ns s2 (e ++ j1 ++ j2) (T + 1 + 10) b2 (by omega)
    obtain ⟨ch, hc, e3⟩ := ix_ch (z := PySem.Str.ofString "0123456789") (by decide +kernel) (by decide +kernel) d3
    simp only [List.append_assoc] at a3
    have ad := fun h => add_s (a := ch) (b := L2.cutS z none (some 7)) (by omega) (by have := cl none (some 7); omega) h
    refine ⟨s3, j1 ++ (j2 ++ j3), .str (ch ++ L2.cutS z none (some 7)), ?_, b3.up (by omega), c1.app (c2.app c3), _, rfl, Nat.zero_le _, by rw [slen]; have := cl none (some 7); omega⟩
    simp [d_law_badname, b_law_badname, Mp.start, a1, a2, a3, cs, e3, ad]
  by_cases q4 : k = 4
  · subst q4
    have u := upper_len (L2.cutS z none (some 7))
    have cz := cl none (some 7)
    have up : ∀ h, mthV .upper (.str (L2.cutS z none (some 7))) [] h = ret (.str (PySem.Txt.upper (L2.cutS z none (some 7)))) h := fun h => upper_ok (Nat.le_trans cz (by omega))
    have la : (PySem.Str.ofString "A").length = 1 := by decide +kernel
    have ad := fun h => add_s (a := PySem.Txt.upper (L2.cutS z none (some 7))) (b := PySem.Str.ofString "A") (by omega) (by omega) h
    refine ⟨s2, j1 ++ j2, .str (PySem.Txt.upper (L2.cutS z none (some 7)) ++ PySem.Str.ofString "A"), ?_, b2.up (by omega), c1.app c2, _, rfl, Nat.zero_le _, by rw [slen]; omega⟩
    simp [d_law_badname, b_law_badname, Mp.start, a1, a2, cs, up, ad]
  obtain ⟨s3, j3, v3, a3, b3, c3, x, rfl, x0, x1⟩ := take_sk (wf := wf) (n := n + 1) P (count := (z.length : Int) + 1) (by omega) (by omega) ns s2 (e ++ j1 ++ j2) (T + 1 + 10) b2 (by omega)
  obtain ⟨s4, j4, v4, a4, b4, c4, d4⟩ := take_sk (wf := wf) (n := n + 1) P (count := 58) (by decide) (by decide) ns s3 (e ++ j1 ++ j2 ++ j3) (T + 1 + 10 + 1) b3 (by omega)
  obtain ⟨ch, hc, e4⟩ := ix_ch (z := sgB) (by rw [sgB_len]; decide) (by rw [sgB_len]; decide) d4
  simp only [List.append_assoc] at a3 a4
  have l1 := cl none (some x)
  have l2 := cl (some x) none
  have ad1 := fun h => add_s (a := L2.cutS z none (some x)) (b := ch) (by omega) (by omega) h
  have ad2 := fun h => add_s (a := L2.cutS z none (some x) ++ ch) (b := L2.cutS z (some x) none) (by rw [slen]; omega) (by omega) h
  have lz := fun h => len_s (Γ := Γ) (z := z) (by omega) h
  have lb : ∀ h, fnV Γ .len [.str sgB] h = ret (.int 58) h := fun h => by rw [len_s (by rw [sgB_len]; decide), sgB_len]; rfl
  refine ⟨s4, j1 ++ (j2 ++ (j3 ++ j4)), .str (L2.cutS z none (some x) ++ ch ++ L2.cutS z (some x) none), ?_, b4.up (by omega), c1.app (c2.app (c3.app c4)), _, rfl, Nat.zero_le _, by rw [slen, slen]; omega⟩
  simp [d_law_badname, b_law_badname, Mp.start, a1, a2, a3, a4, q0, q1, q2, q3, q4, cs, e4, lz, lb, ad1, ad2]
theorem text_sk (P : Pre Γ) (h7 : Γ.fn 7 = some d_law_edge) (h14 : Γ.fn 14 = some d_law_text) : SK Γ wf (n + 4) 14 [] 1000000000 42 (Tx 0 40) := fun ns s e T i hT => by
  rw [call_s h14 rfl]
  obtain ⟨s1, j1, v1, a1, b1, c1, m, rfl, m0, m1⟩ := edge_sk (wf := wf) (n := n) P h7 (lo := 0) (hi := 40) (by decide) (by decide) ns s e T i (by omega)
  have hr : rngOk m = true := decide_eq_true (by omega)
  have sl : (sg1 ++ sg2).length = 94 := by rw [slen, sg1_len, sg2_len]
  have ad0 := fun h => add_s (a := sg1) (b := sg2) (by rw [sg1_len]; decide) (by rw [sg2_len]; decide) h
  obtain ⟨f, h', ef, s', j, z, o, rfl, rfl, i', nj, lz⟩ := (forL_ok (g := none) (t := 3) (body := Bd Γ (call Γ wf (n + 3)) wf (.cons (.asg 2 (.bin .add (.var 2) (.ix (.var 1) (.call 5 (.cons (.var 0) (.cons (.cst (.int (94))) .nil)))))) .nil))
    (I := fun xs ρ h => ∃ s' j z o T', ρ = [some (.ref 3), some (.str (sg1 ++ sg2)), some (.str z), o] ∧ h = B ns s' ++ (e ++ j) ∧ Inv ns s' T' ∧ Nox j ∧ z.length + xs.length ≤ 40 ∧ T' + xs.length ≤ T + 42)
    (Q := fun f h => ∃ s' j z o, f = .nx [some (.ref 3), some (.str (sg1 ++ sg2)), some (.str z), o] ∧ h = B ns s' ++ (e ++ j) ∧ Inv ns s' (T + 42) ∧ Nox j ∧ z.length ≤ 40)
    (fun _ _ _ _ => rfl) (by
      rintro x xs ρ h ⟨s', j, z, o, T', rfl, rfl, i', nj, l2, l3⟩
      simp only [List.length_cons] at l2 l3
      obtain ⟨s4, j4, v4, a4, b4, c4, d4⟩ := take_sk (wf := wf) (n := n + 1) P (count := 94) (by decide) (by decide) ns s' (e ++ j) T' i' (by omega)
      obtain ⟨ch, hc, e4⟩ := ix_ch (z := sg1 ++ sg2) (by rw [sl]; decide) (by rw [sl]; decide) d4
      simp only [List.append_assoc] at a4
      have ad := fun h => add_s (a := z) (b := ch) (by omega) (by omega) h
      have hb : Bd Γ (call Γ wf (n + 3)) wf (.cons (.asg 2 (.bin .add (.var 2) (.ix (.var 1) (.call 5 (.cons (.var 0) (.cons (.cst (.int (94))) .nil)))))) .nil) ([some (.ref 3), some (.str (sg1 ++ sg2)), some (.str z), o].set 3 (some x)) (B ns s' ++ (e ++ j)) =
          some (.nx [some (.ref 3), some (.str (sg1 ++ sg2)), some (.str (z ++ ch)), some x], B ns s4 ++ (e ++ (j ++ j4))) := by
        simp [Bd_ap, a4, e4, ad]
      rw [hb]
      exact ⟨s4, j ++ j4, z ++ ch, some x, T' + 1, rfl, rfl, b4, nj.app c4, by rw [slen, hc]; omega, by omega⟩) (by
      rintro ρ h ⟨s', j, z, o, T', rfl, rfl, i', nj, l2, l3⟩
      exact ⟨s', j, z, o, rfl, rfl, i'.up (by simp at l3; omega), nj, by simp at l2; omega⟩) (rngL 0 m) [some (.ref 3), some (.str (sg1 ++ sg2)), some (.str (PySem.Str.ofString "")), none] (B ns s1 ++ (e ++ j1))
    ⟨s1, j1, _, none, T + 2, rfl, rfl, b1, c1, by rw [rngL_len, show (PySem.Str.ofString "").length = 0 from rfl]; omega, by rw [rngL_len]; omega⟩).ex
  refine ⟨s', j, .str z, ?_, i', nj, z, rfl, Nat.zero_le _, lz⟩
  simp [d_law_text, b_law_text, Mp.start, a1, hr, ad0, ef]
end
end Cf
set_option Elab.async false
set_option linter.all false
set_option maxRecDepth 100000
set_option maxHeartbeats 1000000
namespace Cf
open Mp
abbrev L26 : PySem.Str := PySem.Str.ofString "abcdefghijklmnopqrstuvwxyz"
abbrev D10 : PySem.Str := PySem.Str.ofString "0123456789"
theorem ld_eq : L26 ++ D10 = low := by decide +kernel
/-- one sign -/
abbrev sg (c : Nat) : PySem.Str := ⟨#[c]⟩
/-- is z a name? -/
def nameB (z : PySem.Str) : Bool := match z.cps.toList with
  | [] => false
  | c :: r => decide (z.length ≤ 8) && (hasS (sg c) L26 && (c :: r).all fun c => hasS (sg c) low)
/-- the values that names stand for -/
structure Glo (Γ : Gam) : Prop where
  l : Γ.glob 0 = some (.str L26)
  ld : Γ.glob 1 = some (.str low)
  m : Γ.glob 2 = some (.int 8)
section
variable {Γ : Gam} {wf : Nat} {n : Nat} {h : Hq}
@[simp] theorem cmp_nin_str (a b : PySem.Str) : cmpV .nin (.str a) (.str b) h = some (!hasS a b) := rfl
@[simp] theorem cmp_isin_str (a b : PySem.Str) : cmpV .isin (.str a) (.str b) h = some (hasS a b) := rfl
@[simp] theorem tru_bl (b : Bool) : truV h (.bl b) = some b := rfl
theorem ix_first {z : PySem.Str} {c : Nat} {r : List Nat} (hz : z.length ≤ 400) (e : z.cps.toList = c :: r) (h : Hq) : ixV (.str z) (.int 0) h = ret (.str (sg c)) h := by
  unfold ixV
  dsimp only
  have a : L2.atI (c :: r) 0 = some c := by
    obtain ⟨x, hx, ex⟩ := atI_ok (xs := c :: r) (i := 0) (by decide) (by simp only [List.length_cons]; omega)
    rw [ex]
    exact hx.symm
  rw [if_pos (Nat.le_trans hz (by decide)), e, a]
theorem len_of {z : PySem.Str} {l : List Nat} (e : z.cps.toList = l) : z.length = l.length := by
  show z.cps.size = _
  rw [← e, Array.length_toList]
theorem isname_ok (h11 : Γ.fn 11 = some d_law_isname) {z : PySem.Str} (hz : z.length ≤ 400) : ∃ j, call Γ wf (n + 1) 11 [.str z] h = some (.ok (.bl (nameB z)), h ++ j) ∧ Nox j := by
  rw [call_s h11 rfl]
  have hl := fun h => len_s (Γ := Γ) hz h
  cases e : z.cps.toList with
  | nil =>
    have l0 : z.length = 0 := len_of e
    refine ⟨[], ?_, Nox.nil⟩
    have en : nameB z = false := by unfold nameB; rw [e]
    rw [en]
    simp [d_law_isname, b_law_isname, Mp.start, hl, l0]
  | cons c r =>
    have l1 : z.length = r.length + 1 := len_of e
    have en : nameB z = (decide (z.length ≤ 8) && (hasS (sg c) L26 && (c :: r).all fun c => hasS (sg c) low)) := by unfold nameB; rw [e]
    have hx := ix_first hz e
    by_cases h8 : z.length ≤ 8
    · cases hc : hasS (sg c) L26 with
      | false =>
        refine ⟨[], ?_, Nox.nil⟩
        rw [en, hc]
        have g1 : ¬ (z.length : Int) < 1 := by omega
        have g2 : ¬ (8 : Int) < z.length := by omega
        simp [d_law_isname, b_law_isname, Mp.start, hl, g1, g2, hx, hc]
      | true =>
        have g1 : ¬ (z.length : Int) < 1 := by omega
        have g2 : ¬ (8 : Int) < z.length := by omega
        have ad := fun h => add_s (a := L26) (b := D10) (by decide +kernel) (by decide +kernel) h
        have cp := compL_ok (g := none) (t := Ct Γ (call Γ wf n) [some (.str z), some (.str L26), none] (.yes (.cmp .nin (.var 2) (.bin .add (.var 1) (.cst (.str D10))))) 2) (el := Ce Γ (call Γ wf n) [some (.str z), some (.str L26), none] (.var 2) 2)
          (p := fun w => match w with | .str x => !hasS x low | _ => false) (f := id) h (z.cps.toList.map fun c => W.str ⟨#[c]⟩) [] (fun _ => rfl)
          (fun x hx acc => by
            obtain ⟨c, _, rfl⟩ := List.mem_map.mp hx
            simp [Ct_ap, ad, ld_eq]) (fun x hx _ acc => by simp [Ce_ap]) (by
            rw [List.length_map, Array.length_toList]
            show 0 + z.length ≤ line
            exact Nat.le_trans (by omega : 0 + z.length ≤ 400) (by decide))
        refine ⟨[.lst (((z.cps.toList.map fun c => W.str ⟨#[c]⟩).filter fun w => match w with | .str x => !hasS x low | _ => false).map id)], ?_, Nox.one rfl⟩
        have ln := len_lst (Γ := Γ) (get_new1 h (.lst (((z.cps.toList.map fun c => W.str ⟨#[c]⟩).filter fun w => match w with | .str x => !hasS x low | _ => false).map id)))
        rw [List.nil_append] at cp
        have eb : decide (((((z.cps.toList.map fun c => W.str ⟨#[c]⟩).filter fun w => match w with | .str x => !hasS x low | _ => false).map id).length : Int) = 0) = (c :: r).all fun c => hasS (sg c) low := by
          rw [e, List.map_id]
          rw [Bool.eq_iff_iff, decide_eq_true_eq, List.all_eq_true]
          constructor
          · intro q x hx
            have q : ((((c :: r).map fun c => W.str ⟨#[c]⟩).filter fun w => match w with | .str x => !hasS x low | _ => false)) = [] := List.length_eq_zero_iff.mp (by omega)
            have := List.filter_eq_nil_iff.mp q (.str ⟨#[x]⟩) (List.mem_map.mpr ⟨x, hx, rfl⟩)
            simpa using this
          · intro q
            have : ((((c :: r).map fun c => W.str ⟨#[c]⟩).filter fun w => match w with | .str x => !hasS x low | _ => false)) = [] := List.filter_eq_nil_iff.mpr fun w hw => by
              obtain ⟨x, hx, rfl⟩ := List.mem_map.mp hw
              have := q x hx
              simp [this]
            rw [this]
            rfl
        rw [en, hc, decide_eq_true h8, ← eb, Bool.true_and, Bool.true_and]
        simp only [d_law_isname, b_law_isname, Mp.start, exSs_cons, exS_asg, exS_ite, exS_ret, evE_cst, evT_or, evT_cmp, evE_fn, evEs_cons, evEs_nil, evE_var, evE_cmp, evE_comp, evS_any, List.map, List.replicate, List.length, List.append, List.cons_append, List.nil_append, List.getElem?_cons_zero, List.getElem?_cons_succ, varF_some, bnd_ret, lft_ret, kAsg_ap, List.set, sq_nx, kSs_ap, kEs1_ap, kEs2_ap, hl, kCmpT1_ap, kCmpT2_ap, cmp_lt_int, cmp_gt_int, optT_some, g1, g2, decide_false, kOrT_f, evE_ix, kIx_ap, hx, cmp_nin_str, hc, Bool.not_true, kIf_f, exSs_nil, walk_str, kComp_ap, cp, compF_some, ln, kCmp1_ap, kCmp2_ap, cmp_eq_int, optB_some, kRet_ap, sq_ret, endF_ret]
    · refine ⟨[], ?_, Nox.nil⟩
      rw [en, decide_eq_false h8, Bool.false_and]
      have g1 : ¬ (z.length : Int) < 1 := by omega
      have g2 : (8 : Int) < z.length := by omega
      simp [d_law_isname, b_law_isname, Mp.start, hl, g1, g2]
theorem is_name_ok (h0 : Γ.fn 0 = some d_is_name) (g : Glo Γ) {z : PySem.Str} (hz : z.length ≤ 400) : call Γ wf (n + 1) 0 [.str z] h = some (.ok (.bl (nameB z)), h) := by
  rw [call_s h0 rfl]
  have hl := fun h => len_s (Γ := Γ) hz h
  cases e : z.cps.toList with
  | nil =>
    have l0 : z.length = 0 := len_of e
    have en : nameB z = false := by unfold nameB; rw [e]
    rw [en]
    simp [d_is_name, b_is_name, Mp.start, hl, l0]
  | cons c r =>
    have l1 : z.length = r.length + 1 := len_of e
    have en : nameB z = (decide (z.length ≤ 8) && (hasS (sg c) L26 && (c :: r).all fun c => hasS (sg c) low)) := by unfold nameB; rw [e]
    have hx := ix_first hz e
    by_cases h8 : z.length ≤ 8
    · have g1 : ¬ (z.length : Int) < 1 := by omega
      have g2 : ¬ (8 : Int) < z.length := by omega
      have loop : ∀ (xs : List Nat) (o : Option W), ∃ o', forL none 1 (Bd Γ (call Γ wf n) wf (.cons (.ite (.cmp .nin (.var 1) (.glob 1)) (.cons (.ret (.cst (.bl false))) .nil) .nil) .nil)) (xs.map fun c => W.str ⟨#[c]⟩) [some (.str z), o] h =
          if (xs.all fun c => hasS (sg c) low) = true then some (.nx [some (.str z), o'], h) else some (.ret (.bl false), h) := by
        intro xs
        induction xs with
        | nil => exact fun o => ⟨o, by rw [List.map_nil, forL_nil rfl]; rfl⟩
        | cons x xs ih =>
          intro o
          cases hc : hasS (sg x) low with
          | true =>
            obtain ⟨o', q⟩ := ih (some (.str ⟨#[x]⟩))
            refine ⟨o', ?_⟩
            rw [List.map_cons, forL_cons (ρ' := [some (.str z), some (.str ⟨#[x]⟩)]) (h' := h) rfl (by simp [Bd_ap, g.ld, hc]), q, List.all_cons, hc, Bool.true_and]
          | false =>
            refine ⟨o, ?_⟩
            rw [List.map_cons, forL, if_pos (show stays none h = true from rfl)]
            have : Bd Γ (call Γ wf n) wf (.cons (.ite (.cmp .nin (.var 1) (.glob 1)) (.cons (.ret (.cst (.bl false))) .nil) .nil) .nil) ([some (.str z), o].set 1 (some (.str ⟨#[x]⟩))) h = some (.ret (.bl false), h) := by simp [Bd_ap, g.ld, hc]
            rw [this, List.all_cons, hc]
            rfl
      obtain ⟨o', q⟩ := loop (c :: r) none
      rw [← e] at q
      rw [en, decide_eq_true h8, Bool.true_and]
      by_cases hall : (z.cps.toList.all fun c => hasS (sg c) low) = true
      · rw [if_pos hall] at q
        rw [← e, hall, Bool.and_true]
        simp [d_is_name, b_is_name, Mp.start, hl, g1, g2, g.m, q, hx, g.l]
      · rw [if_neg hall] at q
        rw [← e, Bool.eq_false_iff.mpr hall, Bool.and_false]
        simp [d_is_name, b_is_name, Mp.start, hl, g1, g2, g.m, q]
    · rw [en, decide_eq_false h8, Bool.false_and]
      have g1 : ¬ (z.length : Int) < 1 := by omega
      have g2 : (8 : Int) < z.length := by omega
      simp [d_is_name, b_is_name, Mp.start, hl, g1, g2, g.m]
theorem check_name_ok (h0 : Γ.fn 0 = some d_is_name) (h1 : Γ.fn 1 = some d_check_name) (g : Glo Γ) {z : PySem.Str} (hz : z.length ≤ 400) :
    call Γ wf (n + 2) 1 [.str z] h = if nameB z = true then some (.ok (.str z), h) else some (.exc 1 (.str z), h) := by
  rw [call_s h1 rfl]
  have q := is_name_ok (wf := wf) (n := n) (h := h) h0 g hz
  cases hn : nameB z with
  | true =>
    rw [hn] at q
    simp [d_check_name, b_check_name, Mp.start, q]
  | false =>
    rw [hn] at q
    simp [d_check_name, b_check_name, Mp.start, q]
end
end Cf
set_option Elab.async false
set_option linter.all false
set_option maxRecDepth 100000
set_option maxHeartbeats 1000000
namespace Cf
open Mp
/-- the exceptions' classes -/
structure Exs (Γ : Gam) : Prop where
  hc : ∀ d, d < 23 → Γ.hc d = true
  exc : ∀ d, d < 23 → Γ.exc d = true
  sub : ∀ c d, c < 23 → d < 23 → Γ.sub c d = (c == d || d == 0)
  ty : ∀ c, c < 23 → Γ.subT c "ValueError" = true
  tys : "ValueError" ∈ Γ.tys
section
variable {Γ : Gam} {wf : Nat} {n : Nat} {h : Hq}
theorem isi_cls (E : Exs Γ) {q c d : Nat} {w : W} (hq : h[q]? = some (.exc c w)) (hc : c < 23) (hd : d < 23) : fnV Γ .isi [.ref q, .cls d] h = ret (.bl (c == d || d == 0)) h := by
  show optB (isiV Γ h (.ref q) (.cls d)) h = _
  have a : tyOf h (.ref q) = none := by unfold tyOf; dsimp only; rw [hq]
  have b : clsOf h (.ref q) = some (true, c) := by unfold clsOf; dsimp only; rw [hq]
  unfold isiV
  rw [a, b]
  dsimp only
  rw [if_pos ⟨E.hc c hc, E.exc c hc⟩, if_pos (E.hc d hd), E.sub c d hc hd]
  rfl
theorem isi_ve (E : Exs Γ) {q c : Nat} {w : W} (hq : h[q]? = some (.exc c w)) (hc : c < 23) : fnV Γ .isi [.ref q, .ty "ValueError"] h = ret (.bl true) h := by
  show optB (isiV Γ h (.ref q) (.ty "ValueError")) h = _
  have a : tyOf h (.ref q) = none := by unfold tyOf; dsimp only; rw [hq]
  have b : clsOf h (.ref q) = some (true, c) := by unfold clsOf; dsimp only; rw [hq]
  unfold isiV
  rw [a, b]
  dsimp only
  rw [if_pos ⟨E.hc c hc, E.exc c hc⟩, if_pos E.tys, E.ty c hc]
  rfl
theorem get_pre {a : Hq} {q : Nat} {o : Ob} (hq : h[q]? = some o) : (h ++ a)[q]? = some o := by
  rw [List.getElem?_append_left (List.getElem?_eq_some_iff.mp hq).1]
  exact hq
def nmsL : List W := ["BadName", "BadRooms", "BadNumber", "Double", "TooMany", "NoPlace", "NoArrow", "NoThing", "NoPrice", "NoRing", "Loop", "BadWay", "NoRoom", "BadLine", "NotPossible", "NotBarred", "NotClean", "SearchFull", "BadPlan", "Busy", "BadEvent", "WrongNet", "no ValueError"].map fun x => W.str (PySem.Str.ofString x)
def flgs (c : Nat) : List Bool := (List.range 22).map (fun d => c == d + 1) ++ [false]
def kindsL (c : Nat) : List W := ((rngL 0 23).filter fun w => match w with | .int i => (flgs c).getD i.toNat false | _ => false).map fun w => match w with | .int i => nmsL.getD i.toNat .non | _ => .non
theorem get_two (h a : Hq) (o : Ob) : (h ++ (o :: a))[h.length]? = some o := get_mid h a o
theorem get_three (h a : Hq) (o u : Ob) : (h ++ (o :: u :: a))[h.length + 1]? = some u := by
  rw [List.getElem?_append_right (by omega), show h.length + 1 - h.length = 1 by omega]
  rfl
theorem kinds_ok (E : Exs Γ) (h15 : Γ.fn 15 = some d_law_kinds) {q c : Nat} {w : W} (hc : c = 0 ∨ c = 1) (hq : h[q]? = some (.exc c w)) :
    call Γ wf (n + 1) 15 [.ref q] h = some (.ok (.ref (h.length + 2)), h ++ [.lst nmsL, .lst ((flgs c).map W.bl), .lst (kindsL c)]) := by
  rw [call_s h15 rfl]
  have cp := compL_ok (g := none) (t := Ct Γ (call Γ wf n) [some (.ref q), some (.ref h.length), some (.ref (h.length + 1)), none] (.yes (.ix (.var 2) (.var 3))) 3) (el := Ce Γ (call Γ wf n) [some (.ref q), some (.ref h.length), some (.ref (h.length + 1)), none] (.ix (.var 1) (.var 3)) 3)
    (p := fun w => match w with | .int i => (flgs c).getD i.toNat false | _ => false) (f := fun w => match w with | .int i => nmsL.getD i.toNat .non | _ => .non) (h ++ [.lst nmsL, .lst ((flgs c).map W.bl)]) (rngL 0 23) [] (fun _ => rfl)
    (fun x hx acc => by
      obtain ⟨k, hk, rfl⟩ := List.mem_map.mp hx
      have hk : k < 23 := List.mem_range.mp hk
      have fl : ((flgs c).map W.bl).length = 23 := by rw [List.length_map]; rfl
      obtain ⟨v, hv, e⟩ := atI_ok (xs := (flgs c).map W.bl) (i := 0 + (k : Int)) (by omega) (by omega)
      have ix := ix_lst (h := h ++ [.lst nmsL, .lst ((flgs c).map W.bl)] ++ [.lst acc]) (by rw [List.append_assoc]; exact get_three h _ _ _) e
      rw [List.getElem?_map] at hv
      cases hb : (flgs c)[(0 + (k : Int)).toNat]? with
      | none => rw [hb] at hv; cases hv
      | some b =>
        rw [hb] at hv
        cases hv
        rw [Ct_ap, evC_yes, evT_ix, evE_var]
        simp only [List.set, List.getElem?_cons_zero, List.getElem?_cons_succ, varF_some, bnd_ret, kIxT_ap, evE_var, kIxT2_ap, ix, kTru_ap, tru_bl, optT_some]
        rw [List.getD_eq_getElem?_getD, hb]
        rfl) (fun x hx _ acc => by
      obtain ⟨k, hk, rfl⟩ := List.mem_map.mp hx
      have hk : k < 23 := List.mem_range.mp hk
      obtain ⟨v, hv, e⟩ := atI_ok (xs := nmsL) (i := 0 + (k : Int)) (by omega) (by rw [show nmsL.length = 23 from rfl]; omega)
      have ix := ix_lst (h := h ++ [.lst nmsL, .lst ((flgs c).map W.bl)] ++ [.lst acc]) (by rw [List.append_assoc]; exact get_two h _ _) e
      rw [Ce_ap]
      simp only [evE_ix, evE_var, List.set, List.getElem?_cons_zero, List.getElem?_cons_succ, varF_some, bnd_ret, kIx_ap, ix]
      rw [List.getD_eq_getElem?_getD, hv]
      rfl) (by rw [rngL_len]; decide)
  rw [List.nil_append] at cp
  have cp' : compL none (h.length + 2) (Ct Γ (call Γ wf n) [some (.ref q), some (.ref h.length), some (.ref (h.length + 1)), none] (.yes (.ix (.var 2) (.var 3))) 3) (Ce Γ (call Γ wf n) [some (.ref q), some (.ref h.length), some (.ref (h.length + 1)), none] (.ix (.var 1) (.var 3)) 3) (rngL 0 23) (h ++ [.lst nmsL, .lst ((flgs c).map W.bl), .lst []]) = some (h ++ [.lst nmsL, .lst ((flgs c).map W.bl), .lst (kindsL c)]) := by
    have l2 : (h ++ [Ob.lst nmsL, .lst ((flgs c).map W.bl)]).length = h.length + 2 := by rw [List.length_append]; rfl
    rw [l2, List.append_assoc, List.append_assoc] at cp
    exact cp
  have en : [W.str (PySem.Str.ofString "BadName"), W.str (PySem.Str.ofString "BadRooms"), W.str (PySem.Str.ofString "BadNumber"), W.str (PySem.Str.ofString "Double"), W.str (PySem.Str.ofString "TooMany"), W.str (PySem.Str.ofString "NoPlace"), W.str (PySem.Str.ofString "NoArrow"), W.str (PySem.Str.ofString "NoThing"), W.str (PySem.Str.ofString "NoPrice"), W.str (PySem.Str.ofString "NoRing"), W.str (PySem.Str.ofString "Loop"), W.str (PySem.Str.ofString "BadWay"), W.str (PySem.Str.ofString "NoRoom"), W.str (PySem.Str.ofString "BadLine"), W.str (PySem.Str.ofString "NotPossible"), W.str (PySem.Str.ofString "NotBarred"), W.str (PySem.Str.ofString "NotClean"), W.str (PySem.Str.ofString "SearchFull"), W.str (PySem.Str.ofString "BadPlan"), W.str (PySem.Str.ofString "Busy"), W.str (PySem.Str.ofString "BadEvent"), W.str (PySem.Str.ofString "WrongNet"), W.str (PySem.Str.ofString "no ValueError")] = nmsL := rfl
  have kn : ∀ h, kLst nmsL h = ret (.ref h.length) (h ++ [.lst nmsL]) := fun h => kLst_ok (by decide)
  have kf : ∀ h, kLst ((flgs c).map W.bl) h = ret (.ref h.length) (h ++ [.lst ((flgs c).map W.bl)]) := fun h => kLst_ok (by rw [List.length_map]; exact (by decide : 23 ≤ line))
  have hq' : (h ++ [.lst nmsL])[q]? = some (.exc c w) := get_pre hq
  have hcc : c < 23 := by omega
  have i : ∀ d, d < 23 → fnV Γ .isi [.ref q, .cls d] (h ++ [.lst nmsL]) = ret (.bl (c == d || d == 0)) (h ++ [.lst nmsL]) := fun d hd => isi_cls E hq' hcc hd
  have iv := isi_ve E hq' hcc
  have ef : [W.bl (c == 1 || 1 == 0), W.bl (c == 2 || 2 == 0), W.bl (c == 3 || 3 == 0), W.bl (c == 4 || 4 == 0), W.bl (c == 5 || 5 == 0), W.bl (c == 6 || 6 == 0), W.bl (c == 7 || 7 == 0), W.bl (c == 8 || 8 == 0), W.bl (c == 9 || 9 == 0), W.bl (c == 10 || 10 == 0), W.bl (c == 11 || 11 == 0), W.bl (c == 12 || 12 == 0), W.bl (c == 13 || 13 == 0), W.bl (c == 14 || 14 == 0), W.bl (c == 15 || 15 == 0), W.bl (c == 16 || 16 == 0), W.bl (c == 17 || 17 == 0), W.bl (c == 18 || 18 == 0), W.bl (c == 19 || 19 == 0), W.bl (c == 20 || 20 == 0), W.bl (c == 21 || 21 == 0), W.bl (c == 22 || 22 == 0), W.bl (!true)] = (flgs c).map W.bl := by
    rcases hc with rfl | rfl <;> rfl
  simp only [d_law_kinds, b_law_kinds, Mp.start, exSs_cons, exS_asg, exS_ret, evE_lst, evEs_cons, evEs_nil, evE_cst, bnd_ret, kEs1_ap, kEs2_ap, en, kn, lft_ret, kAsg_ap, List.map, List.replicate, List.length, List.append, List.cons_append, List.nil_append, List.set, sq_nx, kSs_ap, evE_fn, evE_var, List.getElem?_cons_zero, List.getElem?_cons_succ, varF_some, evE_cls, i 1 (by decide), i 2 (by decide), i 3 (by decide), i 4 (by decide), i 5 (by decide), i 6 (by decide), i 7 (by decide), i 8 (by decide), i 9 (by decide), i 10 (by decide), i 11 (by decide), i 12 (by decide), i 13 (by decide), i 14 (by decide), i 15 (by decide), i 16 (by decide), i 17 (by decide), i 18 (by decide), i 19 (by decide), i 20 (by decide), i 21 (by decide), i 22 (by decide), evE_not, evE_ty, iv, kNot_ap, ef, kf]
  have l1 : (h ++ [Ob.lst nmsL]).length = h.length + 1 := by rw [List.length_append]; rfl
  have l2 : (h ++ [Ob.lst nmsL] ++ [Ob.lst ((flgs c).map W.bl)]).length = h.length + 2 := by rw [List.length_append, l1]; rfl
  have l3 : h ++ [Ob.lst nmsL] ++ [Ob.lst ((flgs c).map W.bl)] ++ [Ob.lst []] = h ++ [Ob.lst nmsL, .lst ((flgs c).map W.bl), .lst []] := by simp
  rw [l1]
  simp only [evE_comp, evS_rng, evE_cst, bnd_ret, kRng_ap, show rngOk 23 = true from rfl, rngF_t, kComp_ap, l2, l3, cp', compF_some, lft_ret, kRet_ap, sq_ret, endF_ret]
theorem kinds0 : kindsL 0 = [] := by decide +kernel
theorem kinds1 : kindsL 1 = [.str (PySem.Str.ofString "BadName")] := by decide +kernel
end
end Cf
set_option Elab.async false
set_option linter.all false
set_option maxRecDepth 100000
set_option maxHeartbeats 1000000
namespace Cf
open Mp
/-- a plain value that is no None -/
inductive Flat : W → Prop where
  | bl (b : Bool) : Flat (.bl b)
  | int (i : Int) : Flat (.int i)
  | str (z : PySem.Str) : Flat (.str z)
section
variable {Γ : Gam} {wf : Nat} {n : Nat} {h : Hq}
@[simp] theorem eq_self_bl (b : Bool) : cmpV .eq (.bl b) (.bl b) h = some true := by
  show eqV (.bl b) (.bl b) h = _
  unfold eqV
  rw [if_pos (show scalW (.bl b) (.bl b) = true from rfl), decide_eq_true rfl]
@[simp] theorem eq_self_str (z : PySem.Str) : cmpV .eq (.str z) (.str z) h = some true := by
  show eqV (.str z) (.str z) h = _
  unfold eqV
  rw [if_pos (show scalW (.str z) (.str z) = true from rfl), decide_eq_true rfl]
@[simp] theorem ne_int (i j : Int) : cmpV .ne (.int i) (.int j) h = some (!decide (i = j)) := by
  show (eqV (.int i) (.int j) h).map (!·) = _
  have := cmp_eq_int (h := h) i j
  rw [show eqV (.int i) (.int j) h = some (decide (i = j)) from this]
  rfl
@[simp] theorem isi_bl_bool (b : Bool) : fnV Γ .isi [.bl b, .ty "bool"] h = ret (.bl true) h := rfl
@[simp] theorem isi_bl_list (b : Bool) : fnV Γ .isi [.bl b, .ty "list"] h = ret (.bl false) h := rfl
@[simp] theorem isi_bl_tup (b : Bool) : fnV Γ .isi [.bl b, .ty "tuple"] h = ret (.bl false) h := rfl
@[simp] theorem isi_int_bool (i : Int) : fnV Γ .isi [.int i, .ty "bool"] h = ret (.bl false) h := rfl
@[simp] theorem isi_int_int (i : Int) : fnV Γ .isi [.int i, .ty "int"] h = ret (.bl true) h := rfl
@[simp] theorem isi_int_list (i : Int) : fnV Γ .isi [.int i, .ty "list"] h = ret (.bl false) h := rfl
@[simp] theorem isi_int_tup (i : Int) : fnV Γ .isi [.int i, .ty "tuple"] h = ret (.bl false) h := rfl
@[simp] theorem isi_str_bool (z : PySem.Str) : fnV Γ .isi [.str z, .ty "bool"] h = ret (.bl false) h := rfl
@[simp] theorem isi_str_int (z : PySem.Str) : fnV Γ .isi [.str z, .ty "int"] h = ret (.bl false) h := rfl
@[simp] theorem isi_str_str (z : PySem.Str) : fnV Γ .isi [.str z, .ty "str"] h = ret (.bl true) h := rfl
@[simp] theorem isi_str_list (z : PySem.Str) : fnV Γ .isi [.str z, .ty "list"] h = ret (.bl false) h := rfl
@[simp] theorem isi_str_tup (z : PySem.Str) : fnV Γ .isi [.str z, .ty "tuple"] h = ret (.bl false) h := rfl
structure Sam (Γ : Gam) : Prop where
  num : Γ.fn 8 = some d_law_isnumber
  flat : Γ.fn 9 = some d_law_same_flat
  same : Γ.fn 10 = some d_law_same
theorem flat_ok (S : Sam Γ) {x : W} (fx : Flat x) : call Γ wf (n + 2) 9 [x, x] h = some (.ok (.bl true), h) := by
  rw [call_s S.flat rfl]
  cases fx with
  | bl b => simp [d_law_same_flat, b_law_same_flat, Mp.start]
  | int i =>
    have q : call Γ wf (n + 1) 8 [.int i] h = some (.ok (.bl true), h) := by
      rw [call_s S.num rfl]
      simp [d_law_isnumber, b_law_isnumber, Mp.start]
    simp [d_law_same_flat, b_law_same_flat, Mp.start, q]
  | str z => simp [d_law_same_flat, b_law_same_flat, Mp.start]
theorem atI0 {α : Type} (x : α) (xs : List α) : L2.atI (x :: xs) 0 = some x := by
  obtain ⟨y, hy, e⟩ := atI_ok (xs := x :: xs) (i := 0) (by decide) (by simp only [List.length_cons]; omega)
  rw [e]
  exact hy.symm
theorem atI1 {α : Type} (x y : α) (xs : List α) : L2.atI (x :: y :: xs) 1 = some y := by
  obtain ⟨z, hz, e⟩ := atI_ok (xs := x :: y :: xs) (i := 1) (by decide) (by simp only [List.length_cons]; omega)
  rw [e]
  exact hz.symm
theorem atI2 {α : Type} (x y z : α) (xs : List α) : L2.atI (x :: y :: z :: xs) 2 = some z := by
  obtain ⟨u, hu, e⟩ := atI_ok (xs := x :: y :: z :: xs) (i := 2) (by decide) (by simp only [List.length_cons]; omega)
  rw [e]
  exact hu.symm
/-- a turn of same -/
def sameB : Ss := (.cons (.ite (.cmp .eq (.fn .len (.cons (.var 2) .nil)) (.cst (.int (0))))
      (.cons (.ret (.cst (.bl true)))
       .nil)
      .nil)
     (.cons (.asg 4 (.mth .pop (.var 2) .nil))
     (.cons (.asg 5 (.ix (.var 4) (.cst (.int (0)))))
     (.cons (.asg 6 (.ix (.var 4) (.cst (.int (1)))))
     (.cons (.ite (.or (.fn .isi (.cons (.var 6) (.cons (.ty "list") .nil))) (.fn .isi (.cons (.var 6) (.cons (.ty "tuple") .nil))))
      (.cons (.ite (.and (.fn .isi (.cons (.var 6) (.cons (.ty "list") .nil))) (.not (.fn .isi (.cons (.var 5) (.cons (.ty "list") .nil)))))
        (.cons (.ret (.cst (.bl false)))
         .nil)
        .nil)
       (.cons (.ite (.and (.fn .isi (.cons (.var 6) (.cons (.ty "tuple") .nil))) (.not (.fn .isi (.cons (.var 5) (.cons (.ty "tuple") .nil)))))
        (.cons (.ret (.cst (.bl false)))
         .nil)
        .nil)
       (.cons (.ite (.cmp .ne (.fn .len (.cons (.var 5) .nil)) (.fn .len (.cons (.var 6) .nil)))
        (.cons (.ret (.cst (.bl false)))
         .nil)
        .nil)
       (.cons (.for 7 (.rng (.fn .len (.cons (.var 6) .nil)))
        (.cons (.exp (.mth .append (.var 2) (.cons (.tup (.cons (.ix (.var 5) (.var 7)) (.cons (.ix (.var 6) (.var 7)) .nil))) .nil)))
         .nil))
       .nil))))
      (.cons (.ite (.not (.call 9 (.cons (.var 5) (.cons (.var 6) .nil))))
        (.cons (.ret (.cst (.bl false)))
         .nil)
        .nil)
       .nil))
     .nil)))))
/-- same(x, x), x flat -/
theorem same_ok (S : Sam Γ) {x : W} (fx : Flat x) : call Γ wf (n + 3) 10 [x, x] h = some (.ok (.bl true), h ++ [.tup [x, x], .lst []]) := by
  rw [call_s S.same rfl]
  have k1 : ∀ h, kTup [x, x] h = ret (.ref h.length) (h ++ [.tup [x, x]]) := fun h => kTup_ok (by show 2 ≤ line; decide)
  have k2 : ∀ v h, kLst [v] h = ret (.ref h.length) (h ++ [.lst [v]]) := fun v h => kLst_ok (by show 1 ≤ line; decide)
  have g1 : (h ++ [Ob.tup [x, x], .lst [.ref h.length]])[h.length + 1]? = some (.lst [.ref h.length]) := get_three h _ _ _
  have g2 : (h ++ [Ob.tup [x, x], .lst []])[h.length]? = some (.tup [x, x]) := get_two h _ _
  have g3 : (h ++ [Ob.tup [x, x], .lst []])[h.length + 1]? = some (.lst []) := get_three h _ _ _
  have st : (h ++ [Ob.tup [x, x], .lst [.ref h.length]]).set (h.length + 1) (.lst []) = h ++ [Ob.tup [x, x], .lst []] := by
    rw [List.set_append_right _ _ (by omega), show h.length + 1 - h.length = 1 by omega]
    rfl
  have l1 := len_lst (Γ := Γ) g1
  have l3 := len_lst (Γ := Γ) g3
  have p1 := pre_pop g1
  have pp := pop_ok (xs := []) (y := .ref h.length) (a := h.length + 1) (h := h ++ [Ob.tup [x, x], .lst [.ref h.length]]) g1
  rw [st] at pp
  have i0 := ix_tup g2 (atI0 x [x])
  have i1 := ix_tup g2 (atI1 x x [])
  have f := flat_ok (wf := wf) (n := n) (h := h ++ [Ob.tup [x, x], .lst []]) S fx
  have hl : (h ++ [Ob.tup [x, x]]).length = h.length + 1 := by rw [List.length_append]; rfl
  have isl : ∀ h, fnV Γ .isi [x, .ty "list"] h = ret (.bl false) h := fun h => by cases fx <;> rfl
  have ist : ∀ h, fnV Γ .isi [x, .ty "tuple"] h = ret (.bl false) h := fun h => by cases fx <;> rfl
  obtain ⟨R, hR⟩ : ∃ R, rngL 0 200000 = .int 0 :: .int 1 :: R := ⟨_, by rw [rngL_cons (by decide), rngL_cons (by decide)]; exact rfl⟩
  have kr : ∀ h, kRng (.int 200000) h = ret (none, .int 0 :: .int 1 :: R) h := fun h => by
    rw [kRng_ap, hR, show rngOk 200000 = true from rfl]
    rfl
  clear hR
  have e1 : Bd Γ (call Γ wf (n + 2)) wf sameB ([some x, some x, some (.ref (h.length + 1)), none, none, none, none, none].set 3 (some (.int 0))) (h ++ [Ob.tup [x, x], .lst [.ref h.length]]) =
      some (.nx [some x, some x, some (.ref (h.length + 1)), some (.int 0), some (.ref h.length), some x, some x, none], h ++ [Ob.tup [x, x], .lst []]) := by
    simp [Bd_ap, sameB, l1, p1, pp, i0, i1, isl, ist, f]
  have e2 : Bd Γ (call Γ wf (n + 2)) wf sameB ([some x, some x, some (.ref (h.length + 1)), some (.int 0), some (.ref h.length), some x, some x, none].set 3 (some (.int 1))) (h ++ [Ob.tup [x, x], .lst []]) = some (.ret (.bl true), h ++ [Ob.tup [x, x], .lst []]) := by
    simp [Bd_ap, sameB, l3]
  have hh : h ++ [Ob.tup [x, x]] ++ [.lst [.ref h.length]] = h ++ [Ob.tup [x, x], .lst [.ref h.length]] := by simp
  simp only [d_law_same, b_law_same, Mp.start, exSs_cons, exS_asg, evE_lst, evEs_cons, evEs_nil, evE_tup, evE_var, List.map, List.replicate, List.length, List.append, List.cons_append, List.nil_append, List.getElem?_cons_zero, List.getElem?_cons_succ, varF_some, bnd_ret, kEs1_ap, kEs2_ap, k1, k2, lft_ret, kAsg_ap, List.set, sq_nx, kSs_ap, exS_for, evS_rng, evE_cst, kr, kFor_ap, hl, hh]
  have fin : forL none 3 (Bd Γ (call Γ wf (n + 2)) wf sameB) (.int 0 :: .int 1 :: R) [some x, some x, some (.ref (h.length + 1)), none, none, none, none, none] (h ++ [Ob.tup [x, x], .lst [.ref h.length]]) = some (.ret (.bl true), h ++ [Ob.tup [x, x], .lst []]) := by
    rw [forL_cons rfl e1, forL_ret rfl e2]
  have fin' : ∀ r, sq (forL none 3 (Bd Γ (call Γ wf (n + 2)) wf sameB) (.int 0 :: .int 1 :: R) [some x, some x, some (.ref (h.length + 1)), none, none, none, none, none] (h ++ [Ob.tup [x, x], .lst [.ref h.length]])) r = some (.ret (.bl true), h ++ [Ob.tup [x, x], .lst []]) := fun r => by rw [fin]; rfl
  exact congrArg endF (fin' _)
end
end Cf
set_option Elab.async false
set_option linter.all false
set_option maxRecDepth 100000
set_option maxHeartbeats 1000000
namespace Cf
open Mp
abbrev BN : PySem.Str := PySem.Str.ofString "BadName"
structure K0 (Γ : Gam) : Prop extends Pre Γ, Sam Γ, Glo Γ, Exs Γ where
  f0 : Γ.fn 0 = some d_is_name
  f1 : Γ.fn 1 = some d_check_name
  f6 : Γ.fn 6 = some d_law_hit
  f7 : Γ.fn 7 = some d_law_edge
  f11 : Γ.fn 11 = some d_law_isname
  f12 : Γ.fn 12 = some d_law_name
  f13 : Γ.fn 13 = some d_law_badname
  f14 : Γ.fn 14 = some d_law_text
  f15 : Γ.fn 15 = some d_law_kinds
  f16 : Γ.fn 16 = some d_law_error
  f17 : Γ.fn 17 = some d_law_meets
  f18 : Γ.fn 18 = some d_law_texts
  f19 : Γ.fn 19 = some d_law_ask
  f20 : Γ.fn 20 = some d_law_base_right
  f21 : Γ.fn 21 = some d_law_due
  f22 : Γ.fn 22 = some d_law
section
variable {Γ : Gam} {wf : Nat} {n : Nat} {h : Hq}
theorem attr_ok (E : Exs Γ) {q c : Nat} {w : W} {f : PySem.Str} (hq : h[q]? = some (.exc c w)) (hc : c < 23) : attrV Γ f (.ref q) h = ret w h := by
  unfold attrV
  dsimp only
  rw [hq]
  dsimp only
  rw [if_pos (by rw [E.hc c hc, E.exc c hc]; rfl)]
theorem error_ok (K : K0 Γ) {q c : Nat} {w : W} (hc : c = 0 ∨ c = 1) (hq : h[q]? = some (.exc c w)) :
    call Γ wf (n + 2) 16 [.ref q] h = some (.ok (.ref (h.length + 3)), h ++ [.lst nmsL, .lst ((flgs c).map W.bl), .lst (kindsL c), .tup [.int 1, .ref (h.length + 2), w]]) := by
  rw [call_s K.f16 rfl]
  have k := kinds_ok (wf := wf) (n := n) K.toExs K.f15 hc hq
  have hq' : (h ++ [Ob.lst nmsL, .lst ((flgs c).map W.bl), .lst (kindsL c)])[q]? = some (.exc c w) := get_pre hq
  have a := fun f => attr_ok (f := f) K.toExs hq' (by omega)
  have kt : ∀ u v x h, kTup [u, v, x] h = ret (.ref h.length) (h ++ [.tup [u, v, x]]) := fun u v x h => kTup_ok (by show 3 ≤ line; decide)
  simp [d_law_error, b_law_error, Mp.start, k, a, kt]
theorem kill_app {a b : Hq} (ha : Nox a) : (a ++ b).map killX = a ++ b.map killX := by rw [List.map_append, ha]
/-- the answer of a door -/
theorem ask0_ok (K : K0 Γ) {z : PySem.Str} (hz : z.length ≤ 400) : call Γ wf (n + 2) 19 [.int 0, .str z] h = some (.ok (.ref h.length), h ++ [.tup [.int 0, .bl (nameB z)]]) := by
  rw [call_s K.f19 rfl]
  have q := is_name_ok (wf := wf) (n := n) (h := h) K.f0 K.toGlo hz
  have kt : ∀ u v h, kTup [u, v] h = ret (.ref h.length) (h ++ [.tup [u, v]]) := fun u v h => kTup_ok (by show 2 ≤ line; decide)
  simp [d_law_ask, b_law_ask, Mp.start, q, kt]
theorem ask1_ok (K : K0 Γ) {z : PySem.Str} (hz : z.length ≤ 400) (hn : nameB z = true) : call Γ wf (n + 3) 19 [.int 1, .str z] h = some (.ok (.ref h.length), h ++ [.tup [.int 0, .str z]]) := by
  rw [call_s K.f19 rfl]
  have q := check_name_ok (wf := wf) (n := n) (h := h) K.f0 K.f1 K.toGlo hz
  rw [if_pos hn] at q
  have kt : ∀ u v h, kTup [u, v] h = ret (.ref h.length) (h ++ [.tup [u, v]]) := fun u v h => kTup_ok (by show 2 ≤ line; decide)
  simp [d_law_ask, b_law_ask, Mp.start, q, kt]
theorem ask2_ok (K : K0 Γ) (nh : Nox h) {z : PySem.Str} (hz : z.length ≤ 400) (hn : nameB z = false) : call Γ wf (n + 3) 19 [.int 1, .str z] h =
    some (.ok (.ref (h.length + 4)), h ++ [.dead, .lst nmsL, .lst ((flgs 1).map W.bl), .lst [.str BN], .tup [.int 1, .ref (h.length + 3), .str z]]) := by
  rw [call_s K.f19 rfl]
  have q := check_name_ok (wf := wf) (n := n) (h := h) K.f0 K.f1 K.toGlo hz
  rw [if_neg (by rw [hn]; exact Bool.false_ne_true)] at q
  have er := error_ok (wf := wf) (n := n) (h := h ++ [.exc 1 (.str z)]) K (.inr rfl) (get_new1 h _)
  have t := fun ρ hb => tryF_exc (k := call Γ wf (n + 2)) (wf := wf) (ρ := ρ) (h := h) (c := 0) (i := 2) (c' := 1) (hb := hb) (w := .str z) (by rw [K.hc 1 (by decide), K.exc 1 (by decide)]; rfl) (by rw [K.sub 1 0 (by decide) (by decide)]; rfl)
  rw [List.length_append, kinds1] at er
  simp [d_law_ask, b_law_ask, Mp.start, q, t]
  simp at er
  simp [er, nh, List.map_append, show h.map killX = h from nh, killX]
theorem due0_ok (K : K0 Γ) {z : PySem.Str} (hz : z.length ≤ 400) : ∃ j, call Γ wf (n + 2) 21 [.int 0, .str z] h = some (.ok (.ref (h.length + j.length)), h ++ (j ++ [.tup [.int 0, .bl (nameB z)]])) ∧ Nox j := by
  rw [call_s K.f21 rfl]
  obtain ⟨j, q, nj⟩ := isname_ok (wf := wf) (n := n) (h := h) K.f11 hz
  have kt : ∀ u v h, kTup [u, v] h = ret (.ref h.length) (h ++ [.tup [u, v]]) := fun u v h => kTup_ok (by show 2 ≤ line; decide)
  refine ⟨j, ?_, nj⟩
  simp [d_law_due, b_law_due, Mp.start, q, kt]
theorem due1_ok (K : K0 Γ) {z : PySem.Str} (hz : z.length ≤ 400) (hn : nameB z = true) : ∃ j, call Γ wf (n + 2) 21 [.int 1, .str z] h = some (.ok (.ref (h.length + j.length)), h ++ (j ++ [.tup [.int 0, .str z]])) ∧ Nox j := by
  rw [call_s K.f21 rfl]
  obtain ⟨j, q, nj⟩ := isname_ok (wf := wf) (n := n) (h := h) K.f11 hz
  rw [hn] at q
  have kt : ∀ u v h, kTup [u, v] h = ret (.ref h.length) (h ++ [.tup [u, v]]) := fun u v h => kTup_ok (by show 2 ≤ line; decide)
  refine ⟨j, ?_, nj⟩
  simp [d_law_due, b_law_due, Mp.start, q, kt]
theorem due2_ok (K : K0 Γ) {z : PySem.Str} (hz : z.length ≤ 400) (hn : nameB z = false) : ∃ j, call Γ wf (n + 2) 21 [.int 1, .str z] h = some (.ok (.ref (h.length + j.length)), h ++ (j ++ [.tup [.int 1, .str BN, .str z]])) ∧ Nox j := by
  rw [call_s K.f21 rfl]
  obtain ⟨j, q, nj⟩ := isname_ok (wf := wf) (n := n) (h := h) K.f11 hz
  rw [hn] at q
  have kt : ∀ u v x h, kTup [u, v, x] h = ret (.ref h.length) (h ++ [.tup [u, v, x]]) := fun u v x h => kTup_ok (by show 3 ≤ line; decide)
  refine ⟨j, ?_, nj⟩
  simp [d_law_due, b_law_due, Mp.start, q, kt]
/-! ### meets -/
theorem meets0_ok (K : K0 Γ) {p q : Nat} {x : W} (fx : Flat x) (hp : h[p]? = some (.tup [.int 0, x])) (hq : h[q]? = some (.tup [.int 0, x])) :
    call Γ wf (n + 4) 17 [.ref p, .ref q] h = some (.ok (.bl true), h ++ [.tup [x, x], .lst []]) := by
  rw [call_s K.f17 rfl]
  have s := same_ok (wf := wf) (n := n) (h := h) K.toSam fx
  have a := ix_tup hp (atI0 _ _)
  have b := ix_tup hq (atI0 _ _)
  have c := ix_tup hp (atI1 _ _ _)
  have d := ix_tup hq (atI1 _ _ _)
  simp [d_law_meets, b_law_meets, Mp.start, a, b, c, d, s]
end
end Cf
set_option Elab.async false
set_option linter.all false
set_option maxRecDepth 100000
set_option maxHeartbeats 1000000
namespace Cf
open Mp
section
variable {Γ : Gam} {wf : Nat} {n : Nat} {h : Hq}
theorem rd_lst {a k : Nat} {xs : List W} {ds : List PySem.PyData} (ha : h[a]? = some (.lst xs)) (e : xs.mapM (rdD h k) = some ds) : rdD h (k + 1) (.ref a) = some (.list ds) := by
  unfold rdD
  dsimp only
  rw [ha]
  dsimp only
  rw [e]
  rfl
theorem eq_one {a b : Nat} (ha : h[a]? = some (.lst [.str BN])) (hb : h[b]? = some (.lst [.str BN])) : cmpV .eq (.ref a) (.ref b) h = some true := by
  show eqV (.ref a) (.ref b) h = _
  unfold eqV
  rw [if_neg (show ¬ scalW (.ref a) (.ref b) = true from Bool.false_ne_true), rd_lst (ds := [.str BN]) ha rfl, rd_lst (ds := [.str BN]) hb rfl]
  dsimp only
  rw [if_pos (by decide +kernel)]
  exact congrArg some (by decide +kernel)
theorem eq_nil {a b : Nat} (ha : h[a]? = some (.lst [])) (hb : h[b]? = some (.lst [])) : cmpV .eq (.ref a) (.ref b) h = some true := by
  show eqV (.ref a) (.ref b) h = _
  unfold eqV
  rw [if_neg (show ¬ scalW (.ref a) (.ref b) = true from Bool.false_ne_true), rd_lst (ds := []) ha rfl, rd_lst (ds := []) hb rfl]
  dsimp only
  rw [if_pos (by decide +kernel)]
  exact congrArg some (by decide +kernel)
theorem meets2_ok (K : K0 Γ) {p q r : Nat} {z : PySem.Str} (hp : h[p]? = some (.tup [.int 1, .ref r, .str z])) (hq : h[q]? = some (.tup [.int 1, .str BN, .str z])) (hr : h[r]? = some (.lst [.str BN])) :
    call Γ wf (n + 4) 17 [.ref p, .ref q] h = some (.ok (.bl true), h ++ [.lst [.str BN], .tup [.str z, .str z], .lst []]) := by
  rw [call_s K.f17 rfl]
  have s := same_ok (wf := wf) (n := n) (h := h ++ [.lst [.str BN]]) K.toSam (.str z)
  have hp' := get_pre (a := [.lst [.str BN]]) hp
  have hq' := get_pre (a := [.lst [.str BN]]) hq
  have a := ix_tup hp (atI0 _ _)
  have b := ix_tup hq (atI0 _ _)
  have c := ix_tup hp (atI1 _ _ _)
  have d := ix_tup hq (atI1 _ _ _)
  have e := ix_tup hp' (atI2 _ _ _ _)
  have f := ix_tup hq' (atI2 _ _ _ _)
  have k2 : ∀ v h, kLst [v] h = ret (.ref h.length) (h ++ [.lst [v]]) := fun v h => kLst_ok (by show 1 ≤ line; decide)
  have eq := eq_one (a := r) (b := h.length) (h := h ++ [.lst [.str BN]]) (get_pre hr) (get_new1 h _)
  simp [d_law_meets, b_law_meets, Mp.start, a, b, c, d, e, f, s, k2, eq]
theorem base_ok (K : K0 Γ) (nh : Nox h) {x : W} (fx : Flat x) : ∃ j, call Γ wf (n + 4) 20 [x] h = some (.ok (.bl true), h ++ j) ∧ Nox j := by
  rw [call_s K.f20 rfl]
  have hq : (h ++ [Ob.exc 0 x])[h.length]? = some (.exc 0 x) := get_new1 h _
  have k := kinds_ok (wf := wf) (n := n + 2) (h := h ++ [.exc 0 x]) K.toExs K.f15 (.inl rfl) hq
  rw [List.length_append, kinds0] at k
  have t := fun ρ hb => tryF_exc (k := call Γ wf (n + 3)) (wf := wf) (ρ := ρ) (h := h) (c := 0) (i := 1) (c' := 0) (hb := hb) (w := x) (by rw [K.hc 0 (by decide), K.exc 0 (by decide)]; rfl) (by rw [K.sub 0 0 (by decide) (by decide)]; rfl)
  have k0 : ∀ h, kLst [] h = ret (.ref h.length) (h ++ [.lst []]) := fun h => kLst_ok (by show 0 ≤ line; decide)
  have eq := eq_nil (a := h.length + 3) (b := h.length + 4) (h := h ++ [.exc 0 x, .lst nmsL, .lst ((flgs 0).map W.bl), .lst [], .lst []])
    (by rw [List.getElem?_append_right (by omega), show h.length + 3 - h.length = 3 by omega]; rfl) (by rw [List.getElem?_append_right (by omega), show h.length + 4 - h.length = 4 by omega]; rfl)
  have at' := fun f => attr_ok (f := f) K.toExs (h := h ++ [.exc 0 x, .lst nmsL, .lst ((flgs 0).map W.bl), .lst [], .lst []]) (q := h.length) (get_two h _ _) (by decide)
  have s := same_ok (wf := wf) (n := n) (h := h ++ [.exc 0 x, .lst nmsL, .lst ((flgs 0).map W.bl), .lst [], .lst []]) K.toSam fx
  refine ⟨[.dead, .lst nmsL, .lst ((flgs 0).map W.bl), .lst [], .lst [], .tup [x, x], .lst []], ?_, rfl⟩
  simp at k
  simp at s
  simp [d_law_base_right, b_law_base_right, Mp.start, t, k, k0, eq, at', s, List.map_append, show h.map killX = h from nh, killX]
/-- the store is made -/
theorem store_ok (K : K0 Γ) {ns : List Int} (hl : ns.length ≤ 63) : ∃ s, call Γ wf (n + 1) 3 [.ref 0] [.frl (ns.map W.int)] = some (.ok (.ref 3), B ns s) ∧ Inv ns s 0 := by
  rw [call_s K.store rfl]
  have ct : ∀ h : Hq, h[0]? = some (.frl (ns.map W.int)) → cutW (.ref 0) none (some 63) h = ret (.ref h.length) (h ++ [.lst (ns.map W.int)]) := fun h hh => by
    unfold cutW
    dsimp only
    rw [hh]
    have : cutL (ns.map W.int) none (some 63) = ns.map W.int := by
      unfold cutL
      have a : HT.sIx (ns.map W.int).length 0 none = 0 := rfl
      have b : HT.sIx (ns.map W.int).length (ns.map W.int).length (some 63) = ns.length := by
        rw [List.length_map]
        show HT.sIx ns.length ns.length (some 63) = ns.length
        exact (HT.sIx_nat ns.length ns.length 63).trans (by omega)
      rw [a, b, List.drop_zero, Nat.sub_zero, List.take_of_length_le (by rw [List.length_map]; exact Nat.le_refl _)]
    show alloc (.lst (cutL (ns.map W.int) none (some 63))) h = _
    rw [this]
    rfl
  have cp := compL_ok (g := some (1, .lst (ns.map W.int))) (t := Ct Γ (call Γ wf n) [some (.ref 0), none, none] .no 2) (el := Ce Γ (call Γ wf n) [some (.ref 0), none, none] (.fn .int (.cons (.var 2) .nil)) 2) (p := fun _ => true) (f := id) [.frl (ns.map W.int), .lst (ns.map W.int)] (ns.map W.int) [] (fun acc => stays_at rfl)
    (fun x hx acc => by simp [Ct_ap]) (fun x hx _ acc => by
      obtain ⟨i, _, rfl⟩ := List.mem_map.mp hx
      simp [Ce_ap]) (by rw [List.length_map]; exact Nat.le_trans (by simpa using hl) (by decide))
  have ef : ((ns.map W.int).filter fun _ => true).map id = ns.map W.int := by rw [List.map_id, List.filter_eq_self.mpr fun _ _ => rfl]
  rw [ef] at cp
  have w := walk_lst (h := [.frl (ns.map W.int), .lst (ns.map W.int)]) (a := 1) (xs := ns.map W.int) rfl
  have k6 : ∀ a b c d e f h, kLst [a, b, c, d, e, f] h = ret (.ref h.length) (h ++ [.lst [a, b, c, d, e, f]]) := fun a b c d e f h => kLst_ok (by show 6 ≤ line; decide)
  have c0 := ct [.frl (ns.map W.int)] rfl
  refine ⟨⟨0, 3, 0, 0, 0⟩, ?_, ⟨hl, Int.le_refl _, by show (0 : Int) ≤ ns.length; omega, Int.le_refl _, by decide +kernel, Int.le_refl _, Int.le_refl _⟩⟩
  simp at cp
  simp [d_law_store, b_law_store, Mp.start, c0, w, cp, k6, B, sto]
end
end Cf
set_option Elab.async false
set_option linter.all false
set_option maxRecDepth 100000
set_option maxHeartbeats 1000000
namespace Cf
open Mp
def AllTx (ts : List W) : Prop := ∀ t ∈ ts, Tx 0 400 t
theorem AllTx.app {a b : List W} (ha : AllTx a) (hb : AllTx b) : AllTx (a ++ b) := fun t h => (List.mem_append.mp h).elim (ha t) (hb t)
theorem AllTx.one {t : W} (h : Tx 0 400 t) : AllTx [t] := fun u hu => by rw [List.mem_singleton.mp hu]; exact h
theorem AllTx.cut {a : List W} (ha : AllTx a) (lo hi : Option Int) : AllTx (cutL a lo hi) := fun t h => ha t (List.mem_of_mem_drop (List.mem_of_mem_take h))
section
variable {Γ : Gam} {wf : Nat} {n : Nat} {h : Hq}
theorem cut_lst {a : Nat} {xs : List W} {lo hi : Option Int} (ha : h[a]? = some (.lst xs)) : cutW (.ref a) lo hi h = ret (.ref h.length) (h ++ [.lst (cutL xs lo hi)]) := by
  unfold cutW
  dsimp only
  rw [ha]
  rfl
theorem add_lst {a b : Nat} {xs ys : List W} (ha : h[a]? = some (.lst xs)) (hb : h[b]? = some (.lst ys)) (hl : xs.length + ys.length ≤ line) : addV (.ref a) (.ref b) h = ret (.ref h.length) (h ++ [.lst (xs ++ ys)]) := by
  unfold addV
  dsimp only
  rw [ha, hb]
  dsimp only
  rw [if_pos hl]
  rfl
theorem cutL_len {xs : List W} {lo hi : Option Int} : (cutL xs lo hi).length ≤ xs.length := by
  unfold cutL
  rw [List.length_take, List.length_drop]
  omega
theorem lrg11 : lrgV (.int 0) (.int 11) h = ret (.ref h.length) (h ++ [.lst (rngL 0 11)]) := by
  unfold lrgV
  dsimp only
  rw [if_pos (by decide)]
  rfl
/-- an append to the list at D -/
theorem app_at {ns : List Int} {s : St6} {e j : Hq} {ts : List W} {t : W} (hl : ts.length < line) : mthV .append (.ref (4 + e.length)) [t] (B ns s ++ (e ++ .lst ts :: j)) = ret .non (B ns s ++ (e ++ .lst (ts ++ [t]) :: j)) := by
  rw [append_ok get_at hl]
  have := set_mid (B ns s ++ e) j (.lst ts) (.lst (ts ++ [t]))
  rw [List.append_assoc, List.append_assoc, List.length_append] at this
  rw [← this]
  rfl
theorem papp_at {ns : List Int} {s : St6} {e j : Hq} {ts : List W} : mthPre .append (.ref (4 + e.length)) (B ns s ++ (e ++ .lst ts :: j)) = true := pre_append get_at
/-- texts grow by draws: one turn's block bl keeps the frame ρ but for slot t -/
theorem grow {ns : List Int} {e : Hq} {t : Nat} {b : Ss} {ρ0 : List (Option W)} {m c : Nat} (body : ∀ (s : St6) (j : Hq) (ts : List W) (T' : Nat) (x : W) (o : Option W), Inv ns s T' → T' ≤ 1000000 → AllTx ts → ts.length ≤ 200 → Nox j →
      ∃ s' j' ts', Bd Γ (call Γ wf n) wf b ((ρ0.set t o).set t (some x)) (B ns s ++ (e ++ .lst ts :: j)) = some (.nx (ρ0.set t (some x)), B ns s' ++ (e ++ .lst ts' :: (j ++ j'))) ∧ Inv ns s' (T' + c) ∧ AllTx ts' ∧ ts'.length ≤ ts.length + m ∧ Nox j' ∧ ts.length ≤ ts'.length) :
    ∀ (xs : List W) (s : St6) (j : Hq) (ts : List W) (T' : Nat) (o : Option W), Inv ns s T' → T' + xs.length * c ≤ 1000000 → AllTx ts → ts.length + xs.length * m ≤ 200 → Nox j →
      ∃ s' j' ts' o', forL none t (Bd Γ (call Γ wf n) wf b) xs (ρ0.set t o) (B ns s ++ (e ++ .lst ts :: j)) = some (.nx (ρ0.set t o'), B ns s' ++ (e ++ .lst ts' :: (j ++ j'))) ∧ Inv ns s' (T' + xs.length * c) ∧ AllTx ts' ∧ ts'.length ≤ ts.length + xs.length * m ∧ Nox j' ∧ ts.length ≤ ts'.length
  | [], s, j, ts, T', o, i, hT, ha, hl, nj => ⟨s, [], ts, o, by rw [forL_nil rfl, List.append_nil], i.up (by simp), ha, by simp, Nox.nil, Nat.le_refl _⟩
  | x :: xs, s, j, ts, T', o, i, hT, ha, hl, nj => by
    simp only [List.length_cons, Nat.succ_mul] at hT hl ⊢
    obtain ⟨s1, j1, ts1, e1, i1, a1, l1, n1, u1⟩ := body s j ts T' x o i (by omega) ha (by omega) nj
    obtain ⟨s2, j2, ts2, o2, e2, i2, a2, l2, n2, u2⟩ := grow body xs s1 (j ++ j1) ts1 (T' + c) (some x) i1 (by omega) a1 (by omega) (nj.app n1)
    refine ⟨s2, j1 ++ j2, ts2, o2, ?_, i2.up (by omega), a2, by omega, n1.app n2, Nat.le_trans u1 u2⟩
    rw [forL_cons rfl e1, e2, List.append_assoc]
theorem texts2 {X : Hq} {D : Nat} {ts : List W} {st : Int} {r0 r1 r2 r3 r5 r6 r8 : Option W} (g : X[D]? = some (.lst ts)) (hl : ts.length ≤ 200) :
    exSs Γ wf (call Γ wf n) (.cons (.asg 4 (.bin .add (.cut (.var 4) (.yes (.var 7)) .no) (.cut (.var 4) .no (.yes (.var 7))))) (.cons (.ret (.bin .add (.var 4) (.cut (.var 4) .no (.yes (.cst (.int (4))))))) .nil)) [r0, r1, r2, r3, some (.ref D), r5, r6, some (.int st), r8] X =
      some (.ret (.ref (X.length + 4)), X ++ [.lst (cutL ts (some st) none), .lst (cutL ts none (some st)), .lst (cutL ts (some st) none ++ cutL ts none (some st)), .lst (cutL (cutL ts (some st) none ++ cutL ts none (some st)) none (some 4)), .lst (cutL ts (some st) none ++ cutL ts none (some st) ++ cutL (cutL ts (some st) none ++ cutL ts none (some st)) none (some 4))]) := by
  obtain ⟨c1, h1⟩ : ∃ c1, c1 = cutL ts (some st) none := ⟨_, rfl⟩
  obtain ⟨c2, h2⟩ : ∃ c2, c2 = cutL ts none (some st) := ⟨_, rfl⟩
  obtain ⟨c3, h3⟩ : ∃ c3, c3 = cutL (c1 ++ c2) none (some 4) := ⟨_, rfl⟩
  have b1 : c1.length ≤ 200 := h1 ▸ Nat.le_trans cutL_len hl
  have b2 : c2.length ≤ 200 := h2 ▸ Nat.le_trans cutL_len hl
  have b3 : c3.length ≤ 400 := h3 ▸ Nat.le_trans cutL_len (by rw [List.length_append]; omega)
  rw [← h1, ← h2, ← h3]
  have q1 := cut_lst (lo := some st) (hi := none) g
  have q2 := cut_lst (lo := none) (hi := some st) (get_pre (a := [.lst c1]) g)
  have q3 := add_lst (h := X ++ [.lst c1, .lst c2]) (a := X.length) (b := X.length + 1) (get_two X _ _) (get_three X _ _ _) (Nat.le_trans (Nat.add_le_add b1 b2) (by decide))
  have g4 : (X ++ [Ob.lst c1, .lst c2, .lst (c1 ++ c2)])[X.length + 2]? = some (.lst (c1 ++ c2)) := by rw [List.getElem?_append_right (by omega), show X.length + 2 - X.length = 2 by omega]; rfl
  have g5 : (X ++ [Ob.lst c1, .lst c2, .lst (c1 ++ c2), .lst c3])[X.length + 2]? = some (.lst (c1 ++ c2)) := by rw [List.getElem?_append_right (by omega), show X.length + 2 - X.length = 2 by omega]; rfl
  have g6 : (X ++ [Ob.lst c1, .lst c2, .lst (c1 ++ c2), .lst c3])[X.length + 3]? = some (.lst c3) := by rw [List.getElem?_append_right (by omega), show X.length + 3 - X.length = 3 by omega]; rfl
  have q4 := cut_lst (lo := none) (hi := some 4) g4
  have q5 := add_lst g5 g6 (by rw [List.length_append]; exact Nat.le_trans (Nat.add_le_add (Nat.add_le_add b1 b2) b3) (by decide))
  rw [← h1] at q1
  rw [← h2] at q2
  rw [← h3] at q4
  simp at q1 q2 q3 q4 q5
  simp [q1, q2, q3, q4, q5]
end
end Cf
set_option Elab.async false
set_option linter.all false
set_option maxRecDepth 100000
set_option maxHeartbeats 1000000
namespace Cf
open Mp
/-- the texts, from the comprehension on -/
def textsR : Ss :=
   (.cons (.asc 4 (.comp 8 (.any (.var 1)) .no (.bin .add (.bin .add (.cut (.var 2) .no (.yes (.var 3))) (.var 8)) (.cut (.var 2) (.yes (.bin .add (.var 3) (.cst (.int (1))))) .no))))
   (.cons (.for 5 (.any (.bin .add (.lrg (.cst (.int (11)))) (.lst (.cons (.cst (.int (39))) (.cons (.cst (.int (40))) .nil)))))
    (.cons (.exp (.mth .append (.var 4) (.cons (.cut (.bin .mul (.var 2) (.cst (.int (40)))) .no (.yes (.var 5))) .nil)))
     .nil))
   (.cons (.for 6 (.rng (.cst (.int (4))))
    (.cons (.exp (.mth .append (.var 4) (.cons (.call 13 (.cons (.var 0) .nil)) .nil)))
     .nil))
   (.cons (.for 6 (.rng (.cst (.int (3))))
    (.cons (.exp (.mth .append (.var 4) (.cons (.call 12 (.cons (.var 0) .nil)) .nil)))
     (.cons (.exp (.mth .append (.var 4) (.cons (.call 14 (.cons (.var 0) .nil)) .nil)))
     .nil)))
   (.cons (.asg 7 (.call 5 (.cons (.var 0) (.cons (.fn .len (.cons (.var 4) .nil)) .nil))))
   (.cons (.asg 4 (.bin .add (.cut (.var 4) (.yes (.var 7)) .no) (.cut (.var 4) .no (.yes (.var 7)))))
   (.cons (.ret (.bin .add (.var 4) (.cut (.var 4) .no (.yes (.cst (.int (4)))))))
   .nil)))))))
section
variable {Γ : Gam} {wf : Nat} {n : Nat} {h : Hq}
theorem texts1 (K : K0 Γ) {ns : List Int} {s : St6} {e : Hq} {T : Nat} (i : Inv ns s T) (hT : T ≤ 1000) {z : PySem.Str} (z0 : 1 ≤ z.length) (z1 : z.length ≤ 8) {a : Int} :
    ∃ s' j p ts, exSs Γ wf (call Γ wf (n + 5)) textsR [some (.ref 3), some (.str (sg1 ++ sg2)), some (.str z), some (.int a), none, none, none, none, none] (B ns s ++ e) = some (.ret (.ref p), B ns s' ++ (e ++ j)) ∧
      Inv ns s' (T + 300) ∧ Nox j ∧ (B ns s' ++ (e ++ j))[p]? = some (.lst ts) ∧ AllTx ts := by
  have sl : (sg1 ++ sg2).length = 94 := by rw [slen, sg1_len, sg2_len]
  have c1 := fun lo hi h => cut_s (z := z) (by omega) lo hi h
  have cl := fun lo hi => cutS_len z lo hi
  -- the comprehension
  have cp := compL_ok (g := none) (t := Ct Γ (call Γ wf (n + 5)) [some (.ref 3), some (.str (sg1 ++ sg2)), some (.str z), some (.int a), none, none, none, none, none] .no 8)
    (el := Ce Γ (call Γ wf (n + 5)) [some (.ref 3), some (.str (sg1 ++ sg2)), some (.str z), some (.int a), none, none, none, none, none] (.bin .add (.bin .add (.cut (.var 2) .no (.yes (.var 3))) (.var 8)) (.cut (.var 2) (.yes (.bin .add (.var 3) (.cst (.int (1))))) .no)) 8)
    (p := fun _ => true) (f := fun w => match w with | .str x => .str (L2.cutS z none (some a) ++ x ++ L2.cutS z (some (a + 1)) none) | _ => .non) (B ns s ++ e) ((sg1 ++ sg2).cps.toList.map fun c => W.str ⟨#[c]⟩) [] (fun _ => rfl)
    (fun x hx acc => by simp [Ct_ap]) (fun x hx _ acc => by
      obtain ⟨c, _, rfl⟩ := List.mem_map.mp hx
      have l1 := cl none (some a)
      have l2 := cl (some (a + 1)) none
      have lc : (PySem.Str.mk #[c]).length = 1 := rfl
      have d1 := fun h => add_s (a := L2.cutS z none (some a)) (b := ⟨#[c]⟩) (by omega) (by omega) h
      have d2 := fun h => add_s (a := L2.cutS z none (some a) ++ ⟨#[c]⟩) (b := L2.cutS z (some (a + 1)) none) (by rw [slen]; omega) (by omega) h
      simp [Ce_ap, c1, d1, d2]) (by
      rw [List.length_map, Array.length_toList]
      show 0 + (sg1 ++ sg2).length ≤ line
      rw [sl]; decide)
  obtain ⟨ts0, ht0⟩ : ∃ ts0, ts0 = (((sg1 ++ sg2).cps.toList.map fun c => W.str ⟨#[c]⟩).filter fun _ => true).map (fun w => match w with | .str x => W.str (L2.cutS z none (some a) ++ x ++ L2.cutS z (some (a + 1)) none) | _ => .non) := ⟨_, rfl⟩
  have l0 : ts0.length = 94 := by
    rw [ht0, List.length_map, List.filter_eq_self.mpr fun _ _ => rfl, List.length_map, Array.length_toList]
    exact sl
  have a0 : AllTx ts0 := by
    rw [ht0]
    intro t ht
    obtain ⟨w, hw, rfl⟩ := List.mem_map.mp ht
    obtain ⟨c, _, rfl⟩ := List.mem_map.mp (List.mem_filter.mp hw).1
    have l1 := cl none (some a)
    have l2 := cl (some (a + 1)) none
    exact ⟨_, rfl, Nat.zero_le _, by rw [slen, slen]; show _ + 1 + _ ≤ _; omega⟩
  rw [← ht0, List.nil_append, List.append_assoc, List.append_assoc, List.length_append, B_len] at cp
  -- the sizes
  obtain ⟨sz, hsz⟩ : ∃ sz, sz = rngL 0 11 ++ [W.int 39, .int 40] := ⟨_, rfl⟩
  have szl : sz.length = 13 := by rw [hsz, List.length_append, rngL_len]; rfl
  have szi : ∀ w ∈ sz, ∃ i, w = .int i := by
    rw [hsz]
    intro w hw
    rcases List.mem_append.mp hw with q | q
    · obtain ⟨k, _, rfl⟩ := List.mem_map.mp q
      exact ⟨_, rfl⟩
    · simp only [List.mem_cons, List.not_mem_nil, or_false] at q
      rcases q with rfl | rfl <;> exact ⟨_, rfl⟩
  have r := repS_len z 40
  have m40 : ∀ h, mulV (.str z) (.int 40) h = ret (.str (repS z 40)) h := fun h => mul_str (by decide) (by decide) (Nat.le_trans (Nat.mul_le_mul_right _ z1) (by decide))
  have r9 : (repS z 40).length ≤ 320 := Nat.le_trans r (Nat.mul_le_mul_right _ z1)
  have c40 := fun lo hi h => cut_s (z := repS z 40) (by omega) lo hi h
  have loop5 : ∀ (xs : List W) (ts : List W) (o : Option W), (∀ w ∈ xs, ∃ i, w = .int i) → AllTx ts → ts.length + xs.length ≤ 200 → ∃ ts' o', forL (some (4 + e.length + 3, .lst sz)) 5 (Bd Γ (call Γ wf (n + 5)) wf (.cons (.exp (.mth .append (.var 4) (.cons (.cut (.bin .mul (.var 2) (.cst (.int (40)))) .no (.yes (.var 5))) .nil))) .nil)) xs
      [some (.ref 3), some (.str (sg1 ++ sg2)), some (.str z), some (.int a), some (.ref (4 + e.length)), o, none, none, none] (B ns s ++ (e ++ .lst ts :: [.lst (rngL 0 11), .lst [.int 39, .int 40], .lst sz])) =
      some (.nx [some (.ref 3), some (.str (sg1 ++ sg2)), some (.str z), some (.int a), some (.ref (4 + e.length)), o', none, none, none], B ns s ++ (e ++ .lst ts' :: [.lst (rngL 0 11), .lst [.int 39, .int 40], .lst sz])) ∧ AllTx ts' ∧ ts'.length = ts.length + xs.length := by
    have st : ∀ ts, stays (some (4 + e.length + 3, .lst sz)) (B ns s ++ (e ++ .lst ts :: [.lst (rngL 0 11), .lst [.int 39, .int 40], .lst sz])) = true := fun ts => stays_at (by
      rw [← List.append_assoc, List.getElem?_append_right (by rw [List.length_append]; show 4 + e.length ≤ _; omega), List.length_append, show 4 + e.length + 3 - ((B ns s).length + e.length) = 3 by show 4 + e.length + 3 - (4 + e.length) = 3; omega]
      rfl)
    intro xs
    induction xs with
    | nil => exact fun ts o _ ha _ => ⟨ts, o, by rw [forL_nil (st ts)], ha, rfl⟩
    | cons x xs ih =>
      intro ts o hx ha hl
      simp only [List.length_cons] at hl
      obtain ⟨k, rfl⟩ := hx x List.mem_cons_self
      have lc := cutS_len (repS z 40) none (some k)
      obtain ⟨ts', o', q, a', l'⟩ := ih (ts ++ [.str (L2.cutS (repS z 40) none (some k))]) (some (.int k)) (fun w hw => hx w (List.mem_cons_of_mem _ hw)) (ha.app (.one ⟨_, rfl, Nat.zero_le _, by omega⟩)) (by rw [List.length_append]; show ts.length + 1 + xs.length ≤ 200; omega)
      refine ⟨ts', o', ?_, a', by rw [l', List.length_append]; show ts.length + 1 + xs.length = _; rw [List.length_cons]; omega⟩
      rw [← q]
      refine forL_cons (st ts) ?_
      have ap := app_at (ns := ns) (s := s) (e := e) (j := [.lst (rngL 0 11), .lst [.int 39, .int 40], .lst sz]) (ts := ts) (t := .str (L2.cutS (repS z 40) none (some k))) (Nat.lt_of_le_of_lt (by omega : ts.length ≤ 200) (by decide))
      simp [Bd_ap, papp_at, m40, c40, ap]
  obtain ⟨ts1, o1, e5, a1, l1⟩ := loop5 sz ts0 none szi a0 (by rw [l0, szl]; decide)
  -- bad names
  obtain ⟨s6, j6, ts2, o6, e6, i6, a2, l2, n6, u6⟩ := grow (Γ := Γ) (wf := wf) (n := n + 5) (ns := ns) (e := e) (t := 6) (b := .cons (.exp (.mth .append (.var 4) (.cons (.call 13 (.cons (.var 0) .nil)) .nil))) .nil)
    (ρ0 := [some (.ref 3), some (.str (sg1 ++ sg2)), some (.str z), some (.int a), some (.ref (4 + e.length)), o1, none, none, none]) (m := 1) (c := 20) (fun s j ts T' x o i hT ha hl nj => by
      obtain ⟨s1, j1, v1, q1, b1, n1, tx⟩ := badname_sk (wf := wf) (n := n + 1) K.toPre K.f12 K.f13 ns s (e ++ .lst ts :: j) T' i (by omega)
      have ap := app_at (ns := ns) (s := s1) (e := e) (j := j ++ j1) (ts := ts) (t := v1) (Nat.lt_of_le_of_lt hl (by decide))
      simp only [List.append_assoc, List.cons_append] at q1
      exact ⟨s1, j1, ts ++ [v1], by simp [Bd_ap, papp_at, q1, ap], b1, ha.app (.one (tx.up (Nat.zero_le _) (by decide))), by rw [List.length_append]; exact Nat.le_refl _, n1, by rw [List.length_append]; exact Nat.le_add_right _ _⟩)
    (rngL 0 4) s [.lst (rngL 0 11), .lst [.int 39, .int 40], .lst sz] ts1 T none i (by rw [rngL_len]; show T + 4 * 20 ≤ _; omega) a1 (by rw [rngL_len, l1, l0, szl]; decide) ((Nox.one rfl).app ((Nox.one rfl).app (Nox.one rfl)))
  rw [rngL_len] at i6 l2
  -- names and texts
  obtain ⟨s7, j7, ts3, o7, e7, i7, a3, l3, n7, u7⟩ := grow (Γ := Γ) (wf := wf) (n := n + 5) (ns := ns) (e := e) (t := 6) (b := .cons (.exp (.mth .append (.var 4) (.cons (.call 12 (.cons (.var 0) .nil)) .nil))) (.cons (.exp (.mth .append (.var 4) (.cons (.call 14 (.cons (.var 0) .nil)) .nil))) .nil))
    (ρ0 := [some (.ref 3), some (.str (sg1 ++ sg2)), some (.str z), some (.int a), some (.ref (4 + e.length)), o1, none, none, none]) (m := 2) (c := 52) (fun s j ts T' x o i hT ha hl nj => by
      obtain ⟨s1, j1, v1, q1, b1, n1, tx⟩ := name_sk (wf := wf) (n := n + 2) K.toPre K.f12 ns s (e ++ .lst ts :: j) T' i (by omega)
      have ap := app_at (ns := ns) (s := s1) (e := e) (j := j ++ j1) (ts := ts) (t := v1) (Nat.lt_of_le_of_lt hl (by decide))
      obtain ⟨s2, j2, v2, q2, b2, n2, tx2⟩ := text_sk (wf := wf) (n := n + 1) K.toPre K.f7 K.f14 ns s1 (e ++ .lst (ts ++ [v1]) :: (j ++ j1)) (T' + 10) b1 (by omega)
      have ap2 := app_at (ns := ns) (s := s2) (e := e) (j := j ++ (j1 ++ j2)) (ts := ts ++ [v1]) (t := v2) (Nat.lt_of_le_of_lt (by rw [List.length_append]; show ts.length + 1 ≤ 201; omega) (by decide))
      simp only [List.append_assoc, List.cons_append] at q1 q2
      simp only [List.append_assoc] at ap2
      exact ⟨s2, j1 ++ j2, ts ++ ([v1] ++ [v2]), by simp [Bd_ap, papp_at, q1, ap, q2, ap2], b2.up (by omega), ha.app ((AllTx.one (tx.up (Nat.zero_le _) (by decide))).app (.one (tx2.up (Nat.zero_le _) (by decide)))), by rw [List.length_append]; exact Nat.le_refl _, n1.app n2, by rw [List.length_append]; exact Nat.le_add_right _ _⟩)
    (rngL 0 3) s6 ([.lst (rngL 0 11), .lst [.int 39, .int 40], .lst sz] ++ j6) ts2 (T + 4 * 20) o6 i6 (by rw [rngL_len]; show T + 4 * 20 + 3 * 52 ≤ _; omega) a2 (by rw [rngL_len]; have : (4 : Int).toNat = 4 := rfl; have : (3 : Int).toNat = 3 := rfl; omega) (((Nox.one rfl).app ((Nox.one rfl).app (Nox.one rfl))).app n6)
  rw [rngL_len] at i7 l3
  have l3' : ts3.length ≤ 200 := by have : (4 : Int).toNat = 4 := rfl; have : (3 : Int).toNat = 3 := rfl; omega
  have g1 : 1 ≤ ts3.length := by omega
  obtain ⟨s8, j8, v8, q8, b8, n8, st, rfl, st0, st1⟩ := take_sk (wf := wf) (n := n + 3) K.toPre (count := (ts3.length : Int)) (by omega) (by omega) ns s7 (e ++ .lst ts3 :: ([.lst (rngL 0 11), .lst [.int 39, .int 40], .lst sz] ++ j6 ++ j7)) (T + 4 * 20 + 3 * 52) i7 (by omega)
  have gX := get_at (ns := ns) (s := s8) (e := e) (j := [.lst (rngL 0 11), .lst [.int 39, .int 40], .lst sz] ++ j6 ++ j7 ++ j8) (o := .lst ts3)
  obtain ⟨J, hJ⟩ : ∃ J, J = [Ob.lst (rngL 0 11), .lst [.int 39, .int 40], .lst sz] ++ j6 ++ j7 ++ j8 := ⟨_, rfl⟩
  have t2 := texts2 (Γ := Γ) (wf := wf) (n := n + 5) (st := st) (r0 := some (.ref 3)) (r1 := some (.str (sg1 ++ sg2))) (r2 := some (.str z)) (r3 := some (.int a)) (r5 := o1) (r6 := o7) (r8 := none) gX l3'
  have at' : AllTx (cutL ts3 (some st) none ++ cutL ts3 none (some st) ++ cutL (cutL ts3 (some st) none ++ cutL ts3 none (some st)) none (some 4)) := ((a3.cut _ _).app (a3.cut _ _)).app (((a3.cut _ _).app (a3.cut _ _)).cut _ _)
  generalize cutL ts3 (some st) none ++ cutL ts3 none (some st) ++ cutL (cutL ts3 (some st) none ++ cutL ts3 none (some st)) none (some 4) = fin at *
  generalize cutL (cutL ts3 (some st) none ++ cutL ts3 none (some st)) none (some 4) = f4 at *
  generalize cutL ts3 (some st) none ++ cutL ts3 none (some st) = f3 at *
  generalize cutL ts3 none (some st) = f2 at *
  generalize cutL ts3 (some st) none = f1 at *
  refine ⟨s8, .lst ts3 :: (J ++ [.lst f1, .lst f2, .lst f3, .lst f4, .lst fin]), (B ns s8 ++ (e ++ .lst ts3 :: J)).length + 4, fin, ?_, b8.up (by omega), ?_, ?_, at'⟩
  · have st1 : exS Γ wf (call Γ wf (n + 5)) (.asc 4 (.comp 8 (.any (.var 1)) .no (.bin .add (.bin .add (.cut (.var 2) .no (.yes (.var 3))) (.var 8)) (.cut (.var 2) (.yes (.bin .add (.var 3) (.cst (.int (1))))) .no)))) [some (.ref 3), some (.str (sg1 ++ sg2)), some (.str z), some (.int a), none, none, none, none, none] (B ns s ++ e) =
        some (.nx [some (.ref 3), some (.str (sg1 ++ sg2)), some (.str z), some (.int a), some (.ref (4 + e.length)), none, none, none, none], B ns s ++ (e ++ [.lst ts0])) := by
      simp [cp]
    have H1 : B ns s ++ (e ++ [.lst ts0]) ++ [.lst (rngL 0 11)] = B ns s ++ (e ++ [.lst ts0, .lst (rngL 0 11)]) := by simp
    have L1 : (B ns s ++ (e ++ [Ob.lst ts0])).length = 4 + e.length + 1 := by rw [List.length_append, List.length_append]; show 4 + (e.length + 1) = _; omega
    have L2 : (B ns s ++ (e ++ [Ob.lst ts0, .lst (rngL 0 11)])).length = 4 + e.length + 2 := by rw [List.length_append, List.length_append]; show 4 + (e.length + 2) = _; omega
    have L3 : (B ns s ++ (e ++ [Ob.lst ts0, .lst (rngL 0 11), .lst [.int 39, .int 40]])).length = 4 + e.length + 3 := by rw [List.length_append, List.length_append]; show 4 + (e.length + 3) = _; omega
    have H2 : B ns s ++ (e ++ [.lst ts0, .lst (rngL 0 11)]) ++ [.lst [.int 39, .int 40]] = B ns s ++ (e ++ [.lst ts0, .lst (rngL 0 11), .lst [.int 39, .int 40]]) := by simp
    have H3 : B ns s ++ (e ++ [.lst ts0, .lst (rngL 0 11), .lst [.int 39, .int 40]]) ++ [.lst sz] = B ns s ++ (e ++ .lst ts0 :: [.lst (rngL 0 11), .lst [.int 39, .int 40], .lst sz]) := by simp
    have G : ∀ (d : Nat) (l : Hq) (o : Ob), l[d]? = some o → (B ns s ++ (e ++ l))[4 + e.length + d]? = some o := fun d l o hl => by
      rw [← List.append_assoc, List.getElem?_append_right (by rw [List.length_append]; show 4 + e.length ≤ _; omega), List.length_append, show 4 + e.length + d - ((B ns s).length + e.length) = d by show 4 + e.length + d - (4 + e.length) = d; omega]
      exact hl
    have ad := add_lst (h := B ns s ++ (e ++ [.lst ts0, .lst (rngL 0 11), .lst [.int 39, .int 40]])) (a := 4 + e.length + 1) (b := 4 + e.length + 2) (G 1 _ _ rfl) (G 2 _ _ rfl) (by rw [← List.length_append, ← hsz, szl]; decide)
    rw [← hsz, L3, H3] at ad
    have wk := walk_lst (h := B ns s ++ (e ++ .lst ts0 :: [.lst (rngL 0 11), .lst [.int 39, .int 40], .lst sz])) (a := 4 + e.length + 3) (G 3 _ _ rfl)
    have k2 : ∀ u v h, kLst [u, v] h = ret (.ref h.length) (h ++ [.lst [u, v]]) := fun u v h => kLst_ok (by show 2 ≤ line; decide)
    have st2 : exS Γ wf (call Γ wf (n + 5)) (.for 5 (.any (.bin .add (.lrg (.cst (.int (11)))) (.lst (.cons (.cst (.int (39))) (.cons (.cst (.int (40))) .nil))))) (.cons (.exp (.mth .append (.var 4) (.cons (.cut (.bin .mul (.var 2) (.cst (.int (40)))) .no (.yes (.var 5))) .nil))) .nil)) [some (.ref 3), some (.str (sg1 ++ sg2)), some (.str z), some (.int a), some (.ref (4 + e.length)), none, none, none, none] (B ns s ++ (e ++ [.lst ts0])) =
        some (.nx [some (.ref 3), some (.str (sg1 ++ sg2)), some (.str z), some (.int a), some (.ref (4 + e.length)), o1, none, none, none], B ns s ++ (e ++ .lst ts1 :: [.lst (rngL 0 11), .lst [.int 39, .int 40], .lst sz])) := by
      simp only [exS_for, evS_any, evE_bin, evE_lrg, evE_cst, bnd_ret, lrg11, L1, H1, kBin1_ap, evE_lst, evEs_cons, evEs_nil, kEs1_ap, kEs2_ap, k2, L2, H2, binV_add, ad, wk, lft_ret, kFor_ap, e5]
    have st3 : exS Γ wf (call Γ wf (n + 5)) (.for 6 (.rng (.cst (.int (4)))) (.cons (.exp (.mth .append (.var 4) (.cons (.call 13 (.cons (.var 0) .nil)) .nil))) .nil)) [some (.ref 3), some (.str (sg1 ++ sg2)), some (.str z), some (.int a), some (.ref (4 + e.length)), o1, none, none, none] (B ns s ++ (e ++ .lst ts1 :: [.lst (rngL 0 11), .lst [.int 39, .int 40], .lst sz])) =
        some (.nx [some (.ref 3), some (.str (sg1 ++ sg2)), some (.str z), some (.int a), some (.ref (4 + e.length)), o1, o6, none, none], B ns s6 ++ (e ++ .lst ts2 :: ([.lst (rngL 0 11), .lst [.int 39, .int 40], .lst sz] ++ j6))) := by
      simp only [exS_for, evS_rng, evE_cst, bnd_ret, kRng_ap, show rngOk 4 = true from rfl, rngF_t, lft_ret, kFor_ap]
      exact e6
    have st4 : exS Γ wf (call Γ wf (n + 5)) (.for 6 (.rng (.cst (.int (3)))) (.cons (.exp (.mth .append (.var 4) (.cons (.call 12 (.cons (.var 0) .nil)) .nil))) (.cons (.exp (.mth .append (.var 4) (.cons (.call 14 (.cons (.var 0) .nil)) .nil))) .nil))) [some (.ref 3), some (.str (sg1 ++ sg2)), some (.str z), some (.int a), some (.ref (4 + e.length)), o1, o6, none, none] (B ns s6 ++ (e ++ .lst ts2 :: ([.lst (rngL 0 11), .lst [.int 39, .int 40], .lst sz] ++ j6))) =
        some (.nx [some (.ref 3), some (.str (sg1 ++ sg2)), some (.str z), some (.int a), some (.ref (4 + e.length)), o1, o7, none, none], B ns s7 ++ (e ++ .lst ts3 :: ([.lst (rngL 0 11), .lst [.int 39, .int 40], .lst sz] ++ j6 ++ j7))) := by
      simp only [exS_for, evS_rng, evE_cst, bnd_ret, kRng_ap, show rngOk 3 = true from rfl, rngF_t, lft_ret, kFor_ap]
      exact e7
    have ln := len_lst (Γ := Γ) (get_at (ns := ns) (s := s7) (e := e) (j := [.lst (rngL 0 11), .lst [.int 39, .int 40], .lst sz] ++ j6 ++ j7) (o := .lst ts3))
    have q8' : call Γ wf (n + 5) 5 [.ref 3, .int ts3.length] (B ns s7 ++ (e ++ .lst ts3 :: ([.lst (rngL 0 11), .lst [.int 39, .int 40], .lst sz] ++ j6 ++ j7))) = some (.ok (.int st), B ns s8 ++ (e ++ .lst ts3 :: J)) := by
      rw [q8, hJ]
      simp
    have st5 : exS Γ wf (call Γ wf (n + 5)) (.asg 7 (.call 5 (.cons (.var 0) (.cons (.fn .len (.cons (.var 4) .nil)) .nil)))) [some (.ref 3), some (.str (sg1 ++ sg2)), some (.str z), some (.int a), some (.ref (4 + e.length)), o1, o7, none, none] (B ns s7 ++ (e ++ .lst ts3 :: ([.lst (rngL 0 11), .lst [.int 39, .int 40], .lst sz] ++ j6 ++ j7))) =
        some (.nx [some (.ref 3), some (.str (sg1 ++ sg2)), some (.str z), some (.int a), some (.ref (4 + e.length)), o1, o7, some (.int st), none], B ns s8 ++ (e ++ .lst ts3 :: J)) := by
      simp only [exS_asg, evE_call, evEs_cons, evEs_nil, evE_var, List.getElem?_cons_zero, List.getElem?_cons_succ, varF_some, bnd_ret, kEs1_ap, kEs2_ap, evE_fn, ln, q8', lft_ok, kAsg_ap, List.set]
    rw [← hJ] at t2
    rw [textsR, exSs_cons, st1, sq_nx, kSs_ap, exSs_cons, st2, sq_nx, kSs_ap, exSs_cons, st3, sq_nx, kSs_ap, exSs_cons, st4, sq_nx, kSs_ap, exSs_cons, st5, sq_nx, kSs_ap, t2]
    simp
  · rw [hJ]
    exact (Nox.one (o := .lst ts3) rfl).app ((((((Nox.one rfl).app ((Nox.one rfl).app (Nox.one rfl))).app n6).app n7).app n8).app rfl)
  · rw [show B ns s8 ++ (e ++ .lst ts3 :: (J ++ [.lst f1, .lst f2, .lst f3, .lst f4, .lst fin])) = (B ns s8 ++ (e ++ .lst ts3 :: J)) ++ [.lst f1, .lst f2, .lst f3, .lst f4, .lst fin] by simp, List.getElem?_append_right (by omega)]
    rw [show (B ns s8 ++ (e ++ .lst ts3 :: J)).length + 4 - (B ns s8 ++ (e ++ .lst ts3 :: J)).length = 4 by omega]
    rfl
end
end Cf
set_option Elab.async false
set_option linter.all false
set_option maxRecDepth 100000
set_option maxHeartbeats 1000000
namespace Cf
open Mp
section
variable {Γ : Gam} {wf : Nat} {n : Nat} {h : Hq}
theorem texts_ok (K : K0 Γ) {ns : List Int} {s : St6} {e : Hq} {T : Nat} (i : Inv ns s T) (hT : T ≤ 900) :
    ∃ s' j p ts, call Γ wf (n + 6) 18 [.ref 3] (B ns s ++ e) = some (.ok (.ref p), B ns s' ++ (e ++ j)) ∧ Nox j ∧ (B ns s' ++ (e ++ j))[p]? = some (.lst ts) ∧ AllTx ts := by
  rw [call_s K.f18 rfl]
  obtain ⟨s1, j1, v1, q1, b1, n1, z, rfl, z0, z1⟩ := name_sk (wf := wf) (n := n + 2) K.toPre K.f12 ns s e T i (by omega)
  obtain ⟨s2, j2, v2, q2, b2, n2, x, rfl, x0, x1⟩ := take_sk (wf := wf) (n := n + 3) K.toPre (count := (z.length : Int)) (by omega) (by omega) ns s1 (e ++ j1) (T + 10) b1 (by omega)
  obtain ⟨s3, j3, v3, q3, b3, n3, b, rfl⟩ := hit_sk (wf := wf) (n := n + 2) K.toPre K.f6 (w := 2) (by decide) (by decide) ns s2 (e ++ j1 ++ j2) (T + 10 + 1) b2 (by omega)
  have lz := fun h => len_s (Γ := Γ) (z := z) (by omega) h
  have ad0 := fun h => add_s (a := sg1) (b := sg2) (by rw [sg1_len]; decide) (by rw [sg2_len]; decide) h
  simp only [List.append_assoc] at q2 q3
  obtain ⟨s4, j4, p, ts, e4, i4, n4, g4, a4⟩ := texts1 (wf := wf) (n := n) K (e := e ++ (j1 ++ (j2 ++ j3))) b3 (by omega) z0 z1 (a := if b = true then 0 else x)
  refine ⟨s4, j1 ++ (j2 ++ (j3 ++ j4)), p, ts, ?_, n1.app (n2.app (n3.app n4)), by simpa using g4, a4⟩
  have e4' : exSs Γ wf (call Γ wf (n + 5)) textsR [some (.ref 3), some (.str (sg1 ++ sg2)), some (.str z), some (.int (if b = true then 0 else x)), none, none, none, none, none] (B ns s3 ++ (e ++ (j1 ++ (j2 ++ j3)))) = some (.ret (.ref p), B ns s4 ++ (e ++ (j1 ++ (j2 ++ (j3 ++ j4))))) := by
    rw [e4]
    simp
  unfold textsR at e4'
  cases b with
  | true => 
    simp only [if_true] at e4'
    simp only [d_law_texts, b_law_texts, Mp.start, exSs_cons (s := .asg _ _), exSs_cons (s := .ite _ _ _), exS_asg, exS_ite, evT_call, kCallT_ap, evE_cst, evE_bin, evE_call, evEs_cons, evEs_nil, evE_var, evE_fn, List.map, List.replicate, List.length, List.append, List.cons_append, List.nil_append, List.getElem?_cons_zero, List.getElem?_cons_succ, varF_some, bnd_ret, bnd_ok, kEs1_ap, kEs2_ap, kBin1_ap, binV_add, ad0, lft_ret, lft_ok, kAsg_ap, List.set, sq_nx, kSs_ap, q1, lz, q2, q3, kTru_ap, tru_bl, optT_some, kIf_t, exSs_nil, e4', endF_ret]
  | false =>
    simp only [Bool.false_eq_true, if_false] at e4'
    simp only [d_law_texts, b_law_texts, Mp.start, exSs_cons (s := .asg _ _), exSs_cons (s := .ite _ _ _), exS_asg, exS_ite, evT_call, kCallT_ap, evE_cst, evE_bin, evE_call, evEs_cons, evEs_nil, evE_var, evE_fn, List.map, List.replicate, List.length, List.append, List.cons_append, List.nil_append, List.getElem?_cons_zero, List.getElem?_cons_succ, varF_some, bnd_ret, bnd_ok, kEs1_ap, kEs2_ap, kBin1_ap, binV_add, ad0, lft_ret, lft_ok, kAsg_ap, List.set, sq_nx, kSs_ap, q1, lz, q2, q3, kTru_ap, tru_bl, optT_some, kIf_f, exSs_nil, e4', endF_ret]
/-- one door, one text -/
def doorB : Ss := .cons (.ite (.not (.call 17 (.cons (.call 19 (.cons (.var 4) (.cons (.var 3) .nil))) (.cons (.call 21 (.cons (.var 4) (.cons (.var 3) .nil))) .nil)))) (.cons (.ret (.cst (.bl false))) .nil) .nil) .nil
theorem door_ok (K : K0 Γ) (nh : Nox h) {z : PySem.Str} (hz : z.length ≤ 400) {d : Int} (hd : d = 0 ∨ d = 1) {r0 r1 r2 : Option W} :
    ∃ j, Bd Γ (call Γ wf (n + 4)) wf doorB [r0, r1, r2, some (.str z), some (.int d)] h = some (.nx [r0, r1, r2, some (.str z), some (.int d)], h ++ j) ∧ Nox j := by
  rcases hd with rfl | rfl
  · have a := ask0_ok (wf := wf) (n := n + 2) (h := h) K hz
    obtain ⟨j, b, nj⟩ := due0_ok (wf := wf) (n := n + 2) (h := h ++ [.tup [.int 0, .bl (nameB z)]]) K hz
    have c := meets0_ok (wf := wf) (n := n) (h := h ++ [.tup [.int 0, .bl (nameB z)]] ++ (j ++ [.tup [.int 0, .bl (nameB z)]])) K (.bl (nameB z)) (p := h.length) (q := (h ++ [Ob.tup [.int 0, .bl (nameB z)]]).length + j.length)
      (get_pre (get_new1 h _)) (get_new2 (h ++ [Ob.tup [.int 0, .bl (nameB z)]]) j _)
    refine ⟨_, ?_, (Nox.one (o := .tup [.int 0, .bl (nameB z)]) rfl).app ((nj.app (Nox.one (o := .tup [.int 0, .bl (nameB z)]) rfl)).app (Nox.app (Nox.one (o := .tup [.bl (nameB z), .bl (nameB z)]) rfl) (Nox.one (o := .lst []) rfl)))⟩
    simp only [doorB, Bd_ap, exSs_cons, exS_ite, evT_not, evT_call, evEs_cons, evEs_nil, evE_call, evE_var, List.getElem?_cons_zero, List.getElem?_cons_succ, varF_some, bnd_ret, bnd_ok, kEs1_ap, kEs2_ap, a, b, kCallT_ap, c, kTru_ap, tru_bl, optT_some, kNotT_ap, Bool.not_true, lft_ret, kIf_f, exSs_nil, sq_nx, kSs_ap]
    simp
  · cases hn : nameB z with
    | true =>
      have a := ask1_ok (wf := wf) (n := n + 1) (h := h) K hz hn
      obtain ⟨j, b, nj⟩ := due1_ok (wf := wf) (n := n + 2) (h := h ++ [.tup [.int 0, .str z]]) K hz hn
      have c := meets0_ok (wf := wf) (n := n) (h := h ++ [.tup [.int 0, .str z]] ++ (j ++ [.tup [.int 0, .str z]])) K (.str z) (p := h.length) (q := (h ++ [Ob.tup [.int 0, .str z]]).length + j.length)
        (get_pre (get_new1 h _)) (get_new2 (h ++ [Ob.tup [.int 0, .str z]]) j _)
      refine ⟨_, ?_, (Nox.one (o := .tup [.int 0, .str z]) rfl).app ((nj.app (Nox.one (o := .tup [.int 0, .str z]) rfl)).app (Nox.app (Nox.one (o := .tup [.str z, .str z]) rfl) (Nox.one (o := .lst []) rfl)))⟩
      simp only [doorB, Bd_ap, exSs_cons, exS_ite, evT_not, evT_call, evEs_cons, evEs_nil, evE_call, evE_var, List.getElem?_cons_zero, List.getElem?_cons_succ, varF_some, bnd_ret, bnd_ok, kEs1_ap, kEs2_ap, a, b, kCallT_ap, c, kTru_ap, tru_bl, optT_some, kNotT_ap, Bool.not_true, lft_ret, kIf_f, exSs_nil, sq_nx, kSs_ap]
      simp
    | false =>
      have a := ask2_ok (wf := wf) (n := n + 1) (h := h) K nh hz hn
      obtain ⟨H, hH⟩ : ∃ H, H = h ++ [Ob.dead, .lst nmsL, .lst ((flgs 1).map W.bl), .lst [.str BN], .tup [.int 1, .ref (h.length + 3), .str z]] := ⟨_, rfl⟩
      have g1 : H[h.length + 4]? = some (.tup [.int 1, .ref (h.length + 3), .str z]) := by rw [hH, List.getElem?_append_right (by omega), show h.length + 4 - h.length = 4 by omega]; rfl
      have g2 : H[h.length + 3]? = some (.lst [.str BN]) := by rw [hH, List.getElem?_append_right (by omega), show h.length + 3 - h.length = 3 by omega]; rfl
      rw [← hH] at a
      obtain ⟨j, b, nj⟩ := due2_ok (wf := wf) (n := n + 2) (h := H) K hz hn
      have c := meets2_ok (wf := wf) (n := n) (h := H ++ (j ++ [.tup [.int 1, .str BN, .str z]])) K (p := h.length + 4) (q := H.length + j.length) (r := h.length + 3) (get_pre g1) (get_new2 H j _) (get_pre g2)
      refine ⟨[Ob.dead, .lst nmsL, .lst ((flgs 1).map W.bl), .lst [.str BN], .tup [.int 1, .ref (h.length + 3), .str z]] ++ ((j ++ [.tup [.int 1, .str BN, .str z]]) ++ [.lst [.str BN], .tup [.str z, .str z], .lst []]), ?_, Nox.app rfl ((nj.app (Nox.one rfl)).app (show Nox [Ob.lst [.str BN], .tup [.str z, .str z], .lst []] from rfl))⟩
      simp only [doorB, Bd_ap, exSs_cons, exS_ite, evT_not, evT_call, evEs_cons, evEs_nil, evE_call, evE_var, List.getElem?_cons_zero, List.getElem?_cons_succ, varF_some, bnd_ret, bnd_ok, kEs1_ap, kEs2_ap, a, b, kCallT_ap, c, kTru_ap, tru_bl, optT_some, kNotT_ap, Bool.not_true, lft_ret, kIf_f, exSs_nil, sq_nx, kSs_ap]
      rw [hH]
      simp
end
end Cf
set_option Elab.async false
set_option linter.all false
set_option maxRecDepth 100000
set_option maxHeartbeats 1000000
namespace Cf
open Mp
def textB : Ss := .cons (.for 4 (.any (.lst (.cons (.var 2) (.cons (.bin .sub (.cst (.int (1))) (.var 2)) .nil)))) doorB) .nil
section
variable {Γ : Gam} {wf : Nat} {n : Nat} {h : Hq}
theorem B_nox {ns : List Int} {s : St6} : Nox (B ns s) := rfl
theorem doors_ok (K : K0 Γ) (nh : Nox h) {z : PySem.Str} (hz : z.length ≤ 400) {f : Int} (hf : f = 0 ∨ f = 1) {r0 r1 o4 : Option W} :
    ∃ j, Bd Γ (call Γ wf (n + 4)) wf textB [r0, r1, some (.int f), some (.str z), o4] h = some (.nx [r0, r1, some (.int f), some (.str z), some (.int (1 - f))], h ++ j) ∧ Nox j := by
  have k2 : ∀ u v h, kLst [u, v] h = ret (.ref h.length) (h ++ [.lst [u, v]]) := fun u v h => kLst_ok (by show 2 ≤ line; decide)
  have g : (h ++ [Ob.lst [.int f, .int (1 - f)]])[h.length]? = some (.lst [.int f, .int (1 - f)]) := get_new1 h _
  have w := walk_lst g
  obtain ⟨j1, b1, m1⟩ := door_ok (wf := wf) (n := n) (h := h ++ [Ob.lst [.int f, .int (1 - f)]]) K (nh.app (Nox.one rfl)) hz hf (r0 := r0) (r1 := r1) (r2 := some (.int f))
  obtain ⟨j2, b2, m2⟩ := door_ok (wf := wf) (n := n) (h := h ++ [Ob.lst [.int f, .int (1 - f)]] ++ j1) K ((nh.app (Nox.one rfl)).app m1) hz (d := 1 - f) (by omega) (r0 := r0) (r1 := r1) (r2 := some (.int f))
  refine ⟨[Ob.lst [.int f, .int (1 - f)]] ++ (j1 ++ j2), ?_, (Nox.one rfl).app (m1.app m2)⟩
  have L : forL (some (h.length, .lst [.int f, .int (1 - f)])) 4 (Bd Γ (call Γ wf (n + 4)) wf doorB) [.int f, .int (1 - f)] [r0, r1, some (.int f), some (.str z), o4] (h ++ [Ob.lst [.int f, .int (1 - f)]]) =
      some (.nx [r0, r1, some (.int f), some (.str z), some (.int (1 - f))], h ++ [Ob.lst [.int f, .int (1 - f)]] ++ j1 ++ j2) := by
    rw [forL_cons (stays_at g) b1, forL_cons (stays_at (get_pre g)) b2, forL_nil (stays_at (get_pre (get_pre g)))]
  simp only [textB, Bd_ap, exSs_cons, exS_for, evS_any, evE_lst, evEs_cons, evEs_nil, evE_var, evE_bin, evE_cst, List.getElem?_cons_zero, List.getElem?_cons_succ, varF_some, bnd_ret, kEs1_ap, kEs2_ap, kBin1_ap, binV_sub, subV_int, k2, w, lft_ret, kFor_ap, L, sq_nx, kSs_ap, exSs_nil]
  simp
theorem loop_ok (K : K0 Γ) {p : Nat} {ts : List W} {f : Int} (hf : f = 0 ∨ f = 1) {r0 r1 : Option W} : ∀ (xs : List W) (o3 o4 : Option W) (h : Hq), Nox h → h[p]? = some (.lst ts) → AllTx xs →
    ∃ o3' o4' h', forL (some (p, .lst ts)) 3 (Bd Γ (call Γ wf (n + 4)) wf textB) xs [r0, r1, some (.int f), o3, o4] h = some (.nx [r0, r1, some (.int f), o3', o4'], h')
  | [], o3, o4, h, nh, g, _ => ⟨o3, o4, h, forL_nil (stays_at g)⟩
  | x :: xs, o3, o4, h, nh, g, a => by
    obtain ⟨z, rfl, _, hz⟩ := a x List.mem_cons_self
    obtain ⟨j, b, m⟩ := doors_ok (wf := wf) (n := n) (h := h) K nh hz hf (r0 := r0) (r1 := r1) (o4 := o4)
    obtain ⟨o3', o4', h', q⟩ := loop_ok K hf xs (some (.str z)) (some (.int (1 - f))) (h ++ j) (nh.app m) (get_pre g) fun t ht => a t (List.mem_cons_of_mem _ ht)
    exact ⟨o3', o4', h', by rw [forL_cons (stays_at g) b, q]⟩
theorem law_ok (K : K0 Γ) {ns : List Int} (hl : ns.length ≤ 63) : ∃ h', call Γ wf (n + 7) 22 [.ref 0] [.frl (ns.map W.int)] = some (.ok (.bl true), h') := by
  rw [call_s K.f22 rfl]
  obtain ⟨s0, q0, i0⟩ := store_ok (wf := wf) (n := n + 5) K hl
  obtain ⟨s1, j1, v1, q1, b1, n1, f, rfl, f0, f1⟩ := take_sk (wf := wf) (n := n + 4) K.toPre (count := 2) (by decide) (by decide) ns s0 [] 0 i0 (by omega)
  obtain ⟨s2, j2, v2, q2, b2, n2, z, rfl, z0, z1⟩ := text_sk (wf := wf) (n := n + 2) K.toPre K.f7 K.f14 ns s1 ([] ++ j1) (0 + 1) b1 (by omega)
  obtain ⟨j3, q3, n3⟩ := base_ok (wf := wf) (n := n + 2) (h := B ns s2 ++ ([] ++ j1 ++ j2)) K (B_nox.app ((Nox.nil.app n1).app n2)) (.str z)
  obtain ⟨s4, j4, v4, q4, b4, n4, x, rfl, x0, x1⟩ := take_sk (wf := wf) (n := n + 4) K.toPre (count := 1000000) (by decide) (by decide) ns s2 ([] ++ j1 ++ j2 ++ j3) (0 + 1 + 42) b2 (by omega)
  obtain ⟨j5, q5, n5⟩ := base_ok (wf := wf) (n := n + 2) (h := B ns s4 ++ ([] ++ j1 ++ j2 ++ j3 ++ j4)) K (B_nox.app ((((Nox.nil.app n1).app n2).app n3).app n4)) (.int (x - 7))
  obtain ⟨s6, j6, p, ts, q6, n6, g6, a6⟩ := texts_ok (wf := wf) (n := n) K (e := [] ++ j1 ++ j2 ++ j3 ++ j4 ++ j5) b4 (by omega)
  have w := walk_lst g6
  obtain ⟨o3, o4, h', L⟩ := loop_ok (wf := wf) (n := n + 2) K (p := p) (ts := ts) (f := f) (by omega) (r0 := some (.ref 0)) (r1 := some (.ref 3)) ts none none _ (B_nox.app ((((((Nox.nil.app n1).app n2).app n3).app n4).app n5).app n6)) g6 a6
  refine ⟨h', ?_⟩
  simp only [List.nil_append, List.append_assoc, List.append_nil] at q1 q2 q3 q4 q5 q6 w L
  simp only [textB, doorB] at L
  simp only [d_law, b_law, Mp.start, exSs_cons, exS_asg, exS_ite, exS_for, evT_or, evT_not, evT_call, evS_any, kCallT_ap, evE_cst, evE_bin, evE_call, evEs_cons, evEs_nil, evE_var, evE_fn, List.map, List.replicate, List.length, List.append, List.cons_append, List.nil_append, List.getElem?_cons_zero, List.getElem?_cons_succ, varF_some, bnd_ret, bnd_ok, kEs1_ap, kEs2_ap, kBin1_ap, binV_sub, subV_int, lft_ret, lft_ok, kAsg_ap, List.set, sq_nx, kSs_ap, q0, q1, q2, q3, q4, q5, q6, w, L, kTru_ap, tru_bl, optT_some, kNotT_ap, Bool.not_true, kOrT_f, kIf_f, exSs_nil, kFor_ap, exS_ret, kRet_ap, sq_ret, endF_ret]
end
end Cf
set_option Elab.async false
set_option linter.all false
set_option maxRecDepth 100000
set_option maxHeartbeats 0
namespace K00
open Mp Cf
def fnL : List (Nat × FnD) := [(0, d_is_name), (1, d_check_name), (2, d_law_mix), (3, d_law_store), (4, d_law_load), (5, d_law_take), (6, d_law_hit), (7, d_law_edge), (8, d_law_isnumber), (9, d_law_same_flat), (10, d_law_same), (11, d_law_isname), (12, d_law_name), (13, d_law_badname), (14, d_law_text), (15, d_law_kinds), (16, d_law_error), (17, d_law_meets), (18, d_law_texts), (19, d_law_ask), (20, d_law_base_right), (21, d_law_due), (22, d_law)]
def glL : List (Nat × W) := [(0, (.str (PySem.Str.ofString "abcdefghijklmnopqrstuvwxyz"))), (1, (.str (PySem.Str.ofString "abcdefghijklmnopqrstuvwxyz0123456789"))), (2, (.int (8)))]
def clL : List (Nat × PySem.Str) := [(0, PySem.Str.ofString "ClosedError"), (1, PySem.Str.ofString "BadName"), (2, PySem.Str.ofString "BadRooms"), (3, PySem.Str.ofString "BadNumber"), (4, PySem.Str.ofString "Double"), (5, PySem.Str.ofString "TooMany"), (6, PySem.Str.ofString "NoPlace"), (7, PySem.Str.ofString "NoArrow"), (8, PySem.Str.ofString "NoThing"), (9, PySem.Str.ofString "NoPrice"), (10, PySem.Str.ofString "NoRing"), (11, PySem.Str.ofString "Loop"), (12, PySem.Str.ofString "BadWay"), (13, PySem.Str.ofString "NoRoom"), (14, PySem.Str.ofString "BadLine"), (15, PySem.Str.ofString "NotPossible"), (16, PySem.Str.ofString "NotBarred"), (17, PySem.Str.ofString "NotClean"), (18, PySem.Str.ofString "SearchFull"), (19, PySem.Str.ofString "BadPlan"), (20, PySem.Str.ofString "Busy"), (21, PySem.Str.ofString "BadEvent"), (22, PySem.Str.ofString "WrongNet")]
def supL : List (Nat × List Nat) := [(0, [0]), (1, [1, 0]), (2, [2, 0]), (3, [3, 0]), (4, [4, 0]), (5, [5, 0]), (6, [6, 0]), (7, [7, 0]), (8, [8, 0]), (9, [9, 0]), (10, [10, 0]), (11, [11, 0]), (12, [12, 0]), (13, [13, 0]), (14, [14, 0]), (15, [15, 0]), (16, [16, 0]), (17, [17, 0]), (18, [18, 0]), (19, [19, 0]), (20, [20, 0]), (21, [21, 0]), (22, [22, 0])]
def excL : List Nat := [0, 1, 2, 3, 4, 5, 6, 7, 8, 9, 10, 11, 12, 13, 14, 15, 16, 17, 18, 19, 20, 21, 22]
def Γ : Gam := ⟨fun f => fnL.lookup f, fun g => glL.lookup g, fun c => (clL.lookup c).isSome, fun c => excL.contains c, fun c d => ((supL.lookup c).getD []).contains d, fun c t => excL.contains c && ["ValueError", "Exception", "BaseException", "object"].contains t, ["ValueError"]⟩
def nm : Nm := ⟨[(0, PySem.Str.ofString "is_name"), (1, PySem.Str.ofString "check_name"), (2, PySem.Str.ofString "_law_mix"), (3, PySem.Str.ofString "_law_store"), (4, PySem.Str.ofString "_law_load"), (5, PySem.Str.ofString "_law_take"), (6, PySem.Str.ofString "_law_hit"), (7, PySem.Str.ofString "_law_edge"), (8, PySem.Str.ofString "_law_isnumber"), (9, PySem.Str.ofString "_law_same_flat"), (10, PySem.Str.ofString "_law_same"), (11, PySem.Str.ofString "_law_isname"), (12, PySem.Str.ofString "_law_name"), (13, PySem.Str.ofString "_law_badname"), (14, PySem.Str.ofString "_law_text"), (15, PySem.Str.ofString "_law_kinds"), (16, PySem.Str.ofString "_law_error"), (17, PySem.Str.ofString "_law_meets"), (18, PySem.Str.ofString "_law_texts"), (19, PySem.Str.ofString "_law_ask"), (20, PySem.Str.ofString "_law_base_right"), (21, PySem.Str.ofString "_law_due"), (22, PySem.Str.ofString "law")], clL, [(0, PySem.Str.ofString "LETTERS"), (1, PySem.Str.ofString "LETTERS_AND_DIGITS"), (2, PySem.Str.ofString "LONGEST_NAME")], [8, 9, 10, 15, 16], [PySem.Str.ofString "ValueError", PySem.Str.ofString "abs", PySem.Str.ofString "bool", PySem.Str.ofString "int", PySem.Str.ofString "isinstance", PySem.Str.ofString "len", PySem.Str.ofString "list", PySem.Str.ofString "max", PySem.Str.ofString "min", PySem.Str.ofString "range", PySem.Str.ofString "str", PySem.Str.ofString "tuple"]⟩
def Ns : List (Nat × List PySem.Str) := [(0, N_is_name), (1, N_check_name), (2, N_law_mix), (3, N_law_store), (4, N_law_load), (5, N_law_take), (6, N_law_hit), (7, N_law_edge), (8, N_law_isnumber), (9, N_law_same_flat), (10, N_law_same), (11, N_law_isname), (12, N_law_name), (13, N_law_badname), (14, N_law_text), (15, N_law_kinds), (16, N_law_error), (17, N_law_meets), (18, N_law_texts), (19, N_law_ask), (20, N_law_base_right), (21, N_law_due), (22, N_law)]
abbrev lawIx : Nat := 22
end K00
namespace K00
open PySem Mp Cf
abbrev P : Program := PySem.Challenge.pw_closedfull_k00_names
theorem chk : defsB nm Γ Ns (topDefs P) = true := by decide +kernel
theorem chkI : iniB (clsInit P).2 = true := by decide +kernel
end K00
set_option Elab.async false
set_option linter.all false
set_option maxRecDepth 100000
set_option maxHeartbeats 0
namespace K00
open PySem PySem.W Mp PyProof.Rows
abbrev R : PySem.W.OpenRow := PySem.W.OpenLaw.row PySem.Challenge.rw_closedfull_k00_names
abbrev iL : Nat := P.main.body.length - 1
def loo : List Str := (P.main.scope.names.map (·.1)).filter fun x => decide (x ≠ "law")
abbrev fnD : List He.DefD := (topDefs P).map dOf ++ [iniD P]
abbrev hk : PySem.W.Hook := hkP 5 P nm Γ
def ob (s : PySem.W.SharedT) : He.AlX := He.obsX 5 [] fnD [] [] (exB nm Γ (clsInit P).1) (HandSHeadRun.getT s)
theorem ob_eq (s : PySem.W.SharedT) : ob s = hk.obs s.abs := He.obsX_eq (HandSHeadRun.getT_eq s)
theorem run (w : World) : HandSHeadRun.RunEq R (PySem.W.view R.prog [iL]) hk ob 20000 loo w := by
  intro os
  kernel_rfl
end K00
set_option Elab.async false
set_option linter.all false
set_option maxRecDepth 100000
set_option maxHeartbeats 0
namespace K00
open PySem Mp
theorem k0 : Cf.K0 Γ :=
  { mix := rfl, store := rfl, load := rfl, take := rfl, num := rfl, flat := rfl, same := rfl, l := rfl, ld := rfl, m := rfl
    hc := by decide +kernel
    exc := by decide +kernel
    sub := fun c d hc hd => (by decide +kernel : ∀ c, c < 23 → ∀ d, d < 23 → Γ.sub c d = (c == d || d == 0)) c hc d hd
    ty := by decide +kernel
    tys := by decide +kernel
    f0 := rfl, f1 := rfl, f6 := rfl, f7 := rfl, f11 := rfl, f12 := rfl, f13 := rfl, f14 := rfl, f15 := rfl, f16 := rfl, f17 := rfl, f18 := rfl, f19 := rfl, f20 := rfl, f21 := rfl, f22 := rfl }
theorem plain (ns : List Int) (hl : ns.length ≤ 63) : ∃ h', call Γ 10 (30 + 1) lawIx [.ref 0] [.frl (ns.map W.int)] = some (.ok (.bl true), h') := Cf.law_ok (n := 24) k0 hl
end K00
open PySem PySem.W PySem.Calls PyProof.Rows
theorem PySem.Challenge.cw_closedfull_k00_names_holds : PySem.Challenge.rw_closedfull_k00_names.Holds := by
  w_on; o_law
  refine HandSHeadRun.head_any (r := OpenLaw.row PySem.Challenge.rw_closedfull_k00_names) (q := view (OpenLaw.row PySem.Challenge.rw_closedfull_k00_names).prog [K00.iL]) (H := K00.hk) (ob := K00.ob) (M := 20000) (loose := K00.loo) (d := HandSHeadRun.topDef (OpenLaw.row PySem.Challenge.rw_closedfull_k00_names).prog K00.iL) (kwd := []) K00.ob_eq
    (by kernel_rfl) (fun s => by kernel_rfl) K00.run (by kernel_rfl) (by kernel_rfl) (by kernel_rfl) (by rfl) (by first | assumption | decide +kernel) (by decide +kernel) ⟨rfl, rfl, rfl, rfl, rfl, by decide +kernel⟩ ?hw ?hc
  case hw => w_witness2
  case hc => exact Mp.law_walk (x := "script") (Ns := K00.Ns) (wf := 10) (n := 30) (f := K00.lawIx) rfl (by kernel_rfl) ⟨rfl, by decide, by decide⟩ (by kernel_rfl) (by kernel_rfl) K00.chk K00.chkI (fun _ => rfl) K00.plain
