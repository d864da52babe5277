import PyProof.Rows.All
import Wide.All
import OpenK.AllK
import Wide.FinOn
import HandS.ForMost
import HandS.Flow
import HandS.TupAny
import HandS.Deep
import HandS.IsInst
import HandS.Style
import HandS.Conv
import PySem.Challenge.RW_treesasked_k69_differences_of_trees
set_option Elab.async false
set_option linter.all false
set_option maxRecDepth 100000
/-! B: a small evaluator over an abstract store. -/
namespace Bi
open PySem L2

inductive W where
  | non | bl (b : Bool) | int (i : Int) | str (s : Str) | tup (xs : List W) | loc (n : Nat) | scr (ns : List Int)
  deriving Inhabited

inductive O where
  | lst (xs : List W)
  | dk (kvs : List (Key × W)) | dt (kvs : List (List Key × W))
  | ins (C : Str) (fs : List (Str × W))
  deriving Inhabited

abbrev Store := List O
abbrev Env := List (Option W)
inductive Rs (α : Type) where
  | ok (a : α) | ex (c : Nat) (w : W)
abbrev M (α : Type) := Store → Option (Rs α × Store)
abbrev Ora := Nat → List W → M W

def ret {α : Type} (a : α) : M α := fun h => some (.ok a, h)
def stuck {α : Type} : M α := fun _ => none
def bnd {α β : Type} (m : M α) (f : α → M β) : M β := fun h => match m h with
  | some (.ok a, h1) => f a h1
  | some (.ex c w, h1) => some (.ex c w, h1)
  | none => none
/-- no exception leaves it -/
def noex {α : Type} (m : M α) : M α := fun h => match m h with
  | some (.ok a, h1) => some (.ok a, h1)
  | _ => none
def alloc (o : O) : M W := fun h => some (.ok (.loc h.length), h ++ [o])
def chk {α : Type} (c : Prop) [Decidable c] (m : M α) : M α := fun h => if c then m h else none
def ofO {α : Type} : Option α → M α
  | some a => ret a
  | none => stuck

/-- a value read as plain data -/
def toD : Nat → Store → W → Option PyData
  | 0, _, _ => none
  | _ + 1, _, .non => some .none
  | _ + 1, _, .bl b => some (.bool b)
  | _ + 1, _, .int i => some (.int i)
  | _ + 1, _, .str s => some (.str s)
  | n + 1, h, .tup xs => (xs.mapM (toD n h)).map .tuple
  | n + 1, h, .loc l => match h[l]? with
    | some (.lst xs) => (xs.mapM (toD n h)).map .list
    | _ => none
  | _ + 1, _, .scr _ => none
def shD (h : Store) (w : W) : Option PyData := (toD 70 h w).bind fun d => if SeqAt.shaped d = true then some d else none

def flatW : W → Bool
  | .non => true | .bl _ => true | .int _ => true | .str _ => true
  | _ => false
def eqF : W → W → Bool
  | .non, .non => true
  | .bl a, .bl b => a == b
  | .bl a, .int b => (if a then 1 else 0) == b
  | .int a, .bl b => a == (if b then 1 else 0)
  | .int a, .int b => a == b
  | .str a, .str b => a == b
  | _, _ => false

def keyW : W → Option Key
  | .int i => some (.inl i)
  | .str s => some (.inr s)
  | _ => none
def wKey : Key → W
  | .inl i => .int i
  | .inr s => .str s
def keysW : List W → Option (List Key)
  | [] => some []
  | w :: ws => (keyW w).bind fun k => (keysW ws).map fun ks => k :: ks
def getA {κ : Type} [DecidableEq κ] (kvs : List (κ × W)) (k : κ) : Option W := (kvs.find? fun kv => decide (kv.1 = k)).map (·.2)
def putA {κ : Type} [DecidableEq κ] (kvs : List (κ × W)) (k : κ) (w : W) : List (κ × W) :=
  if (kvs.any fun kv => decide (kv.1 = k)) = true then kvs.map (fun kv => if kv.1 = k then (kv.1, w) else kv) else kvs ++ [(k, w)]

/-- what a dict object holds at a key: none where the key has not the dict's form -/
def dget (o : O) (k : W) : Option (Option W) := match o with
  | .dk kvs => (keyW k).map fun q => getA kvs q
  | .dt kvs => match k with
    | .tup ks => (keysW ks).map fun q => getA kvs q
    | _ => none
  | _ => none
def dput (o : O) (k w : W) : Option O := match o with
  | .dk kvs => (keyW k).bind fun q => if kvs.length < sizeLine then some (.dk (putA kvs q w)) else none
  | .dt kvs => match k with
    | .tup ks => (keysW ks).bind fun q => if kvs.length < sizeLine then some (.dt (putA kvs q w)) else none
    | _ => none
  | _ => none

inductive B2 where
  | add | sub | mul | mod | fdiv | pow | lt | le | gt | ge | eq | ne | inn | nin | ix | din | dnin | dix
  deriving DecidableEq

def cutW (xs : List W) (lo hi : Option Int) : List W := (xs.drop (HT.sIx xs.length 0 lo)).take (HT.sIx xs.length xs.length hi - HT.sIx xs.length 0 lo)

def lstAt (h : Store) (l : Nat) : Option (List W) := match h[l]? with
  | some (.lst xs) => some xs
  | _ => none

def isIn (h : Store) (x y : W) : Option Bool := match y with
  | .str z => match x with
    | .str s => match s.cps.toList with
      | [c] => some (decide (c ∈ z.cps.toList))
      | _ => none
    | _ => none
  | .tup ys => if flatW x = true ∧ ys.all flatW = true then some (ys.any fun y => eqF y x) else none
  | .loc l => match shD h (.loc l) with
    | some (.list ds) => (shD h x).map fun d => ds.any fun z => PyData.eqv z d
    | _ => none
  | _ => none

def op2 : B2 → W → W → M W
  | .add, .int i, .int j => ret (.int (i + j))
  | .add, .str i, .str j => chk (i.length + j.length ≤ sizeLine) (ret (.str (i ++ j)))
  | .add, .tup xs, .tup ys => chk (xs.length + ys.length ≤ sizeLine) (ret (.tup (xs ++ ys)))
  | .add, .loc a, .loc b => fun h => match h[a]?, h[b]? with
    | some (.lst xs), some (.lst ys) => chk (xs.length + ys.length ≤ sizeLine) (alloc (.lst (xs ++ ys))) h
    | _, _ => none
  | .sub, .int i, .int j => ret (.int (i - j))
  | .mul, .int i, .int j => chk ((-(2 ^ 64) < i ∧ i < 2 ^ 64) ∨ (-(2 ^ 64) < j ∧ j < 2 ^ 64)) (ret (.int (i * j)))
  | .mul, .loc a, .int k => fun h => match h[a]? with
    | some (.lst xs) => chk (-(2 ^ 63) ≤ k ∧ k < 2 ^ 63 ∧ xs.length * k.toNat ≤ sizeLine) (alloc (.lst (List.replicate k.toNat xs).flatten)) h
    | _ => none
  | .mod, .int i, .int j => chk (0 < j) (ret (.int (i % j)))
  | .fdiv, .int i, .int j => chk (0 < j ∧ j < 1073741824) (ret (.int (i / j)))
  | .pow, .int i, .int j => chk (0 ≤ j ∧ j ≤ 1000000 ∧ i.natAbs < 2 ^ 64) (ret (.int (i ^ j.toNat)))
  | .lt, .int i, .int j => ret (.bl (decide (i < j)))
  | .le, .int i, .int j => ret (.bl (decide (i ≤ j)))
  | .gt, .int i, .int j => ret (.bl (decide (j < i)))
  | .ge, .int i, .int j => ret (.bl (decide (j ≤ i)))
  | .eq, a, b => fun h => match shD h a, shD h b with
    | some d, some e => some (.ok (.bl (PyData.eqv d e)), h)
    | _, _ => none
  | .ne, a, b => fun h => match shD h a, shD h b with
    | some d, some e => some (.ok (.bl (!PyData.eqv d e)), h)
    | _, _ => none
  | .inn, a, b => fun h => (isIn h a b).map fun t => (.ok (.bl t), h)
  | .nin, a, b => fun h => (isIn h a b).map fun t => (.ok (.bl (!t)), h)
  | .ix, .tup xs, .int i => ofO (atI xs i)
  | .ix, .str z, .int i => chk (z.length ≤ sizeLine) (bnd (ofO (atI z.cps.toList i)) fun c => ret (.str ⟨#[c]⟩))
  | .ix, .loc l, .int i => fun h => match lstAt h l with
    | some xs => ofO (atI xs i) h
    | none => none
  | .ix, .scr ns, .int i => ofO (atI (ns.map W.int) i)
  | .din, k, .loc l => fun h => (h[l]?.bind fun o => dget o k).map fun t => (.ok (.bl t.isSome), h)
  | .dnin, k, .loc l => fun h => (h[l]?.bind fun o => dget o k).map fun t => (.ok (.bl (!t.isSome)), h)
  | .dix, .loc l, k => fun h => match h[l]?.bind fun o => dget o k with
    | some (some w) => some (.ok w, h)
    | _ => none
  | _, _, _ => stuck

/-! ### sorting of texts -/
def insS (x : Str) : List Str → List Str
  | [] => [x]
  | y :: r => if PySem.Spec.ltCps y.cps.toList x.cps.toList then y :: insS x r else x :: y :: r
def sortS : List Str → List Str
  | [] => []
  | x :: r => insS x (sortS r)
def strsW : List W → Option (List Str)
  | [] => some []
  | .str s :: r => (strsW r).map fun l => s :: l
  | _ :: _ => none
def intsW : List W → Option (List Int)
  | [] => some []
  | .int i :: r => (intsW r).map fun l => i :: l
  | _ :: _ => none
def boolsW : List W → Option (List Bool)
  | [] => some []
  | .bl i :: r => (boolsW r).map fun l => i :: l
  | _ :: _ => none

def truth (w : W) : M Bool := fun h => match w with
  | .non => some (.ok false, h)
  | .bl b => some (.ok b, h)
  | .int i => some (.ok (i != 0), h)
  | .str s => if s.length ≤ sizeLine then some (.ok ((s.length : Int) != 0), h) else none
  | .tup xs => some (.ok (!xs.isEmpty), h)
  | .loc l => match h[l]? with
    | some (.lst xs) => some (.ok (!xs.isEmpty), h)
    | some (.dk kvs) => some (.ok (!kvs.isEmpty), h)
    | _ => none
  | .scr ns => some (.ok (!ns.isEmpty), h)

inductive Ty where
  | int | bool | str | tuple | list | dict | nonT
  deriving DecidableEq
def tyOf (h : Store) : W → Option Ty
  | .bl _ => some .bool
  | .int _ => some .int
  | .str _ => some .str
  | .tup _ => some .tuple
  | .loc l => match h[l]? with
    | some (.lst _) => some .list
    | _ => none
  | .scr _ => none
  | .non => some .nonT
def isTy (a b : Ty) : Bool := decide (a = b) || (decide (a = .bool) && decide (b = .int))

inductive F1 where
  | len | int | str | sum | all | any | sorted | list | tuple | isN | notN | isi (t : Ty) | neg | rev
  | dkeys
def op1 : F1 → W → M W
  | .len, .str s => chk (s.length ≤ sizeLine) (ret (.int s.length))
  | .len, .tup xs => ret (.int xs.length)
  | .len, .loc l => fun h => (lstAt h l).map fun xs => (.ok (.int xs.length), h)
  | .len, .scr ns => ret (.int ns.length)
  | .int, .int i => ret (.int i)
  | .int, .bl b => ret (.int (if b then 1 else 0))
  | .str, .int i => chk (i.natAbs.log2 < 1920) (ret (.str (toString i)))
  | .str, .str s => ret (.str s)
  | .sum, .loc l => fun h => ((lstAt h l).bind intsW).map fun ns => (.ok (.int ns.sum), h)
  | .all, .loc l => fun h => ((lstAt h l).bind boolsW).map fun ns => (.ok (.bl (ns.all id)), h)
  | .any, .loc l => fun h => ((lstAt h l).bind boolsW).map fun ns => (.ok (.bl (ns.any id)), h)
  | .sorted, .loc l => fun h => ((lstAt h l).bind strsW).bind fun ss => if ss.length < 64 then alloc (.lst ((sortS ss).map .str)) h else none
  | .list, .loc l => fun h => (lstAt h l).bind fun xs => alloc (.lst xs) h
  | .list, .tup xs => alloc (.lst xs)
  | .tuple, .tup xs => ret (.tup xs)
  | .tuple, .loc l => fun h => (lstAt h l).bind fun xs => some (.ok (.tup xs), h)
  | .isN, .non => ret (.bl true)
  | .isN, _ => ret (.bl false)
  | .notN, .non => ret (.bl false)
  | .notN, _ => ret (.bl true)
  | .isi t, w => fun h => (tyOf h w).map fun a => (.ok (.bl (isTy a t)), h)
  | .neg, .int i => ret (.int (-i))
  | .rev, .loc l => fun h => (lstAt h l).bind fun xs => alloc (.lst xs.reverse) h
  | .dkeys, .loc l => fun h => match h[l]? with
    | some (.dk kvs) => alloc (.lst (kvs.map fun p => wKey p.1)) h
    | _ => none
  | _, _ => stuck

inductive Fn where
  | max2 | min2 | append | extend | pop | dget1 | dget2
def opn : Fn → List W → M W
  | .max2, [.int i, .int j] => ret (.int (if j > i then j else i))
  | .min2, [.int i, .int j] => ret (.int (if j < i then j else i))
  | .append, [.loc l, w] => fun h => match h[l]? with
    | some (.lst xs) => if xs.length < sizeLine then some (.ok .non, h.set l (.lst (xs ++ [w]))) else none
    | _ => none
  | .extend, [.loc l, .loc k] => fun h => match h[l]?, h[k]? with
    | some (.lst xs), some (.lst ys) => if xs.length + ys.length ≤ sizeLine then some (.ok .non, h.set l (.lst (xs ++ ys))) else none
    | _, _ => none
  | .pop, [.loc l] => fun h => match h[l]? with
    | some (.lst xs) => match xs[xs.length - 1]? with
      | some y => some (.ok y, h.set l (.lst xs.dropLast))
      | none => none
    | _ => none
  | .dget1, [.loc l, k] => fun h => (h[l]?.bind fun o => dget o k).map fun t => (.ok (t.getD .non), h)
  | .dget2, [.loc l, k, d] => fun h => (h[l]?.bind fun o => dget o k).map fun t => (.ok (t.getD d), h)
  | _, _ => stuck
/-- a receiver's kind -/
inductive Kd where
  | list | dict | str
def kind : Kd → W → M Unit
  | .list, .loc l => fun h => match h[l]? with
    | some (.lst _) => some (.ok (), h)
    | _ => none
  | .dict, .loc l => fun h => match h[l]? with
    | some (.dk _) => some (.ok (), h)
    | some (.dt _) => some (.ok (), h)
    | _ => none
  | .str, .str _ => ret ()
  | _, _ => stuck

/-- what is walked -/
inductive IK where
  | sq | rg1 | rg2 | rg3 | en
def chars (s : Str) : List W := s.cps.toList.map fun c => .str ⟨#[c]⟩
/-- the items, and the list that must stand meanwhile -/
def items : IK → List W → M (List W × Option (Nat × List W))
  | .sq, [.tup xs] => ret (xs, none)
  | .sq, [.str s] => ret (chars s, none)
  | .sq, [.scr ns] => ret (ns.map .int, none)
  | .sq, [.loc l] => fun h => (lstAt h l).map fun xs => (.ok (xs, some (l, xs)), h)
  | .rg1, [.int j] => chk (-(2 ^ 62) ≤ j ∧ j < 2 ^ 62) (ret ((List.range j.toNat).map fun (k : Nat) => .int (0 + (k : Int)), none))
  | .rg2, [.int i, .int j] => chk (-(2 ^ 62) ≤ i ∧ i < 2 ^ 62 ∧ -(2 ^ 62) ≤ j ∧ j < 2 ^ 62) (ret ((List.range (j - i).toNat).map fun (k : Nat) => .int (i + (k : Int)), none))
  | .rg3, [.int i, .int j, .int c] => chk (c = -1 ∧ -(2 ^ 62) ≤ i ∧ i < 2 ^ 62 ∧ -(2 ^ 62) ≤ j ∧ j < 2 ^ 62) (ret ((List.range (i - j).toNat).map fun (k : Nat) => .int (i + (k : Int) * (-1)), none))
  | .en, [.loc l] => fun h => (lstAt h l).map fun xs => (.ok ((List.range xs.length).map fun (k : Nat) => .tup [.int (0 + (k : Int)), xs.getD k .non], some (l, xs)), h)
  | _, _ => stuck
def stands (c : Option (Nat × List W)) (h : Store) : Prop := match c with
  | none => True
  | some (l, xs) => h[l]? = some (.lst xs)

inductive T where
  | nm (i : Nat) | tp (is : List T)

inductive E where
  | v (i : Nat) | c (w : W)
  | b2 (o : B2) (a b : E) | f1 (f : F1) (a : E) | fn (f : Fn) (as : List E) | me (k : Kd) (f : Fn) (a : E) (as : List E)
  | and (a b : E) | or (a b : E) | not (a : E) | ite (t a b : E)
  | tup (as : List E) | lst (as : List E) | dnewK | dnewT
  | sl (pl pu : Bool) (a lo hi : E)
  | inG (neg : Bool) (a : E) (ws : List W)
  | call (f : Nat) (as : List E)
  | lc (own : List Nat) (t : T) (k : IK) (src : List E) (ifs : List E) (elt : E)

inductive S where
  | asg (t : T) (e : E) | stoD (d i e : E) | augI (i : Nat) (o : B2) (e : E) | ex (e : E)
  | ret (e : E) | retN
  | ite (t : E) (a b : List S) | whl (t : E) (b : List S) | whw (i : Nat) (e : E) (b : List S)
  | for_ (t : T) (k : IK) (src : List E) (b : List S)
  | brk | cnt | pass | never

def intP : W → M (Option Int)
  | .int i => ret (some i)
  | _ => stuck
def slW (w : W) (lo hi : Option Int) : M W := match w with
  | .tup xs => ret (.tup (cutW xs lo hi))
  | .str z => chk (z.length ≤ sizeLine) (ret (.str (cutS z lo hi)))
  | .loc a => fun h => (lstAt h a).bind fun xs => alloc (.lst (cutW xs lo hi)) h
  | _ => stuck

inductive Fl where
  | nx | ret (w : W) | brk | cnt

/-- a target's store -/
def setT : T → W → Env → Option Env
  | .nm i, w, ρ => some (ρ.set i (some w))
  | .tp ts, .tup ws, ρ => setTs ts ws ρ
  | .tp _, _, _ => none
where setTs : List T → List W → Env → Option Env
  | [], [], ρ => some ρ
  | t :: ts, w :: ws, ρ => (setT t w ρ).bind fun ρ => setTs ts ws ρ
  | _, _, _ => none

def wipeB (ρ : Env) : List Nat → Env
  | [] => ρ
  | v :: vs => (wipeB ρ vs).set v none

open Classical in
/-- the loop of a comprehension: the values, one behind the other -/
noncomputable def compM (c : Option (Nat × List W)) (f : W → M (Option W)) : List W → List W → M (List W)
  | [], acc => fun h => if stands c h ∧ acc.length ≤ sizeLine then some (.ok acc, h) else none
  | w :: ws, acc => fun h => if stands c h then bnd (f w) (fun r => match r with
      | some y => compM c f ws (acc ++ [y])
      | none => compM c f ws acc) h else none
open Classical in
noncomputable def forM (c : Option (Nat × List W)) (f : W → Env → M (Fl × Env)) : List W → Env → M (Fl × Env)
  | [], ρ => fun h => if stands c h then some (.ok (.nx, ρ), h) else none
  | w :: ws, ρ => fun h => if stands c h then bnd (f w ρ) (fun r => match r with
      | (.nx, ρ) => forM c f ws ρ
      | (.cnt, ρ) => forM c f ws ρ
      | (.brk, ρ) => Bi.ret (.nx, ρ)
      | (.ret v, ρ) => Bi.ret (.ret v, ρ)) h else none

/-- a while: by its number of turns -/
def whN (t : Env → M (Env × Bool)) (f : Env → M (Fl × Env)) : Nat → Env → M (Fl × Env)
  | 0, _ => stuck
  | n + 1, ρ => bnd (t ρ) fun r => if r.2 = true then bnd (f r.1) (fun r => match r with
      | (.nx, ρ) => whN t f n ρ
      | (.cnt, ρ) => whN t f n ρ
      | (.brk, ρ) => Bi.ret (.nx, ρ)
      | (.ret v, ρ) => Bi.ret (.ret v, ρ)) else Bi.ret (.nx, r.1)
open Classical in
noncomputable def whM (t : Env → M (Env × Bool)) (f : Env → M (Fl × Env)) (ρ : Env) : M (Fl × Env) := fun h =>
  if e : ∃ n, (whN t f n ρ h).isSome = true then whN t f (Classical.choose e) ρ h else none

/-- d[k] = w of a dict -/
def putD : W → W → W → M Unit
  | .loc l, k, w => fun h => (h[l]?).bind fun o => (dput o k w).map fun o' => (.ok (), h.set l o')
  | _, _, _ => stuck

section
variable (Φ : Ora)
mutual
noncomputable def ev : E → Env → M W
  | .v i, ρ => match ρ[i]? with
    | some (some w) => Bi.ret w
    | _ => stuck
  | .c w, _ => Bi.ret w
  | .b2 o a b, ρ => bnd (ev a ρ) fun x => bnd (ev b ρ) fun y => op2 o x y
  | .f1 f a, ρ => bnd (ev a ρ) fun x => op1 f x
  | .fn f as, ρ => bnd (evs as ρ) fun ws => opn f ws
  | .me k f a as, ρ => bnd (ev a ρ) fun x => bnd (kind k x) fun _ => bnd (evs as ρ) fun ws => opn f (x :: ws)
  | .and a b, ρ => bnd (ev a ρ) fun x => bnd (truth x) fun t => if t = true then ev b ρ else Bi.ret x
  | .or a b, ρ => bnd (ev a ρ) fun x => bnd (truth x) fun t => if t = true then Bi.ret x else ev b ρ
  | .not a, ρ => bnd (ev a ρ) fun x => bnd (truth x) fun t => Bi.ret (.bl (!t))
  | .ite t a b, ρ => bnd (ev t ρ) fun x => bnd (truth x) fun t => if t = true then ev a ρ else ev b ρ
  | .tup as, ρ => bnd (evs as ρ) fun ws => chk (ws.length ≤ sizeLine) (Bi.ret (.tup ws))
  | .lst as, ρ => bnd (evs as ρ) fun ws => chk (ws.length ≤ sizeLine) (alloc (.lst ws))
  | .dnewK, _ => alloc (.dk [])
  | .dnewT, _ => alloc (.dt [])
  | .sl pl pu a lo hi, ρ => bnd (ev a ρ) fun x => bnd (if pl = true then bnd (ev lo ρ) intP else Bi.ret none) fun l => bnd (if pu = true then bnd (ev hi ρ) intP else Bi.ret none) fun u => slW x l u
  | .inG neg a ws, ρ => bnd (ev a ρ) fun x => chk (flatW x = true ∧ ws.all flatW = true) (Bi.ret (.bl (if neg then !(ws.any fun y => eqF y x) else ws.any fun y => eqF y x)))
  | .call f as, ρ => bnd (evs as ρ) fun ws => Φ f ws
  | .lc own t k src ifs elt, ρ => bnd (evs src ρ) fun ws => bnd (items k ws) fun p =>
      bnd (noex (compM p.2 (fun w => match setT t w (wipeB ρ own) with
        | some ρ' => bnd (tests ifs ρ') fun b => if b = true then bnd (ev elt ρ') fun y => Bi.ret (some y) else Bi.ret none
        | none => stuck) p.1 [])) fun acc => alloc (.lst acc)
noncomputable def evs : List E → Env → M (List W)
  | [], _ => Bi.ret []
  | e :: es, ρ => bnd (ev e ρ) fun w => bnd (evs es ρ) fun ws => Bi.ret (w :: ws)
noncomputable def tests : List E → Env → M Bool
  | [], _ => Bi.ret true
  | e :: es, ρ => bnd (ev e ρ) fun x => bnd (truth x) fun t => if t = true then tests es ρ else Bi.ret false
end
mutual
noncomputable def ex : S → Env → M (Fl × Env)
  | .asg t e, ρ => bnd (ev Φ e ρ) fun w => match setT t w ρ with
    | some ρ' => Bi.ret (.nx, ρ')
    | none => stuck
  | .stoD d i e, ρ => bnd (ev Φ e ρ) fun w => bnd (ev Φ d ρ) fun x => bnd (ev Φ i ρ) fun k => bnd (putD x k w) fun _ => Bi.ret (.nx, ρ)
  | .augI i o e, ρ => match ρ[i]? with
    | some (some (.int x)) => bnd (ev Φ e ρ) fun y => bnd (op2 o (.int x) y) fun z => Bi.ret (.nx, ρ.set i (some z))
    | _ => stuck
  | .ex e, ρ => bnd (ev Φ e ρ) fun _ => Bi.ret (.nx, ρ)
  | .ret e, ρ => bnd (ev Φ e ρ) fun w => Bi.ret (.ret w, ρ)
  | .retN, ρ => Bi.ret (.ret .non, ρ)
  | .ite t a b, ρ => bnd (ev Φ t ρ) fun x => bnd (truth x) fun c => if c = true then exs a ρ else exs b ρ
  | .whl t b, ρ => whM (fun ρ => bnd (ev Φ t ρ) fun x => bnd (truth x) fun c => Bi.ret (ρ, c)) (fun ρ => exs b ρ) ρ
  | .whw i e b, ρ => whM (fun ρ => bnd (ev Φ e ρ) fun x => bnd (op1 .notN x) fun y => bnd (truth y) fun c => Bi.ret (ρ.set i (some x), c)) (fun ρ => exs b ρ) ρ
  | .for_ t k src b, ρ => bnd (evs Φ src ρ) fun ws => bnd (items k ws) fun p => forM p.2 (fun w ρ => match setT t w ρ with
    | some ρ' => exs b ρ'
    | none => stuck) p.1 ρ
  | .brk, ρ => Bi.ret (.brk, ρ)
  | .cnt, ρ => Bi.ret (.cnt, ρ)
  | .pass, ρ => Bi.ret (.nx, ρ)
  | .never, _ => stuck
noncomputable def exs : List S → Env → M (Fl × Env)
  | [], ρ => Bi.ret (.nx, ρ)
  | s :: ss, ρ => bnd (ex s ρ) fun r => match r with
    | (.nx, ρ) => exs ss ρ
    | r => Bi.ret r
end
/-- a def: its body, the number of its names -/
noncomputable def runD (body : List S) (n : Nat) (ws : List W) : M W := bnd (exs Φ body (ws.map some ++ List.replicate (n - ws.length) none)) fun r => match r.1 with
  | .nx => Bi.ret .non
  | .ret w => Bi.ret w
  | _ => stuck
end
end Bi
set_option maxHeartbeats 1000000
/-! B: soundness over the hand layer. -/
namespace Bi
open PySem L2

/-! ### values and objects -/
abbrev KLst (K : PySem.W.Frag) (a : Addr) (xs : List V) : Prop := ∃ (o : Obj) (its : Array Value) (n : Nat), K.lookup a = some o ∧ o.cls = .type "list" ∧ o.dict = none ∧ o.data = .seq its n ∧ its.size ≤ sizeLine ∧ Vals xs its.toList
mutual
inductive RW (K : PySem.W.Frag) (as : List Addr) (H : Hp) : W → V → Prop where
  | non : RW K as H .non .non
  | bl (b : Bool) : RW K as H (.bl b) (.bl b)
  | int (i : Int) : RW K as H (.int i) (.int i)
  | str (s : Str) : RW K as H (.str s) (.str s)
  | tup {a : Addr} {ws : List W} {vs : List V} : H a = some (.tup vs) → RWs K as H ws vs → RW K as H (.tup ws) (.ref a)
  | loc {n : Nat} {a : Addr} : as[n]? = some a → RW K as H (.loc n) (.ref a)
  | scr {ns : List Int} {a : Addr} : (∃ o, H a = some (.frz o (.lst (ns.map V.int)))) ∨ KLst K a (ns.map V.int) → RW K as H (.scr ns) (.ref a)
inductive RWs (K : PySem.W.Frag) (as : List Addr) (H : Hp) : List W → List V → Prop where
  | nil : RWs K as H [] []
  | cons {w : W} {v : V} {ws : List W} {vs : List V} : RW K as H w v → RWs K as H ws vs → RWs K as H (w :: ws) (v :: vs)
end
abbrev RKV {κ : Type} (K : PySem.W.Frag) (as : List Addr) (H : Hp) : List (κ × W) → List (κ × V) → Prop := Paired fun p q => p.1 = q.1 ∧ RW K as H p.2 q.2

def RO (K : PySem.W.Frag) (as : List Addr) (H : Hp) (a : Addr) : O → Prop
  | .lst ws => ∃ vs, H a = some (.lst vs) ∧ RWs K as H ws vs
  | .dk kvs => ∃ ps, H a = some (.dK ps) ∧ RKV K as H kvs ps
  | .dt kvs => ∃ ps, H a = some (.dT ps) ∧ RKV K as H kvs ps
  | .ins _ _ => False

structure Rp (K : PySem.W.Frag) (as : List Addr) (H : Hp) (h : Store) : Prop where
  len : as.length = h.length
  nd : as.Nodup
  obj : ∀ (i : Nat) (o : O) (a : Addr), h[i]? = some o → as[i]? = some a → RO K as H a o

structure Mono (as : List Addr) (H : Hp) (as' : List Addr) (H' : Hp) : Prop where
  ext : as <+: as'
  fr : ∀ a o, H a = some o → a ∉ as → H' a = some o ∧ a ∉ as'

structure RS (K : PySem.W.Frag) (as : List Addr) (H : Hp) (ρ : Env) (σ : St) : Prop where
  len : ρ.length = σ.length
  at_ : ∀ (i : Nat) (w : W), ρ[i]? = some (some w) → ∃ v, σ[i]? = some (some v) ∧ RW K as H w v

section
variable {K : PySem.W.Frag} {as as1 as2 : List Addr} {H H1 H2 : Hp} {h h1 : Store} {w : W} {v : V} {ws : List W} {vs : List V} {ρ : Env} {σ : St}

theorem Mono.refl : Mono as H as H := ⟨List.prefix_refl _, fun _ _ e n => ⟨e, n⟩⟩
theorem Mono.trans (a : Mono as H as1 H1) (b : Mono as1 H1 as2 H2) : Mono as H as2 H2 :=
  ⟨a.ext.trans b.ext, fun x o e n => by
    obtain ⟨e1, n1⟩ := a.fr x o e n
    exact b.fr x o e1 n1⟩
theorem pre_get {α : Type} {l m : List α} (p : l <+: m) {i : Nat} {x : α} (e : l[i]? = some x) : m[i]? = some x := by
  obtain ⟨t, rfl⟩ := p
  rw [List.getElem?_append_left (List.getElem?_eq_some_iff.mp e).1]
  exact e
theorem RO.notup {a : Addr} {o : O} (r : RO K as H a o) (u : HO) (hu : (∃ xs, u = .tup xs) ∨ ∃ o v, u = .frz o v) : H a ≠ some u := by
  intro q
  cases o with
  | lst ws => obtain ⟨_, e, _⟩ := r; rw [e] at q; cases q; rcases hu with ⟨_, z⟩ | ⟨_, _, z⟩ <;> cases z
  | dk ws => obtain ⟨_, e, _⟩ := r; rw [e] at q; cases q; rcases hu with ⟨_, z⟩ | ⟨_, _, z⟩ <;> cases z
  | dt ws => obtain ⟨_, e, _⟩ := r; rw [e] at q; cases q; rcases hu with ⟨_, z⟩ | ⟨_, _, z⟩ <;> cases z
  | ins _ _ => exact r.elim
theorem Rp.out (R : Rp K as H h) {a : Addr} {u : HO} (e : H a = some u) (hu : (∃ xs, u = .tup xs) ∨ ∃ o v, u = .frz o v) : a ∉ as := by
  intro hm
  obtain ⟨i, hi⟩ := List.mem_iff_getElem?.mp hm
  have hl : i < h.length := by rw [← R.len]; exact (List.getElem?_eq_some_iff.mp hi).1
  exact (R.obj i h[i] a (List.getElem?_eq_getElem hl) hi).notup u hu e
theorem Rp.tup_out (R : Rp K as H h) {a : Addr} {xs : List V} (e : H a = some (.tup xs)) : a ∉ as := R.out e (.inl ⟨_, rfl⟩)
end
mutual
theorem RW.mono {K : PySem.W.Frag} {as as1 : List Addr} {H H1 : Hp} {h : Store} (R : Rp K as H h) (m : Mono as H as1 H1) : ∀ {w : W} {v : V}, RW K as H w v → RW K as1 H1 w v
  | _, _, .non => .non
  | _, _, .bl b => .bl b
  | _, _, .int i => .int i
  | _, _, .str s => .str s
  | _, _, .tup e r => .tup (m.fr _ _ e (R.tup_out e)).1 (RWs.mono R m r)
  | _, _, .loc e => .loc (pre_get m.ext e)
  | _, _, .scr e => .scr (e.imp (fun ⟨o, q⟩ => ⟨o, (m.fr _ _ q (R.out q (.inr ⟨_, _, rfl⟩))).1⟩) id)
theorem RWs.mono {K : PySem.W.Frag} {as as1 : List Addr} {H H1 : Hp} {h : Store} (R : Rp K as H h) (m : Mono as H as1 H1) : ∀ {ws : List W} {vs : List V}, RWs K as H ws vs → RWs K as1 H1 ws vs
  | _, _, .nil => .nil
  | _, _, .cons r rs => .cons (RW.mono R m r) (RWs.mono R m rs)
end
section
variable {K : PySem.W.Frag} {as as1 as2 : List Addr} {H H1 H2 : Hp} {h h1 : Store} {w : W} {v : V} {ws : List W} {vs : List V} {ρ : Env} {σ : St}
theorem RS.mono (R : Rp K as H h) (m : Mono as H as1 H1) (r : RS K as H ρ σ) : RS K as1 H1 ρ σ := ⟨r.len, fun i w e => by
  obtain ⟨v, e1, r1⟩ := r.at_ i w e
  exact ⟨v, e1, r1.mono R m⟩⟩
theorem RS.set (r : RS K as H ρ σ) (i : Nat) (rw : RW K as H w v) : RS K as H (ρ.set i (some w)) (σ.set i (some v)) := by
  refine ⟨by rw [List.length_set, List.length_set]; exact r.len, fun j x e => ?_⟩
  by_cases hj : i = j
  · subst hj
    by_cases hl : i < ρ.length
    · rw [List.getElem?_set_self hl] at e
      cases e
      exact ⟨v, List.getElem?_set_self (by rw [← r.len]; exact hl), rw⟩
    · rw [List.getElem?_eq_none (by rw [List.length_set]; omega)] at e
      cases e
  · rw [List.getElem?_set_ne hj] at e
    obtain ⟨v', e1, r1⟩ := r.at_ j x e
    exact ⟨v', by rw [List.getElem?_set_ne hj]; exact e1, r1⟩
theorem RS.wiped (r : RS K as H ρ σ) : ∀ vs : List Nat, RS K as H (wipeB ρ vs) (L2.wipe σ vs)
  | [] => r
  | x :: vs => by
    have q := RS.wiped r vs
    refine ⟨?_, fun j w e => ?_⟩
    · show ((wipeB ρ vs).set x none).length = ((L2.wipe σ vs).set x none).length
      rw [List.length_set, List.length_set]; exact q.len
    · have e' : ((wipeB ρ vs).set x none)[j]? = some (some w) := e
      by_cases hj : x = j
      · subst hj
        by_cases hl : x < (wipeB ρ vs).length
        · rw [List.getElem?_set_self hl] at e'; cases e'
        · rw [List.getElem?_eq_none (by rw [List.length_set]; omega)] at e'; cases e'
      · rw [List.getElem?_set_ne hj] at e'
        obtain ⟨v', e1, r1⟩ := q.at_ j w e'
        refine ⟨v', ?_, r1⟩
        show ((L2.wipe σ vs).set x none)[j]? = _
        rw [List.getElem?_set_ne hj]; exact e1
theorem RWs.length : ∀ {ws : List W} {vs : List V}, RWs K as H ws vs → ws.length = vs.length
  | _, _, .nil => rfl
  | _, _, .cons _ r => by rw [List.length_cons, List.length_cons, RWs.length r]
theorem RWs.get : ∀ {ws : List W} {vs : List V} {i : Nat} {w : W}, RWs K as H ws vs → ws[i]? = some w → ∃ v, vs[i]? = some v ∧ RW K as H w v
  | _, _, _, _, .nil, e => by simp at e
  | _, _, 0, _, .cons r _, e => by simp at e; subst e; exact ⟨_, rfl, r⟩
  | _, _, i + 1, w, .cons _ t, e => by
    obtain ⟨u, h1, h2⟩ := RWs.get (i := i) (w := w) t (by simpa using e)
    exact ⟨u, by simpa using h1, h2⟩
theorem RWs.append : ∀ {ws ws' : List W} {vs vs' : List V}, RWs K as H ws vs → RWs K as H ws' vs' → RWs K as H (ws ++ ws') (vs ++ vs')
  | _, _, _, _, .nil, s => s
  | _, _, _, _, .cons r t, s => .cons r (RWs.append t s)
theorem RWs.take : ∀ {ws : List W} {vs : List V} (n : Nat), RWs K as H ws vs → RWs K as H (ws.take n) (vs.take n)
  | _, _, 0, _ => .nil
  | _, _, _ + 1, .nil => .nil
  | _, _, n + 1, .cons r t => .cons r (RWs.take n t)
theorem RWs.drop : ∀ {ws : List W} {vs : List V} (n : Nat), RWs K as H ws vs → RWs K as H (ws.drop n) (vs.drop n)
  | _, _, 0, r => r
  | _, _, _ + 1, .nil => .nil
  | _, _, n + 1, .cons _ t => RWs.drop n t
theorem RWs.rev : ∀ {ws : List W} {vs : List V}, RWs K as H ws vs → RWs K as H ws.reverse vs.reverse
  | _, _, .nil => .nil
  | _, _, .cons r t => by
    rw [List.reverse_cons, List.reverse_cons]
    exact (RWs.rev t).append (.cons r .nil)
theorem RWs.set : ∀ {ws : List W} {vs : List V} (i : Nat), RWs K as H ws vs → RW K as H w v → RWs K as H (ws.set i w) (vs.set i v)
  | _, _, _, .nil, _ => .nil
  | _, _, 0, .cons _ t, r => .cons r t
  | _, _, i + 1, .cons q t, r => .cons q (RWs.set i t r)
theorem RWs.cut (r : RWs K as H ws vs) (lo hi : Option Int) : RWs K as H (cutW ws lo hi) (cutV vs lo hi) := by
  unfold cutW cutV
  rw [r.length]
  exact (r.drop _).take _
theorem RWs.flatten_rep (r : RWs K as H ws vs) : ∀ n : Nat, RWs K as H (List.replicate n ws).flatten (List.replicate n vs).flatten
  | 0 => .nil
  | n + 1 => by
    rw [List.replicate_succ, List.replicate_succ, List.flatten_cons, List.flatten_cons]
    exact r.append (RWs.flatten_rep r n)

/-- the store behind an upd at a fresh address that is not taken up, or taken up as a new object -/
theorem Mono.new {p : Addr} {o : HO} (hp : H p = none) : Mono as H as (upd H p o) := ⟨List.prefix_refl _, fun a u e n => ⟨by rw [upd_ne (ne_of_none e hp)]; exact e, n⟩⟩
theorem Mono.alloc {p : Addr} {o : HO} (hp : H p = none) : Mono as H (as ++ [p]) (upd H p o) := ⟨List.prefix_append _ _, fun a u e n => ⟨by rw [upd_ne (ne_of_none e hp)]; exact e, by
  rw [List.mem_append, List.mem_singleton]
  rintro (z | z)
  · exact n z
  · exact ne_of_none e hp z⟩⟩
theorem Mono.at_ {a : Addr} {o : HO} (ha : a ∈ as) : Mono as H as (upd H a o) := ⟨List.prefix_refl _, fun b u e n => ⟨by
  rw [upd_ne (fun (z : b = a) => n (by rw [z]; exact ha))]; exact e, n⟩⟩

theorem SqL.upd_ne {a p : Addr} {o : HO} {xs : List V} (h : SqL K H a xs) (n : a ≠ p) : SqL K (upd H p o) a xs := by
  rcases h with (h | ⟨u, h⟩) | h
  · exact .inl (.inl (by rw [L2.upd_ne n]; exact h))
  · exact .inl (.inr ⟨u, by rw [L2.upd_ne n]; exact h⟩)
  · exact .inr h

theorem RKV.mono {κ : Type} {kvs : List (κ × W)} {ps : List (κ × V)} (R : Rp K as H h) (m : Mono as H as1 H1) (r : RKV K as H kvs ps) : RKV K as1 H1 kvs ps :=
  Paired.mapP r fun _ _ z => ⟨z.1, z.2.mono R m⟩
/-- an object that stands elsewhere is kept -/
theorem RO.keep {a p : Addr} {o : O} {u : HO} (R : Rp K as H h) (m : Mono as H as1 (upd H p u)) (n : a ≠ p) (r : RO K as H a o) : RO K as1 (upd H p u) a o := by
  cases o with
  | lst ws => obtain ⟨vs, e, q⟩ := r; exact ⟨vs, by rw [upd_ne n]; exact e, q.mono R m⟩
  | dk ws => obtain ⟨vs, e, q⟩ := r; exact ⟨vs, by rw [upd_ne n]; exact e, RKV.mono R m q⟩
  | dt ws => obtain ⟨vs, e, q⟩ := r; exact ⟨vs, by rw [upd_ne n]; exact e, RKV.mono R m q⟩
  | ins _ _ => exact r.elim
theorem Rp.some_at (R : Rp K as H h) {a : Addr} {i : Nat} {o : O} (hi : as[i]? = some a) (ho : h[i]? = some o) : ∃ u, H a = some u := by
  have r := R.obj i o a ho hi
  cases o with
  | lst ws => obtain ⟨_, e, _⟩ := r; exact ⟨_, e⟩
  | dk ws => obtain ⟨_, e, _⟩ := r; exact ⟨_, e⟩
  | dt ws => obtain ⟨_, e, _⟩ := r; exact ⟨_, e⟩
  | ins _ _ => exact r.elim
theorem Rp.mem_some (R : Rp K as H h) {a : Addr} (hm : a ∈ as) : ∃ u, H a = some u := by
  obtain ⟨i, hi⟩ := List.mem_iff_getElem?.mp hm
  have hl : i < h.length := by rw [← R.len]; exact (List.getElem?_eq_some_iff.mp hi).1
  exact R.some_at hi (List.getElem?_eq_getElem hl)
/-- an untracked new thing -/
theorem Rp.new {p : Addr} {u : HO} (R : Rp K as H h) (hp : H p = none) : Rp K as (upd H p u) h := ⟨R.len, R.nd, fun i o a ho ha => by
  obtain ⟨x, e⟩ := R.some_at ha ho
  exact (R.obj i o a ho ha).keep R (Mono.new hp) (ne_of_none e hp)⟩
/-- a new object -/
theorem Rp.alloc {p : Addr} {u : HO} {o : O} (R : Rp K as H h) (hp : H p = none) (new : RO K (as ++ [p]) (upd H p u) p o) : Rp K (as ++ [p]) (upd H p u) (h ++ [o]) := by
  refine ⟨by rw [List.length_append, List.length_append, R.len]; rfl, ?_, fun i x a hx ha => ?_⟩
  · rw [List.nodup_append]
    refine ⟨R.nd, by simp, fun a ha b hb e => ?_⟩
    rw [List.mem_singleton] at hb
    subst hb e
    obtain ⟨u, hu⟩ := R.mem_some ha
    rw [hp] at hu; cases hu
  · by_cases hl : i < h.length
    · rw [List.getElem?_append_left hl] at hx
      rw [List.getElem?_append_left (by rw [R.len]; exact hl)] at ha
      obtain ⟨z, e⟩ := R.some_at ha hx
      exact (R.obj i x a hx ha).keep R (Mono.alloc hp) (ne_of_none e hp)
    · have hi : i = h.length := by
        have := (List.getElem?_eq_some_iff.mp hx).1
        rw [List.length_append] at this
        simp at this
        omega
      subst hi
      rw [List.getElem?_append_right (Nat.le_refl _)] at hx
      rw [List.getElem?_append_right (by rw [R.len]; exact Nat.le_refl _), R.len] at ha
      simp at hx ha
      subst hx ha
      exact new
/-- an object is changed -/
theorem Rp.set {a : Addr} {l : Nat} {u : HO} {o : O} (R : Rp K as H h) (ha : as[l]? = some a) (new : RO K as (upd H a u) a o) : Rp K as (upd H a u) (h.set l o) := by
  refine ⟨by rw [List.length_set]; exact R.len, R.nd, fun i x b hx hb => ?_⟩
  by_cases hil : l = i
  · subst hil
    have hl : l < h.length := by have := (List.getElem?_eq_some_iff.mp hx).1; rwa [List.length_set] at this
    rw [List.getElem?_set_self hl] at hx
    cases hx
    rw [ha] at hb; cases hb
    exact new
  · rw [List.getElem?_set_ne hil] at hx
    refine (R.obj i x b hx hb).keep R (Mono.at_ (List.mem_of_getElem? ha)) (fun e => hil ?_)
    subst e
    exact nd_ix R.nd ha hb
theorem Rp.at_ (R : Rp K as H h) {l : Nat} {v : V} {o : O} (r : RW K as H (.loc l) v) (ho : h[l]? = some o) : ∃ a, v = .ref a ∧ as[l]? = some a ∧ RO K as H a o := by
  cases r with
  | loc e => exact ⟨_, rfl, e, R.obj _ _ _ ho e⟩
theorem RW.new_loc {p : Addr} {u : HO} (R : Rp K as H h) : RW K (as ++ [p]) (upd H p u) (.loc h.length) (.ref p) := .loc (by
  rw [← R.len, List.getElem?_append_right (Nat.le_refl _)]; simp)
end
end Bi
set_option maxHeartbeats 1000000
namespace Bi
open PySem L2

theorem bnd_inv {α β : Type} {m : M α} {f : α → M β} {h h' : Store} {r : Rs β} (e : bnd m f h = some (r, h')) :
    (∃ a h1, m h = some (.ok a, h1) ∧ f a h1 = some (r, h')) ∨ ∃ c w, m h = some (.ex c w, h') ∧ r = .ex c w := by
  unfold bnd at e
  split at e
  · exact .inl ⟨_, _, ‹_›, e⟩
  · cases e; exact .inr ⟨_, _, ‹_›, rfl⟩
  · cases e
theorem bnd_ok {α β : Type} {m : M α} {f : α → M β} {h h1 : Store} {a : α} (e : m h = some (.ok a, h1)) : bnd m f h = f a h1 := by
  unfold bnd; rw [e]
theorem ret_inv {α : Type} {a : α} {h h' : Store} {r : Rs α} (e : ret a h = some (r, h')) : r = .ok a ∧ h' = h := by
  cases e; exact ⟨rfl, rfl⟩
theorem chk_inv {α : Type} {c : Prop} [Decidable c] {m : M α} {h h' : Store} {r : Rs α} (e : chk c m h = some (r, h')) : c ∧ m h = some (r, h') := by
  unfold chk at e
  split at e
  · exact ⟨‹_›, e⟩
  · cases e

/-- what is wanted behind: of a value, of an exception -/
def Aft (K : PySem.W.Frag) (cls : Nat → Option (Addr × Str)) (Z : XK) (as : List Addr) (H : Hp) (h' : Store) (r : Rs W) (Q : VK) : Prop := match r with
  | .ok w => ∀ as' H' v, Mono as H as' H' → Rp K as' H' h' → RW K as' H' w v → Q v H'
  | .ex c w => ∀ as' H' C f d v, Mono as H as' H' → Rp K as' H' h' → cls c = some (C, f) → H' d = some (.xd [(f, v)]) → RW K as' H' w v → Z (.ref C) (some d) H'
theorem Aft.mono {K : PySem.W.Frag} {cls : Nat → Option (Addr × Str)} {Z : XK} {as as1 : List Addr} {H H1 : Hp} {h' : Store} {r : Rs W} {Q : VK} (m : Mono as H as1 H1) (a : Aft K cls Z as H h' r Q) : Aft K cls Z as1 H1 h' r Q := by
  cases r with
  | ok w => exact fun as' H' v m' R rw => a as' H' v (m.trans m') R rw
  | ex c w => exact fun as' H' C f d v m' R ec ed rw => a as' H' C f d v (m.trans m') R ec ed rw

def tE (K : PySem.W.Frag) (cls : Nat → Option (Addr × Str)) (Φ : Ora) (Z : XK) (e : E) : TE := fun σ H Q =>
  ∃ as h ρ r h', Rp K as H h ∧ RS K as H ρ σ ∧ ev Φ e ρ h = some (r, h') ∧ Aft K cls Z as H h' r Q
/-- a test -/
def AftB (K : PySem.W.Frag) (cls : Nat → Option (Addr × Str)) (Z : XK) (as : List Addr) (H : Hp) (h' : Store) (r : Rs Bool) (Q : Bool → Hp → Prop) : Prop := match r with
  | .ok b => ∀ as' H', Mono as H as' H' → Rp K as' H' h' → Q b H'
  | .ex c w => ∀ as' H' C f d v, Mono as H as' H' → Rp K as' H' h' → cls c = some (C, f) → H' d = some (.xd [(f, v)]) → RW K as' H' w v → Z (.ref C) (some d) H'
noncomputable def evT (Φ : Ora) (e : E) (ρ : Env) : M Bool := bnd (ev Φ e ρ) truth
def tT (K : PySem.W.Frag) (cls : Nat → Option (Addr × Str)) (Φ : Ora) (Z : XK) (e : E) : TT := fun σ H Q =>
  ∃ as h ρ r h', Rp K as H h ∧ RS K as H ρ σ ∧ evT Φ e ρ h = some (r, h') ∧ AftB K cls Z as H h' r Q
/-- arguments -/
def AftA (K : PySem.W.Frag) (cls : Nat → Option (Addr × Str)) (Z : XK) (as : List Addr) (H : Hp) (h' : Store) (r : Rs (List W)) (Q : List V → Hp → Prop) : Prop := match r with
  | .ok ws => ∀ as' H' vs, Mono as H as' H' → Rp K as' H' h' → RWs K as' H' ws vs → Q vs H'
  | .ex c w => ∀ as' H' C f d v, Mono as H as' H' → Rp K as' H' h' → cls c = some (C, f) → H' d = some (.xd [(f, v)]) → RW K as' H' w v → Z (.ref C) (some d) H'
theorem AftA.mono {K : PySem.W.Frag} {cls : Nat → Option (Addr × Str)} {Z : XK} {as as1 : List Addr} {H H1 : Hp} {h' : Store} {r : Rs (List W)} {Q : List V → Hp → Prop} (m : Mono as H as1 H1) (a : AftA K cls Z as H h' r Q) : AftA K cls Z as1 H1 h' r Q := by
  cases r with
  | ok w => exact fun as' H' v m' R rw => a as' H' v (m.trans m') R rw
  | ex c w => exact fun as' H' C f d v m' R ec ed rw => a as' H' C f d v (m.trans m') R ec ed rw
theorem AftB.mono {K : PySem.W.Frag} {cls : Nat → Option (Addr × Str)} {Z : XK} {as as1 : List Addr} {H H1 : Hp} {h' : Store} {r : Rs Bool} {Q : Bool → Hp → Prop} (m : Mono as H as1 H1) (a : AftB K cls Z as H h' r Q) : AftB K cls Z as1 H1 h' r Q := by
  cases r with
  | ok w => exact fun as' H' m' R => a as' H' (m.trans m') R
  | ex c w => exact fun as' H' C f d v m' R ec ed rw => a as' H' C f d v (m.trans m') R ec ed rw
def tA (K : PySem.W.Frag) (cls : Nat → Option (Addr × Str)) (Φ : Ora) (Z : XK) (es : List E) : TA := fun σ H Q =>
  ∃ as h ρ r h', Rp K as H h ∧ RS K as H ρ σ ∧ evs Φ es ρ h = some (r, h') ∧ AftA K cls Z as H h' r Q
/-- operations on values -/
def rB2 (K : PySem.W.Frag) (cls : Nat → Option (Addr × Str)) (Z : XK) (g : W → W → M W) : R2 := fun x y H Q =>
  ∃ as h a b r h', Rp K as H h ∧ RW K as H a x ∧ RW K as H b y ∧ g a b h = some (r, h') ∧ Aft K cls Z as H h' r Q
def rB1 (K : PySem.W.Frag) (cls : Nat → Option (Addr × Str)) (Z : XK) (g : W → M W) : V → Hp → VK → Prop := fun x H Q =>
  ∃ as h a r h', Rp K as H h ∧ RW K as H a x ∧ g a h = some (r, h') ∧ Aft K cls Z as H h' r Q
def rBn (K : PySem.W.Frag) (cls : Nat → Option (Addr × Str)) (Z : XK) (g : List W → M W) : List V → Hp → VK → Prop := fun xs H Q =>
  ∃ as h ws r h', Rp K as H h ∧ RWs K as H ws xs ∧ g ws h = some (r, h') ∧ Aft K cls Z as H h' r Q

theorem PE.imp {X : Cx} {e : Expr} {t t' : TE} (h : PE X e t) (hi : ∀ σ H Q, t' σ H Q → t σ H Q) : PE X e t' := ⟨fun pins s σ H Q I q => h.run pins s σ H Q I (hi σ H Q q)⟩
theorem PT.imp {X : Cx} {e : Expr} {t t' : TT} (h : PT X e t) (hi : ∀ σ H Q, t' σ H Q → t σ H Q) : PT X e t' := ⟨fun pins s σ H Q I q => h.run pins s σ H Q I (hi σ H Q q)⟩
theorem PA.imp {X : Cx} {e : List Expr} {t t' : TA} (h : PA X e t) (hi : ∀ σ H Q, t' σ H Q → t σ H Q) : PA X e t' := ⟨fun pos pins s σ H Q I q => h.run pos pins s σ H Q I (hi σ H Q q)⟩
theorem PS.imp {X : Cx} {e : Stmt} {t t' : TS} (h : PS X e t) (hi : ∀ D σ H, t' D σ H → t D σ H) : PS X e t' := ⟨fun pins s σ H D I q => h.run pins s σ H D I (hi D σ H q)⟩
theorem PSs.imp {X : Cx} {e : List Stmt} {t t' : TS} (h : PSs X e t) (hi : ∀ D σ H, t' D σ H → t D σ H) : PSs X e t' := ⟨fun pins s σ H D I q => h.run pins s σ H D I (hi D σ H q)⟩

section
variable {X : Cx} {cls : Nat → Option (Addr × Str)} {Φ : Ora} {Z : XK}

/-! ### names, constants -/
theorem tE_var {i : Nat} {σ : St} {H : Hp} {Q : VK} (h : tE X.K cls Φ Z (.v i) σ H Q) : tVar i σ H Q := by
  obtain ⟨as, h, ρ, r, h', R, S, e, A⟩ := h
  have e : (match ρ[i]? with | some (some w) => Bi.ret w | _ => stuck) h = some (r, h') := by
    unfold ev at e; exact e
  rcases hq : ρ[i]? with _ | _ | w
  · rw [hq] at e; cases e
  · rw [hq] at e; cases e
  · rw [hq] at e
    obtain ⟨rfl, rfl⟩ := ret_inv e
    obtain ⟨v, ev, rw⟩ := S.at_ i _ hq
    exact ⟨v, ev, A as _ v .refl R rw⟩
theorem s_v (i : Nat) {x : Str} {pos : Pos} (hN : X.N[i]? = some x := by rfl) (hv : Vis X.env.scope x := by first | exact Or.inl rfl | exact Or.inr (Or.inl rfl) | exact Or.inr (Or.inr rfl)) (hd : (x == ("__debug__" : Str)) = false := by decide)
    (hcd : (x == ("__classdict__" : Str)) = false := by decide) : PE X (.Name x pos) (tE X.K cls Φ Z (.v i)) := PE.imp (pe_var hN hv hd hcd) fun _ _ _ q => tE_var q
theorem tE_c {w : W} {v : V} {σ : St} {H : Hp} {Q : VK} (hw : ∀ as H, RW X.K as H w v) (h : tE X.K cls Φ Z (.c w) σ H Q) : tC v σ H Q := by
  obtain ⟨as, h, ρ, r, h', R, S, e, A⟩ := h
  unfold ev at e
  obtain ⟨rfl, rfl⟩ := ret_inv e
  exact A as H v .refl R (hw as H)
theorem s_int {i : Int} {j : Nat} {pos : Pos} : PE X (.Constant (.int i) j pos) (tE X.K cls Φ Z (.c (.int i))) := PE.imp pe_int fun _ _ _ q => tE_c (fun _ _ => .int i) q
theorem s_bl {b : Bool} {j : Nat} {pos : Pos} : PE X (.Constant (.bool b) j pos) (tE X.K cls Φ Z (.c (.bl b))) := PE.imp pe_bl fun _ _ _ q => tE_c (fun _ _ => .bl b) q
theorem s_non {j : Nat} {pos : Pos} : PE X (.Constant .none j pos) (tE X.K cls Φ Z (.c .non)) := PE.imp pe_non fun _ _ _ q => tE_c (fun _ _ => .non) q
theorem s_str {x : Str} {j : Nat} {pos : Pos} : PE X (.Constant (.str x) j pos) (tE X.K cls Φ Z (.c (.str x))) := PE.imp pe_str fun _ _ _ q => tE_c (fun _ _ => .str x) q
/-- a module's constant: an int or a text -/
theorem s_gint {x : Str} {i : Int} {u : Value} {pos : Pos} (hg : L2.Gl X x) (hm : X.mg x = some u) (r : RelV (.int i) u) (hd : (x == ("__debug__" : Str)) = false := by decide) : PE X (.Name x pos) (tE X.K cls Φ Z (.c (.int i))) :=
  PE.imp (pe_glob hg hm r hd) fun _ _ _ q => tE_c (fun _ _ => .int i) q
theorem s_gstr {x : Str} {i : Str} {u : Value} {pos : Pos} (hg : L2.Gl X x) (hm : X.mg x = some u) (r : RelV (.str i) u) (hd : (x == ("__debug__" : Str)) = false := by decide) : PE X (.Name x pos) (tE X.K cls Φ Z (.c (.str i))) :=
  PE.imp (pe_glob hg hm r hd) fun _ _ _ q => tE_c (fun _ _ => .str i) q

/-! ### arguments -/
theorem s_nil : PA X [] (tA X.K cls Φ Z []) := PA.imp pa_nil fun σ H Q q => by
  obtain ⟨as, h, ρ, r, h', R, S, e, A⟩ := q
  unfold evs at e
  obtain ⟨rfl, rfl⟩ := ret_inv e
  exact A as H [] .refl R .nil
theorem tA_cons {a : E} {bs : List E} {σ : St} {H : Hp} {Q : List V → Hp → Prop} (h : tA X.K cls Φ Z (a :: bs) σ H Q) : tCons (tE X.K cls Φ Z a) (tA X.K cls Φ Z bs) σ H Q := by
  obtain ⟨as, h, ρ, r, h', R, S, e, A⟩ := h
  unfold evs at e
  rcases bnd_inv e with ⟨w, h1, e1, e2⟩ | ⟨c, w, e1, rfl⟩
  · refine ⟨as, h, ρ, _, _, R, S, e1, fun as1 H1 v1 m1 R1 rw1 => ?_⟩
    rcases bnd_inv e2 with ⟨ws, h2, e3, e4⟩ | ⟨c, w', e3, rfl⟩
    · obtain ⟨rfl, rfl⟩ := ret_inv e4
      refine ⟨as1, h1, ρ, _, _, R1, S.mono R m1, e3, fun as2 H2 vs m2 R2 rws => ?_⟩
      exact A as2 H2 _ (m1.trans m2) R2 (.cons (rw1.mono R1 m2) rws)
    · refine ⟨as1, h1, ρ, _, _, R1, S.mono R m1, e3, ?_⟩
      exact fun as' H' C f d v m' R ec ed rw => A as' H' C f d v (m1.trans m') R ec ed rw
  · exact ⟨as, h, ρ, _, _, R, S, e1, A⟩
theorem s_cons {a : Expr} {bs : List Expr} {a' : E} {bs' : List E} (ha : PE X a (tE X.K cls Φ Z a')) (hb : PA X bs (tA X.K cls Φ Z bs')) (hs : starEach (a :: bs) X.env = (false, eval a X.env) :: starEach bs X.env := by rfl) :
    PA X (a :: bs) (tA X.K cls Φ Z (a' :: bs')) := PA.imp (pa_cons ha hb hs) fun _ _ _ q => tA_cons q

/-! ### operators -/
theorem tE_op2 {g : W → W → M W} {a b c : E} (hc : ∀ ρ, ev Φ c ρ = bnd (ev Φ a ρ) fun x => bnd (ev Φ b ρ) fun y => g x y) {σ : St} {H : Hp} {Q : VK} (h : tE X.K cls Φ Z c σ H Q) :
    tOp (rB2 X.K cls Z g) (tE X.K cls Φ Z a) (tE X.K cls Φ Z b) σ H Q := by
  obtain ⟨as, h, ρ, r, h', R, S, e, A⟩ := h
  rw [hc] at e
  rcases bnd_inv e with ⟨w, h1, e1, e2⟩ | ⟨c, w, e1, rfl⟩
  · refine ⟨as, h, ρ, _, _, R, S, e1, fun as1 H1 v1 m1 R1 rw1 => ?_⟩
    rcases bnd_inv e2 with ⟨w2, h2, e3, e4⟩ | ⟨c, w', e3, rfl⟩
    · refine ⟨as1, h1, ρ, _, _, R1, S.mono R m1, e3, fun as2 H2 v2 m2 R2 rw2 => ?_⟩
      exact ⟨as2, h2, w, w2, r, h', R2, rw1.mono R1 m2, rw2, e4, A.mono (m1.trans m2)⟩
    · exact ⟨as1, h1, ρ, _, _, R1, S.mono R m1, e3, A.mono m1⟩
  · exact ⟨as, h, ρ, _, _, R, S, e1, A⟩
theorem tE_op1 {g : W → M W} {a c : E} (hc : ∀ ρ, ev Φ c ρ = bnd (ev Φ a ρ) fun x => g x) {σ : St} {H : Hp} {Q : VK} (h : tE X.K cls Φ Z c σ H Q) :
    tUn (rB1 X.K cls Z g) (tE X.K cls Φ Z a) σ H Q := by
  obtain ⟨as, h, ρ, r, h', R, S, e, A⟩ := h
  rw [hc] at e
  rcases bnd_inv e with ⟨w, h1, e1, e2⟩ | ⟨c, w, e1, rfl⟩
  · exact ⟨as, h, ρ, _, _, R, S, e1, fun as1 H1 v1 m1 R1 rw1 => ⟨as1, h1, w, r, h', R1, rw1, e2, A.mono m1⟩⟩
  · exact ⟨as, h, ρ, _, _, R, S, e1, A⟩
theorem tE_opn {g : List W → M W} {es : List E} {c : E} (hc : ∀ ρ, ev Φ c ρ = bnd (evs Φ es ρ) fun x => g x) {σ : St} {H : Hp} {Q : VK} (h : tE X.K cls Φ Z c σ H Q) :
    tCB (rBn X.K cls Z g) (tA X.K cls Φ Z es) σ H Q := by
  obtain ⟨as, h, ρ, r, h', R, S, e, A⟩ := h
  rw [hc] at e
  rcases bnd_inv e with ⟨w, h1, e1, e2⟩ | ⟨c, w, e1, rfl⟩
  · exact ⟨as, h, ρ, _, _, R, S, e1, fun as1 H1 v1 m1 R1 rw1 => ⟨as1, h1, w, r, h', R1, rw1, e2, A.mono m1⟩⟩
  · exact ⟨as, h, ρ, _, _, R, S, e1, A⟩
/-- the call of a built-in of one argument, by op1 -/
theorem tE_call1 {f : F1} {a : E} {σ : St} {H : Hp} {Q : VK} (h : tE X.K cls Φ Z (.f1 f a) σ H Q) :
    tCB (rBn X.K cls Z fun ws => match ws with | [w] => op1 f w | _ => stuck) (tA X.K cls Φ Z [a]) σ H Q := by
  obtain ⟨as, h, ρ, r, h', R, S, e, A⟩ := h
  unfold ev at e
  rcases bnd_inv e with ⟨w, h1, e1, e2⟩ | ⟨c, w, e1, rfl⟩
  · refine ⟨as, h, ρ, .ok [w], h1, R, S, ?_, fun as1 H1 v1 m1 R1 rw1 => ⟨as1, h1, [w], r, h', R1, rw1, e2, A.mono m1⟩⟩
    unfold evs
    rw [bnd_ok e1]
    unfold evs
    rfl
  · refine ⟨as, h, ρ, .ex c w, h', R, S, ?_, A⟩
    unfold evs
    show bnd _ _ h = _
    unfold bnd
    rw [e1]
end
end Bi
set_option maxHeartbeats 1000000
namespace Bi
open PySem L2
section
variable {X : Cx} {cls : Nat → Option (Addr × Str)} {Φ : Ora} {Z : XK} {as : List Addr} {H : Hp} {h h' : Store} {Q : VK}

theorem stuck_no {α : Type} {r : Rs α} (e : stuck h = some (r, h')) : False := by cases e
/-- a value comes, the store is as it was -/
theorem Aft.val {w : W} {v : V} (A : Aft X.K cls Z as H h (.ok w) Q) (R : Rp X.K as H h) (rw : RW X.K as H w v) : Q v H := A as H v .refl R rw
theorem Aft.ret {w : W} {r : Rs W} {v : V} (e : Bi.ret w h = some (r, h')) (A : Aft X.K cls Z as H h' r Q) (R : Rp X.K as H h) (rw : RW X.K as H w v) : Q v H := by
  obtain ⟨rfl, rfl⟩ := ret_inv e
  exact A.val R rw
/-- a new list comes -/
theorem Aft.lst {ws : List W} {vs : List V} {r : Rs W} (e : alloc (.lst ws) h = some (r, h')) (A : Aft X.K cls Z as H h' r Q) (R : Rp X.K as H h) (rws : RWs X.K as H ws vs) : ∀ p, H p = none → Q (.ref p) (upd H p (.lst vs)) := by
  cases e
  intro p hp
  refine A (as ++ [p]) _ _ (Mono.alloc hp) (R.alloc hp ⟨vs, upd_same, rws.mono R (Mono.alloc hp)⟩) (RW.new_loc R)
theorem Aft.tup {ws : List W} {vs : List V} {r : Rs W} (e : Bi.ret (W.tup ws) h = some (r, h')) (A : Aft X.K cls Z as H h' r Q) (R : Rp X.K as H h) (rws : RWs X.K as H ws vs) : ∀ p, H p = none → Q (.ref p) (upd H p (.tup vs)) := by
  obtain ⟨rfl, rfl⟩ := ret_inv e
  intro p hp
  exact A as _ _ (Mono.new hp) (R.new hp) (.tup upd_same (rws.mono R (Mono.new hp)))
theorem lst_at (R : Rp X.K as H h) {l : Nat} {v : V} {ws : List W} (r : RW X.K as H (.loc l) v) (e : h[l]? = some (.lst ws)) : ∃ a vs, v = .ref a ∧ as[l]? = some a ∧ H a = some (.lst vs) ∧ RWs X.K as H ws vs := by
  obtain ⟨a, rfl, ha, vs, e1, r1⟩ := R.at_ r e
  exact ⟨a, vs, rfl, ha, e1, r1⟩
theorem lstAt_some {l : Nat} {ws : List W} (e : lstAt h l = some ws) : h[l]? = some (.lst ws) := by
  unfold lstAt at e
  split at e
  · cases e; assumption
  · cases e

theorem op_addB : OpR X (binaryOp .Add) (rB2 X.K cls Z (op2 .add)) := by
  intro pins s σ H x y v u Q I rx ry q
  obtain ⟨as, h, a, b, r, h', R, ra, rb, e, A⟩ := q
  cases a with
  | int i =>
    cases b with
    | int j =>
      cases ra; cases rb
      exact op_add pins s σ H _ _ v u Q I rx ry ⟨i, j, rfl, rfl, A.ret e R (.int _)⟩
    | _ => exact (stuck_no (h := h) e).elim
  | str i =>
    cases b with
    | str j =>
      cases ra; cases rb
      obtain ⟨c, e⟩ := chk_inv e
      exact op_add_str pins s σ H _ _ v u Q I rx ry ⟨i, j, rfl, rfl, c, A.ret e R (.str _)⟩
    | _ => exact (stuck_no (h := h) e).elim
  | tup xs =>
    cases b with
    | tup ys =>
      obtain ⟨c, e⟩ := chk_inv e
      cases ra with
      | tup ha rxs =>
        cases rb with
        | tup hb rys =>
          refine op_catA pins s σ H _ _ v u Q I rx ry ⟨_, _, _, _, rfl, rfl, SqT.of ha, SqT.of hb, by rw [← rxs.length, ← rys.length]; exact c, fun z => ?_, fun _ z => ?_, fun _ _ => A.tup e R (rxs.append rys)⟩
          · subst z
            cases rxs
            exact A.ret e R (.tup hb rys)
          · subst z
            cases rys
            rw [List.append_nil] at e
            exact A.ret e R (.tup ha rxs)
    | _ => exact (stuck_no (h := h) e).elim
  | loc l =>
    cases b with
    | loc k =>
      have e : (match h[l]?, h[k]? with
        | some (.lst xs), some (.lst ys) => chk (xs.length + ys.length ≤ sizeLine) (alloc (.lst (xs ++ ys))) h
        | _, _ => none) = some (r, h') := e
      split at e
      · rename_i xs ys h1 h2
        obtain ⟨c, e⟩ := chk_inv e
        obtain ⟨p, vs, rfl, _, hp, r1⟩ := lst_at R ra h1
        obtain ⟨q, us, rfl, _, hq, r2⟩ := lst_at R rb h2
        exact op_cat pins s σ H _ _ v u Q I rx ry ⟨p, q, vs, us, rfl, rfl, hp, hq, by rw [← r1.length, ← r2.length]; exact c, A.lst e R (r1.append r2)⟩
      · cases e
    | _ => exact (stuck_no (h := h) e).elim
  | _ => cases b <;> exact (stuck_no (h := h) e).elim

theorem op_subB : OpR X (binaryOp .Sub) (rB2 X.K cls Z (op2 .sub)) := by
  intro pins s σ H x y v u Q I rx ry q
  obtain ⟨as, h, a, b, r, h', R, ra, rb, e, A⟩ := q
  cases a with
  | int i =>
    cases b with
    | int j =>
      cases ra; cases rb
      exact op_sub pins s σ H _ _ v u Q I rx ry ⟨i, j, rfl, rfl, A.ret e R (.int _)⟩
    | _ => exact (stuck_no (h := h) e).elim
  | _ => cases b <;> exact (stuck_no (h := h) e).elim
theorem op_mulB : OpR X (binaryOp .Mult) (rB2 X.K cls Z (op2 .mul)) := by
  intro pins s σ H x y v u Q I rx ry q
  obtain ⟨as, h, a, b, r, h', R, ra, rb, e, A⟩ := q
  cases a with
  | int i =>
    cases b with
    | int j =>
      cases ra; cases rb
      obtain ⟨c, e⟩ := chk_inv e
      exact op_mul pins s σ H _ _ v u Q I rx ry ⟨i, j, rfl, rfl, c, A.ret e R (.int _)⟩
    | _ => exact (stuck_no (h := h) e).elim
  | loc l =>
    cases b with
    | int k =>
      have e : (match h[l]? with
        | some (.lst xs) => chk (-(2 ^ 63) ≤ k ∧ k < 2 ^ 63 ∧ xs.length * k.toNat ≤ sizeLine) (alloc (.lst (List.replicate k.toNat xs).flatten)) h
        | _ => none) = some (r, h') := e
      split at e
      · rename_i xs h1
        obtain ⟨⟨c1, c2, c3⟩, e⟩ := chk_inv e
        obtain ⟨p, vs, rfl, _, hp, r1⟩ := lst_at R ra h1
        cases rb
        exact op_rep pins s σ H _ _ v u Q I rx ry ⟨p, k, vs, rfl, rfl, hp, c1, c2, by rw [← r1.length]; exact c3, A.lst e R (r1.flatten_rep _)⟩
      · cases e
    | _ => exact (stuck_no (h := h) e).elim
  | _ => cases b <;> exact (stuck_no (h := h) e).elim
theorem op_modB : OpR X (binaryOp .Mod) (rB2 X.K cls Z (op2 .mod)) := by
  intro pins s σ H x y v u Q I rx ry q
  obtain ⟨as, h, a, b, r, h', R, ra, rb, e, A⟩ := q
  cases a with
  | int i =>
    cases b with
    | int j =>
      cases ra; cases rb
      obtain ⟨c, e⟩ := chk_inv e
      exact op_mod pins s σ H _ _ v u Q I rx ry ⟨i, j, rfl, rfl, c, A.ret e R (.int _)⟩
    | _ => exact (stuck_no (h := h) e).elim
  | _ => cases b <;> exact (stuck_no (h := h) e).elim
theorem op_fdivB : OpR X (binaryOp .FloorDiv) (rB2 X.K cls Z (op2 .fdiv)) := by
  intro pins s σ H x y v u Q I rx ry q
  obtain ⟨as, h, a, b, r, h', R, ra, rb, e, A⟩ := q
  cases a with
  | int i =>
    cases b with
    | int j =>
      cases ra; cases rb
      obtain ⟨c, e⟩ := chk_inv e
      exact op_fdiv pins s σ H _ _ v u Q I rx ry ⟨i, j, rfl, rfl, c, A.ret e R (.int _)⟩
    | _ => exact (stuck_no (h := h) e).elim
  | _ => cases b <;> exact (stuck_no (h := h) e).elim
theorem op_powB : OpR X (binaryOp .Pow) (rB2 X.K cls Z (op2 .pow)) := by
  intro pins s σ H x y v u Q I rx ry q
  obtain ⟨as, h, a, b, r, h', R, ra, rb, e, A⟩ := q
  cases a with
  | int i =>
    cases b with
    | int j =>
      cases ra; cases rb
      obtain ⟨c, e⟩ := chk_inv e
      exact op_pow pins s σ H _ _ v u Q I rx ry ⟨i, j, rfl, rfl, c, A.ret e R (.int _)⟩
    | _ => exact (stuck_no (h := h) e).elim
  | _ => cases b <;> exact (stuck_no (h := h) e).elim
theorem op_ltB : OpR X (compareOp .Lt) (rB2 X.K cls Z (op2 .lt)) := by
  intro pins s σ H x y v u Q I rx ry q
  obtain ⟨as, h, a, b, r, h', R, ra, rb, e, A⟩ := q
  cases a with
  | int i =>
    cases b with
    | int j =>
      cases ra; cases rb
      exact op_lt pins s σ H _ _ v u Q I rx ry ⟨i, j, rfl, rfl, A.ret e R (.bl _)⟩
    | _ => exact (stuck_no (h := h) e).elim
  | _ => cases b <;> exact (stuck_no (h := h) e).elim
theorem op_leB : OpR X (compareOp .LtE) (rB2 X.K cls Z (op2 .le)) := by
  intro pins s σ H x y v u Q I rx ry q
  obtain ⟨as, h, a, b, r, h', R, ra, rb, e, A⟩ := q
  cases a with
  | int i =>
    cases b with
    | int j =>
      cases ra; cases rb
      exact op_le pins s σ H _ _ v u Q I rx ry ⟨i, j, rfl, rfl, A.ret e R (.bl _)⟩
    | _ => exact (stuck_no (h := h) e).elim
  | _ => cases b <;> exact (stuck_no (h := h) e).elim
theorem op_gtB : OpR X (compareOp .Gt) (rB2 X.K cls Z (op2 .gt)) := by
  intro pins s σ H x y v u Q I rx ry q
  obtain ⟨as, h, a, b, r, h', R, ra, rb, e, A⟩ := q
  cases a with
  | int i =>
    cases b with
    | int j =>
      cases ra; cases rb
      exact op_gt pins s σ H _ _ v u Q I rx ry ⟨i, j, rfl, rfl, A.ret e R (.bl _)⟩
    | _ => exact (stuck_no (h := h) e).elim
  | _ => cases b <;> exact (stuck_no (h := h) e).elim
theorem op_geB : OpR X (compareOp .GtE) (rB2 X.K cls Z (op2 .ge)) := by
  intro pins s σ H x y v u Q I rx ry q
  obtain ⟨as, h, a, b, r, h', R, ra, rb, e, A⟩ := q
  cases a with
  | int i =>
    cases b with
    | int j =>
      cases ra; cases rb
      exact op_ge pins s σ H _ _ v u Q I rx ry ⟨i, j, rfl, rfl, A.ret e R (.bl _)⟩
    | _ => exact (stuck_no (h := h) e).elim
  | _ => cases b <;> exact (stuck_no (h := h) e).elim

/-! ### data -/
theorem mapM_cons_some {α β : Type} {f : α → Option β} {a : α} {l : List α} {r : List β} (e : (a :: l).mapM f = some r) : ∃ b bs, f a = some b ∧ l.mapM f = some bs ∧ r = b :: bs := by
  rw [List.mapM_cons] at e
  cases q : f a with
  | none => rw [q] at e; cases e
  | some b =>
    rw [q] at e
    cases q2 : l.mapM f with
    | none => rw [q2] at e; cases e
    | some bs => rw [q2] at e; cases e; exact ⟨b, bs, rfl, rfl, rfl⟩
theorem dp_all {f : W → Option PyData} (hf : ∀ w v d, RW X.K as H w v → f w = some d → Dp X.K H v d) : ∀ {ws : List W} {vs : List V} {ds : List PyData}, RWs X.K as H ws vs → ws.mapM f = some ds → DpAll X.K H vs ds
  | _, _, _, .nil, e => by cases e; exact .nil
  | _, _, _, .cons r t, e => by
    obtain ⟨b, bs, e1, e2, rfl⟩ := mapM_cons_some e
    exact .cons (hf _ _ _ r e1) (dp_all hf t e2)
theorem dp_of (R : Rp X.K as H h) : ∀ (n : Nat) (w : W) (v : V) (d : PyData), RW X.K as H w v → toD n h w = some d → Dp X.K H v d
  | 0, _, _, _, _, e => by cases e
  | n + 1, w, v, d, r, e => by
    cases r with
    | non => cases e; exact .non
    | bl b => cases e; exact .bl b
    | int b => cases e; exact .int b
    | str b => cases e; exact .str b
    | @tup a ws vs ha rs =>
      have e : (ws.mapM (toD n h)).map PyData.tuple = some d := e
      cases q : ws.mapM (toD n h) with
      | none => rw [q] at e; cases e
      | some ds =>
        rw [q] at e; cases e
        exact .tup (SqT.of ha) (dp_all (dp_of R n) rs q)
    | @loc l a ha =>
      have e : (match h[l]? with
        | some (.lst xs) => (xs.mapM (toD n h)).map .list
        | _ => none) = some d := e
      split at e
      · rename_i xs hl
        obtain ⟨_, vs, z, _, hp, rs⟩ := lst_at R (.loc ha) hl
        cases z
        cases q : xs.mapM (toD n h) with
        | none => rw [q] at e; cases e
        | some ds =>
          rw [q] at e; cases e
          exact .lst (SqL.of hp) (dp_all (dp_of R n) rs q)
      · cases e
    | scr _ => cases e
theorem shD_of (R : Rp X.K as H h) {w : W} {v : V} {d : PyData} (r : RW X.K as H w v) (e : shD h w = some d) : Dp X.K H v d ∧ SeqAt.shaped d = true := by
  unfold shD at e
  cases q : toD 70 h w with
  | none => rw [q] at e; cases e
  | some d' =>
    rw [q] at e
    have e : (if SeqAt.shaped d' = true then some d' else none) = some d := e
    split at e
    · cases e; exact ⟨dp_of R 70 w v _ r q, ‹_›⟩
    · cases e
theorem op_eqB (hu : X.A.units + 64 < cLine) : OpR X (compareOp .Eq) (rB2 X.K cls Z (op2 .eq)) := by
  intro pins s σ H x y v u Q I rx ry q
  obtain ⟨as, h, a, b, r, h', R, ra, rb, e, A⟩ := q
  have e : (match shD h a, shD h b with
    | some d, some e => some (Rs.ok (W.bl (PyData.eqv d e)), h)
    | _, _ => none) = some (r, h') := by unfold op2 at e; exact e
  split at e
  · rename_i d d' h1 h2
    cases e
    obtain ⟨p1, p2⟩ := shD_of R ra h1
    obtain ⟨p3, p4⟩ := shD_of R rb h2
    exact op_eqD hu pins s σ H x y v u Q I rx ry ⟨d, d', p1, p3, p2, p4, A.val R (.bl _)⟩
  · cases e
theorem op_neB (hu : X.A.units + 64 < cLine) : OpR X (compareOp .NotEq) (rB2 X.K cls Z (op2 .ne)) := by
  intro pins s σ H x y v u Q I rx ry q
  obtain ⟨as, h, a, b, r, h', R, ra, rb, e, A⟩ := q
  have e : (match shD h a, shD h b with
    | some d, some e => some (Rs.ok (W.bl (!PyData.eqv d e)), h)
    | _, _ => none) = some (r, h') := by unfold op2 at e; exact e
  split at e
  · rename_i d d' h1 h2
    cases e
    obtain ⟨p1, p2⟩ := shD_of R ra h1
    obtain ⟨p3, p4⟩ := shD_of R rb h2
    exact op_neD hu pins s σ H x y v u Q I rx ry ⟨d, d', p1, p3, p2, p4, A.val R (.bl _)⟩
  · cases e
end
end Bi
set_option maxHeartbeats 1000000
namespace Bi
open PySem L2
section
variable {X : Cx} {cls : Nat → Option (Addr × Str)} {Φ : Ora} {Z : XK} {as : List Addr} {H : Hp} {h h' : Store} {Q : VK}

/-! ### in -/
theorem flat_rel {w : W} {v : V} (r : RW X.K as H w v) (f : flatW w = true) : flatV v = true := by
  cases r <;> first | rfl | cases f
theorem flat_all : ∀ {ws : List W} {vs : List V}, RWs X.K as H ws vs → ws.all flatW = true → vs.all flatV = true
  | _, _, .nil, _ => rfl
  | _, _, .cons r t, f => by
    rw [List.all_cons, Bool.and_eq_true] at f ⊢
    exact ⟨flat_rel r f.1, flat_all t f.2⟩
theorem eqF_rel {a b : W} {x y : V} (ra : RW X.K as H a x) (rb : RW X.K as H b y) (fa : flatW a = true) (fb : flatW b = true) : eqF a b = eqV x y := by
  cases ra <;> cases rb <;> first | rfl | cases fa | cases fb
theorem inF_rel {b : W} {y : V} (rb : RW X.K as H b y) (fb : flatW b = true) : ∀ {ws : List W} {vs : List V}, RWs X.K as H ws vs → ws.all flatW = true → (ws.any fun z => eqF z b) = inV y vs
  | _, _, .nil, _ => rfl
  | _, _, .cons r t, f => by
    rw [List.all_cons, Bool.and_eq_true] at f
    unfold inV
    rw [List.any_cons, List.any_cons, eqF_rel r rb f.1 fb, inF_rel rb fb t f.2]
    rfl
theorem sign_of {s : Str} {c : Nat} (e : s.cps.toList = [c]) : s = ⟨#[c]⟩ := by
  obtain ⟨cps⟩ := s
  have e : cps.toList = [c] := e
  have : cps = #[c] := by rw [show cps = cps.toList.toArray from (Array.toArray_toList).symm, e]
  rw [this]
theorem op_inB (hu : X.A.units + 65 < cLine) : OpR X (compareOp .In) (rB2 X.K cls Z (op2 .inn)) := by
  intro pins s σ H x y v u Q I rx ry q
  obtain ⟨as, h, a, b, r, h', R, ra, rb, e, A⟩ := q
  have e : (isIn h a b).map (fun t => (Rs.ok (W.bl t), h)) = some (r, h') := by unfold op2 at e; exact e
  obtain ⟨t, et, e⟩ := Option.map_eq_some_iff.mp e
  cases e
  unfold isIn at et
  split at et
  · split at et
    · split at et
      · cases et
        cases ra; cases rb
        rename_i c hs _
        exact op_in_sign pins _ σ H _ _ v u Q I rx ry ⟨c, _, by rw [sign_of hs], rfl, A.val R (.bl _)⟩
      · cases et
    · cases et
  · split at et
    · rename_i c
      cases et
      cases rb with
      | tup ha rs => exact op_in_seq pins s σ H _ _ v u Q I rx ry ⟨_, _, rfl, .inr (SqT.of ha), flat_rel ra c.1, flat_all rs c.2, by
          show Q (.bl (inV x _)) H
          rw [← inF_rel ra c.1 rs c.2]; exact A.val R (.bl _)⟩
    · cases et
  · split at et
    · rename_i ds hd
      obtain ⟨d, ed, et⟩ := Option.map_eq_some_iff.mp et
      subst et
      obtain ⟨p1, p2⟩ := shD_of R rb hd
      obtain ⟨p3, p4⟩ := shD_of R ra ed
      exact op_inD hu pins s σ H x y v u Q I rx ry ⟨d, ds, p3, p1, p4, p2, A.val R (.bl _)⟩
    · cases et
  · cases et
theorem op_ninB (hu : X.A.units + 65 < cLine) : OpR X (compareOp .NotIn) (rB2 X.K cls Z (op2 .nin)) := by
  intro pins s σ H x y v u Q I rx ry q
  obtain ⟨as, h, a, b, r, h', R, ra, rb, e, A⟩ := q
  have e : (isIn h a b).map (fun t => (Rs.ok (W.bl (!t)), h)) = some (r, h') := by unfold op2 at e; exact e
  obtain ⟨t, et, e⟩ := Option.map_eq_some_iff.mp e
  cases e
  unfold isIn at et
  split at et
  · split at et
    · split at et
      · cases et
        cases ra; cases rb
        rename_i c hs _
        exact op_notIn_sign pins _ σ H _ _ v u Q I rx ry ⟨c, _, by rw [sign_of hs], rfl, A.val R (.bl _)⟩
      · cases et
    · cases et
  · split at et
    · rename_i c
      cases et
      cases rb with
      | tup ha rs => exact op_notIn_seq pins s σ H _ _ v u Q I rx ry ⟨_, _, rfl, .inr (SqT.of ha), flat_rel ra c.1, flat_all rs c.2, by
          show Q (.bl (!inV x _)) H
          rw [← inF_rel ra c.1 rs c.2]; exact A.val R (.bl _)⟩
    · cases et
  · split at et
    · rename_i ds hd
      obtain ⟨d, ed, et⟩ := Option.map_eq_some_iff.mp et
      subst et
      obtain ⟨p1, p2⟩ := shD_of R rb hd
      obtain ⟨p3, p4⟩ := shD_of R ra ed
      exact op_notInD hu pins s σ H x y v u Q I rx ry ⟨d, ds, p3, p1, p4, p2, A.val R (.bl _)⟩
    · cases et
  · cases et

/-! ### items -/
theorem atI_map {α β : Type} (f : α → β) (xs : List α) (i : Int) : atI (xs.map f) i = (atI xs i).map f := by
  unfold atI
  rw [List.length_map]
  cases ixN xs.length i with
  | none => rfl
  | some j => show (xs.map f)[j]? = _; rw [List.getElem?_map]; rfl
theorem atI_rel {ws : List W} {vs : List V} {i : Int} {w : W} (r : RWs X.K as H ws vs) (e : atI ws i = some w) : ∃ v, atI vs i = some v ∧ RW X.K as H w v := by
  unfold atI at e ⊢
  rw [← r.length]
  cases q : ixN ws.length i with
  | none => rw [q] at e; cases e
  | some j => rw [q] at e; exact r.get e
theorem ofO_inv {α : Type} {o : Option α} {r : Rs α} (e : ofO o h = some (r, h')) : ∃ a, o = some a ∧ r = .ok a ∧ h' = h := by
  cases o with
  | none => cases e
  | some a => obtain ⟨rfl, rfl⟩ := ret_inv e; exact ⟨a, rfl, rfl, rfl⟩
theorem scr_sq {ns : List Int} {a : Addr} (r : RW X.K as H (.scr ns) (.ref a)) : SqL X.K H a (ns.map V.int) := by
  cases r with
  | scr e =>
    rcases e with ⟨o, e⟩ | e
    · exact .inl (.inr ⟨o, e⟩)
    · exact .inr e
theorem ints_rel : ∀ ns : List Int, RWs X.K as H (ns.map W.int) (ns.map V.int)
  | [] => .nil
  | i :: r => .cons (.int i) (ints_rel r)
theorem ix_B : IxR X (rB2 X.K cls Z (op2 .ix)) := by
  intro val sl pins s σ H x y v u Q I rx ry q hs
  obtain ⟨as, h, a, b, r, h', R, ra, rb, e, A⟩ := q
  cases a with
  | tup xs =>
    cases b with
    | int i =>
      obtain ⟨w, e1, rfl, rfl⟩ := ofO_inv (show ofO (atI xs i) h = some (r, h') from e)
      cases ra with
      | tup ha rs =>
        cases rb
        obtain ⟨z, e2, rz⟩ := atI_rel rs e1
        exact ix_tup val sl pins s σ H _ _ v u Q I rx ry ⟨_, _, i, z, rfl, rfl, SqT.of ha, e2, A.val R rz⟩ hs
    | _ => exact (stuck_no (h := h) e).elim
  | str z =>
    cases b with
    | int i =>
      obtain ⟨c, e⟩ := chk_inv (show chk (z.length ≤ sizeLine) (bnd (ofO (atI z.cps.toList i)) fun c => Bi.ret (.str ⟨#[c]⟩)) h = some (r, h') from e)
      rcases bnd_inv e with ⟨w, h1, e1, e2⟩ | ⟨c, w, e1, rfl⟩
      · obtain ⟨w', e3, e4, rfl⟩ := ofO_inv e1
        cases e4
        obtain ⟨rfl, rfl⟩ := ret_inv e2
        cases ra; cases rb
        exact ix_str val sl pins s σ H _ _ v u Q I rx ry ⟨z, i, _, rfl, rfl, c, e3, A.val R (.str _)⟩ hs
      · obtain ⟨w', e3, e4, _⟩ := ofO_inv e1
        cases e4
    | _ => exact (stuck_no (h := h) e).elim
  | loc l =>
    cases b with
    | int i =>
      have e : (match lstAt h l with | some xs => ofO (atI xs i) h | none => none) = some (r, h') := e
      cases hl : lstAt h l with
      | none => rw [hl] at e; cases e
      | some xs =>
        rw [hl] at e
        obtain ⟨w, e1, rfl, rfl⟩ := ofO_inv (show ofO (atI xs i) h = some (r, h') from e)
        obtain ⟨p, vs, rfl, _, hp, rs⟩ := lst_at R ra (lstAt_some hl)
        cases rb
        obtain ⟨z, e2, rz⟩ := atI_rel rs e1
        exact ix_list val sl pins s σ H _ _ v u Q I rx ry ⟨_, _, i, z, rfl, rfl, SqL.of hp, e2, A.val R rz⟩ hs
    | _ => exact (stuck_no (h := h) e).elim
  | scr ns =>
    cases b with
    | int i =>
      obtain ⟨w, e1, rfl, rfl⟩ := ofO_inv (show ofO (atI (ns.map W.int) i) h = some (r, h') from e)
      cases rb
      obtain ⟨z, e2, rz⟩ := atI_rel (ints_rel (X := X) (as := as) (H := H) ns) e1
      cases ra with
      | scr q => exact ix_list val sl pins s σ H _ _ v u Q I rx ry ⟨_, _, i, z, rfl, rfl, scr_sq (as := as) (.scr q), e2, A.val R rz⟩ hs
    | _ => exact (stuck_no (h := h) e).elim
  | _ => cases b <;> exact (stuck_no (h := h) e).elim

/-! ### slices -/
def rSlB' (K : PySem.W.Frag) (cls : Nat → Option (Addr × Str)) (Z : XK) : V → Option Int → Option Int → Hp → VK → Prop := fun x lo hi H Q =>
  ∃ as h a r h', Rp K as H h ∧ RW K as H a x ∧ slW a lo hi h = some (r, h') ∧ Aft K cls Z as H h' r Q
theorem sl_B : SlR X (rSlB' X.K cls Z) := by
  intro pins s σ H x v vl vu lo hi sl Q I rx hs pl pu q
  obtain ⟨as, h, a, r, h', R, ra, e, A⟩ := q
  cases a with
  | tup xs =>
    cases ra with
    | @tup a ws vs ha rs =>
      refine sl_tupA pins s σ H _ v vl vu lo hi sl Q I rx hs pl pu ⟨_, _, rfl, SqT.of ha, fun z => ?_, fun _ => A.tup e R (rs.cut lo hi)⟩
      have e3 : cutW xs lo hi = xs := by
        unfold cutW
        rw [rs.length, z.1, z.2, List.drop_zero, ← rs.length, Nat.sub_zero, List.take_length]
      have e : Bi.ret (W.tup (cutW xs lo hi)) h = some (r, h') := e
      rw [e3] at e
      exact A.ret e R (.tup ha rs)
  | str z =>
    obtain ⟨c, e⟩ := chk_inv (show chk (z.length ≤ sizeLine) (Bi.ret (.str (cutS z lo hi))) h = some (r, h') from e)
    cases ra
    exact sl_str pins s σ H _ v vl vu lo hi sl Q I rx hs pl pu ⟨z, rfl, c, A.ret e R (.str _)⟩
  | loc k =>
    have e : ((lstAt h k).bind fun xs => alloc (.lst (cutW xs lo hi)) h) = some (r, h') := e
    obtain ⟨xs, hl, e⟩ := Option.bind_eq_some_iff.mp e
    obtain ⟨p, vs, rfl, _, hp, rs⟩ := lst_at R ra (lstAt_some hl)
    exact sl_list pins s σ H _ v vl vu lo hi sl Q I rx hs pl pu ⟨p, vs, rfl, SqL.of hp, A.lst e R (rs.cut lo hi)⟩
  | _ => exact (stuck_no (h := h) e).elim

/-- a part of a slice -/
def tP (K : PySem.W.Frag) (cls : Nat → Option (Addr × Str)) (Φ : Ora) (Z : XK) (p : Bool) (e : Bi.E) : TO := fun σ H Q =>
  ∃ as h ρ r h', Rp K as H h ∧ RS K as H ρ σ ∧ (if p = true then bnd (ev Φ e ρ) intP else Bi.ret none) h = some (r, h') ∧ (match r with
    | .ok o => ∀ as' H', Mono as H as' H' → Rp K as' H' h' → Q o H'
    | .ex c w => ∀ as' H' C f d v, Mono as H as' H' → Rp K as' H' h' → cls c = some (C, f) → H' d = some (.xd [(f, v)]) → RW K as' H' w v → Z (.ref C) (some d) H')
theorem s_pNone {e' : Bi.E} : PO X none (tP X.K cls Φ Z false e') := ⟨fun pins s σ H Q I q => by
  obtain ⟨as, h, ρ, r, h', R, S, e, A⟩ := q
  rw [if_neg (by decide)] at e
  obtain ⟨rfl, rfl⟩ := ret_inv e
  exact po_none.run pins s σ H Q I (A as H .refl R)⟩
theorem s_pSome {e : Expr} {e' : Bi.E} (he : PE X e (tE X.K cls Φ Z e')) : PO X (some e) (tP X.K cls Φ Z true e') := ⟨fun pins s σ H Q I q => by
  obtain ⟨as, h, ρ, r, h', R, S, e, A⟩ := q
  rw [if_pos rfl] at e
  rcases bnd_inv e with ⟨w, h1, e1, e2⟩ | ⟨c, w, e1, rfl⟩
  · refine (po_some he).run pins s σ H Q I ⟨as, h, ρ, _, _, R, S, e1, fun as' H' v m R' rw => ?_⟩
    cases w with
    | int i =>
      obtain ⟨rfl, rfl⟩ := ret_inv (show Bi.ret (some i) h1 = some (r, h') from e2)
      cases rw
      exact ⟨i, rfl, A as' H' m R'⟩
    | _ => exact (stuck_no (h := h1) e2).elim
  · exact (po_some he).run pins s σ H Q I ⟨as, h, ρ, _, _, R, S, e1, A⟩⟩
theorem s_sl {a : Expr} {lo hi : Option Expr} {pl pu : Bool} {a' lo' hi' : Bi.E} {p2 pos : Pos} (ha : PE X a (tE X.K cls Φ Z a')) (hl : PO X lo (tP X.K cls Φ Z pl lo')) (hu : PO X hi (tP X.K cls Φ Z pu hi')) :
    PE X (.Subscript a (.Slice lo hi none p2) pos) (tE X.K cls Φ Z (.sl pl pu a' lo' hi')) := PE.imp (pe_slice sl_B ha hl hu) fun σ H Q q => by
  obtain ⟨as, h, ρ, r, h', R, S, e, A⟩ := q
  unfold ev at e
  rcases bnd_inv e with ⟨w, h1, e1, e2⟩ | ⟨c, w, e1, rfl⟩
  · refine ⟨as, h, ρ, _, _, R, S, e1, fun as1 H1 v1 m1 R1 rw1 => ?_⟩
    rcases bnd_inv e2 with ⟨l, h2, e3, e4⟩ | ⟨c, w, e3, rfl⟩
    · refine ⟨as1, h1, ρ, _, _, R1, S.mono R m1, e3, fun as2 H2 m2 R2 => ?_⟩
      rcases bnd_inv e4 with ⟨u, h3, e5, e6⟩ | ⟨c, w, e5, rfl⟩
      · refine ⟨as2, h2, ρ, _, _, R2, S.mono R (m1.trans m2), e5, fun as3 H3 m3 R3 => ?_⟩
        exact ⟨as3, h3, w, r, h', R3, rw1.mono R1 (m2.trans m3), e6, A.mono (m1.trans (m2.trans m3))⟩
      · exact ⟨as2, h2, ρ, _, _, R2, S.mono R (m1.trans m2), e5, A.mono (m1.trans m2)⟩
    · exact ⟨as1, h1, ρ, _, _, R1, S.mono R m1, e3, A.mono m1⟩
  · exact ⟨as, h, ρ, _, _, R, S, e1, A⟩
end
end Bi
set_option maxHeartbeats 1000000
namespace Bi
open PySem L2
section
variable {X : Cx} {cls : Nat → Option (Addr × Str)} {Φ : Ora} {Z : XK} {as : List Addr} {H : Hp} {h h' : Store} {Q : VK}
variable {a b e t : Expr} {a' b' e' t' : Bi.E} {es : List Expr} {es' : List Bi.E} {pos p2 : Pos}

/-! ### arithmetic, comparisons -/
theorem s_add (ha : PE X a (tE X.K cls Φ Z a')) (hb : PE X b (tE X.K cls Φ Z b')) : PE X (.BinOp a .Add b pos) (tE X.K cls Φ Z (.b2 .add a' b')) := PE.imp (pe_op op_addB ha hb) fun _ _ _ q => tE_op2 (fun _ => by rw [ev]) q
theorem s_sub (ha : PE X a (tE X.K cls Φ Z a')) (hb : PE X b (tE X.K cls Φ Z b')) : PE X (.BinOp a .Sub b pos) (tE X.K cls Φ Z (.b2 .sub a' b')) := PE.imp (pe_op op_subB ha hb) fun _ _ _ q => tE_op2 (fun _ => by rw [ev]) q
theorem s_mul (ha : PE X a (tE X.K cls Φ Z a')) (hb : PE X b (tE X.K cls Φ Z b')) : PE X (.BinOp a .Mult b pos) (tE X.K cls Φ Z (.b2 .mul a' b')) := PE.imp (pe_op op_mulB ha hb) fun _ _ _ q => tE_op2 (fun _ => by rw [ev]) q
theorem s_mod (ha : PE X a (tE X.K cls Φ Z a')) (hb : PE X b (tE X.K cls Φ Z b')) : PE X (.BinOp a .Mod b pos) (tE X.K cls Φ Z (.b2 .mod a' b')) := PE.imp (pe_op op_modB ha hb) fun _ _ _ q => tE_op2 (fun _ => by rw [ev]) q
theorem s_fdiv (ha : PE X a (tE X.K cls Φ Z a')) (hb : PE X b (tE X.K cls Φ Z b')) : PE X (.BinOp a .FloorDiv b pos) (tE X.K cls Φ Z (.b2 .fdiv a' b')) := PE.imp (pe_op op_fdivB ha hb) fun _ _ _ q => tE_op2 (fun _ => by rw [ev]) q
theorem s_pow (ha : PE X a (tE X.K cls Φ Z a')) (hb : PE X b (tE X.K cls Φ Z b')) : PE X (.BinOp a .Pow b pos) (tE X.K cls Φ Z (.b2 .pow a' b')) := PE.imp (pe_op op_powB ha hb) fun _ _ _ q => tE_op2 (fun _ => by rw [ev]) q
theorem s_lt (ha : PE X a (tE X.K cls Φ Z a')) (hb : PE X b (tE X.K cls Φ Z b')) : PE X (.Compare a [.Lt] [b] pos) (tE X.K cls Φ Z (.b2 .lt a' b')) := PE.imp (pe_cmpR op_ltB ha hb (nomark _)) fun _ _ _ q => tE_op2 (fun _ => by rw [ev]) q
theorem s_le (ha : PE X a (tE X.K cls Φ Z a')) (hb : PE X b (tE X.K cls Φ Z b')) : PE X (.Compare a [.LtE] [b] pos) (tE X.K cls Φ Z (.b2 .le a' b')) := PE.imp (pe_cmpR op_leB ha hb (nomark _)) fun _ _ _ q => tE_op2 (fun _ => by rw [ev]) q
theorem s_gt (ha : PE X a (tE X.K cls Φ Z a')) (hb : PE X b (tE X.K cls Φ Z b')) : PE X (.Compare a [.Gt] [b] pos) (tE X.K cls Φ Z (.b2 .gt a' b')) := PE.imp (pe_cmpR op_gtB ha hb (nomark _)) fun _ _ _ q => tE_op2 (fun _ => by rw [ev]) q
theorem s_ge (ha : PE X a (tE X.K cls Φ Z a')) (hb : PE X b (tE X.K cls Φ Z b')) : PE X (.Compare a [.GtE] [b] pos) (tE X.K cls Φ Z (.b2 .ge a' b')) := PE.imp (pe_cmpR op_geB ha hb (nomark _)) fun _ _ _ q => tE_op2 (fun _ => by rw [ev]) q
theorem s_eq (hu : X.A.units + 65 < cLine) (ha : PE X a (tE X.K cls Φ Z a')) (hb : PE X b (tE X.K cls Φ Z b')) : PE X (.Compare a [.Eq] [b] pos) (tE X.K cls Φ Z (.b2 .eq a' b')) := PE.imp (pe_cmpR (op_eqB (by omega)) ha hb (nomark _)) fun _ _ _ q => tE_op2 (fun _ => by rw [ev]) q
theorem s_ne (hu : X.A.units + 65 < cLine) (ha : PE X a (tE X.K cls Φ Z a')) (hb : PE X b (tE X.K cls Φ Z b')) : PE X (.Compare a [.NotEq] [b] pos) (tE X.K cls Φ Z (.b2 .ne a' b')) := PE.imp (pe_cmpR (op_neB (by omega)) ha hb (nomark _)) fun _ _ _ q => tE_op2 (fun _ => by rw [ev]) q
theorem s_in (hu : X.A.units + 65 < cLine) (ha : PE X a (tE X.K cls Φ Z a')) (hb : PE X b (tE X.K cls Φ Z b')) (hm : behindInMarks .In b = false := by rfl) : PE X (.Compare a [.In] [b] pos) (tE X.K cls Φ Z (.b2 .inn a' b')) := PE.imp (pe_cmpR (op_inB hu) ha hb hm) fun _ _ _ q => tE_op2 (fun _ => by rw [ev]) q
theorem s_nin (hu : X.A.units + 65 < cLine) (ha : PE X a (tE X.K cls Φ Z a')) (hb : PE X b (tE X.K cls Φ Z b')) (hm : behindInMarks .NotIn b = false := by rfl) : PE X (.Compare a [.NotIn] [b] pos) (tE X.K cls Φ Z (.b2 .nin a' b')) := PE.imp (pe_cmpR (op_ninB hu) ha hb hm) fun _ _ _ q => tE_op2 (fun _ => by rw [ev]) q
theorem s_ix (ha : PE X a (tE X.K cls Φ Z a')) (hb : PE X b (tE X.K cls Φ Z b')) (hs : PlainIx b := by exact fun _ _ => rfl) : PE X (.Subscript a b pos) (tE X.K cls Φ Z (.b2 .ix a' b')) := PE.imp (pe_ix ix_B ha hb hs) fun _ _ _ q => tE_op2 (fun _ => by rw [ev]) q

/-! ### None -/
theorem isN_rel {w : W} {v : V} (r : RW X.K as H w v) : op1 .isN w h = some (.ok (.bl (decide (v = .non))), h) := by
  cases r <;> rfl
theorem notN_rel {w : W} {v : V} (r : RW X.K as H w v) : op1 .notN w h = some (.ok (.bl (!decide (v = .non))), h) := by
  cases r <;> rfl
theorem s_isN {k : Nat} (ha : PE X a (tE X.K cls Φ Z a')) : PE X (.Compare a [.Is] [.Constant .none k p2] pos) (tE X.K cls Φ Z (.f1 .isN a')) := PE.imp (pe_cmpR op_isN ha pe_non (nomark _)) fun σ H Q q => by
  obtain ⟨as, h, ρ, r, h', R, S, e, A⟩ := q
  rw [ev] at e
  rcases bnd_inv e with ⟨w, h1, e1, e2⟩ | ⟨c, w, e1, rfl⟩
  · refine ⟨as, h, ρ, _, _, R, S, e1, fun as1 H1 v1 m1 R1 rw1 => ⟨rfl, ?_⟩⟩
    rw [isN_rel rw1] at e2
    cases e2
    exact A _ _ _ m1 R1 (.bl _)
  · exact ⟨as, h, ρ, _, _, R, S, e1, A⟩
theorem s_notN {k : Nat} (ha : PE X a (tE X.K cls Φ Z a')) : PE X (.Compare a [.IsNot] [.Constant .none k p2] pos) (tE X.K cls Φ Z (.f1 .notN a')) := PE.imp (pe_cmpR op_notN ha pe_non (nomark _)) fun σ H Q q => by
  obtain ⟨as, h, ρ, r, h', R, S, e, A⟩ := q
  rw [ev] at e
  rcases bnd_inv e with ⟨w, h1, e1, e2⟩ | ⟨c, w, e1, rfl⟩
  · refine ⟨as, h, ρ, _, _, R, S, e1, fun as1 H1 v1 m1 R1 rw1 => ⟨rfl, ?_⟩⟩
    rw [notN_rel rw1] at e2
    cases e2
    exact A _ _ _ m1 R1 (.bl _)
  · exact ⟨as, h, ρ, _, _, R, S, e1, A⟩

/-! ### truth -/
theorem truth_rel {w : W} {v : V} {r : Rs Bool} (R : Rp X.K as H h) (rw : RW X.K as H w v) (e : truth w h = some (r, h')) : ∃ k, r = .ok k ∧ h' = h ∧ TruV X.K v H k := by
  cases rw with
  | non => cases e; exact ⟨_, rfl, rfl, rfl⟩
  | bl b => cases e; exact ⟨_, rfl, rfl, rfl⟩
  | int i => cases e; exact ⟨_, rfl, rfl, rfl⟩
  | str s =>
    have e : (if s.length ≤ sizeLine then some (Rs.ok ((s.length : Int) != 0), h) else none) = some (r, h') := e
    split at e
    · cases e; exact ⟨_, rfl, rfl, ‹_›, rfl⟩
    · cases e
  | tup ha rs =>
    cases e
    refine ⟨_, rfl, rfl, .inr (.inl ⟨_, SqT.of ha, ?_⟩)⟩
    cases rs <;> rfl
  | @loc l a ha =>
    have e : (match h[l]? with
      | some (.lst xs) => some (Rs.ok (!xs.isEmpty), h)
      | some (.dk kvs) => some (Rs.ok (!kvs.isEmpty), h)
      | _ => none) = some (r, h') := e
    split at e
    · rename_i xs hl
      cases e
      obtain ⟨_, vs, z, _, hp, rs⟩ := lst_at R (.loc ha) hl
      cases z
      refine ⟨_, rfl, rfl, .inl ⟨_, SqL.of hp, ?_⟩⟩
      cases rs <;> rfl
    · rename_i kvs hl
      cases e
      obtain ⟨_, z, _, ps, hp, rs⟩ := R.at_ (.loc ha) hl
      cases z
      refine ⟨_, rfl, rfl, .inr (.inr ⟨_, hp, ?_⟩)⟩
      cases rs <;> rfl
    · cases e
  | @scr ns a q =>
    cases e
    refine ⟨_, rfl, rfl, .inl ⟨_, scr_sq (as := as) (.scr q), ?_⟩⟩
    cases ns <;> rfl
theorem st_of (he : PE X e (tE X.K cls Φ Z e')) (hp : ∀ whole, isTrue e X.env whole = (do let v ← whole; standAt e.pos; holding [v] (truthy v)) := by intro _; rfl) : PT X e (tT X.K cls Φ Z e') := PT.imp (pt_truth he hp) fun σ H Q q => by
  obtain ⟨as, h, ρ, r, h', R, S, e, A⟩ := q
  unfold evT at e
  rcases bnd_inv e with ⟨w, h1, e1, e2⟩ | ⟨c, w, e1, rfl⟩
  · refine ⟨as, h, ρ, _, _, R, S, e1, fun as1 H1 v1 m1 R1 rw1 => ?_⟩
    obtain ⟨k, rfl, rfl, tv⟩ := truth_rel R1 rw1 e2
    exact ⟨k, tv, A _ _ m1 R1⟩
  · exact ⟨as, h, ρ, _, _, R, S, e1, A⟩
theorem st_not (ha : PT X a (tT X.K cls Φ Z a')) : PT X (.UnaryOp .Not a pos) (tT X.K cls Φ Z (.not a')) := PT.imp (pt_not ha) fun σ H Q q => by
  obtain ⟨as, h, ρ, r, h', R, S, e, A⟩ := q
  unfold evT at e
  rcases bnd_inv e with ⟨w, h1, e1, e2⟩ | ⟨c, w, e1, rfl⟩
  · rw [ev] at e1
    have e0 : evT Φ a' ρ h = bnd (ev Φ a' ρ) truth h := rfl
    rcases bnd_inv e1 with ⟨x, h2, e3, e4⟩ | ⟨c, w, e3, e4⟩
    · rcases bnd_inv e4 with ⟨t, h3, e5, e6⟩ | ⟨c, w, e5, e6⟩
      · obtain ⟨e7, rfl⟩ := ret_inv e6
        cases e7
        obtain ⟨rfl, rfl⟩ : r = .ok (!t) ∧ h' = h1 := by cases e2; exact ⟨rfl, rfl⟩
        refine ⟨as, h, ρ, .ok t, h', R, S, ?_, fun as1 H1 m1 R1 => A _ _ m1 R1⟩
        rw [e0, bnd_ok e3, e5]
      · cases e6
    · cases e4
  · rw [ev] at e1
    refine ⟨as, h, ρ, .ex c w, h', R, S, ?_, A⟩
    show bnd (ev Φ a' ρ) truth h = _
    rcases bnd_inv e1 with ⟨x, h2, e3, e4⟩ | ⟨c, w, e3, e4⟩
    · rcases bnd_inv e4 with ⟨t, h3, e5, e6⟩ | ⟨c, w, e5, e6⟩
      · cases ret_inv e6 with | intro z _ => cases z
      · cases e6
        rw [bnd_ok e3, e5]
    · cases e4
      unfold bnd; rw [e3]
theorem tT_and {σ : St} {Q : Bool → Hp → Prop} (q : tT X.K cls Φ Z (.and a' b') σ H Q) : tAnd (tT X.K cls Φ Z a') (tT X.K cls Φ Z b') σ H Q := by
  obtain ⟨as, h, ρ, r, h', R, S, e, A⟩ := q
  unfold evT at e
  rw [ev] at e
  rcases bnd_inv e with ⟨w, h1, e1, e2⟩ | ⟨c, w, e1, rfl⟩
  · rcases bnd_inv e1 with ⟨x, h2, e3, e4⟩ | ⟨c, w', e3, e4⟩
    · rcases bnd_inv e4 with ⟨t, h3, e5, e6⟩ | ⟨c, w', e5, e6⟩
      · refine ⟨as, h, ρ, .ok t, h3, R, S, ?_, fun as1 H1 m1 R1 => ?_⟩
        · show bnd (ev Φ a' ρ) truth h = _
          rw [bnd_ok e3, e5]
        · cases t with
          | true =>
            show tT X.K cls Φ Z b' σ H1 Q
            refine ⟨as1, h3, ρ, r, h', R1, S.mono R m1, ?_, A.mono m1⟩
            show bnd (ev Φ b' ρ) truth h3 = _
            rw [bnd_ok (show ev Φ b' ρ h3 = some (.ok w, h1) from e6), e2]
          | false =>
            show Q false H1
            obtain ⟨e7, e8⟩ := ret_inv (show Bi.ret x h3 = some (.ok w, h1) from e6)
            cases e7
            have e9 : h2 = h3 ∧ truth w h3 = some (.ok false, h3) := by
              have hk : ∀ (w : W) (h h' : Store) (r : Rs Bool), truth w h = some (r, h') → h' = h := by
                intro w h h' r e
                unfold truth at e
                split at e
                all_goals first
                  | (cases e; rfl)
                  | (split at e <;> first | (cases e; rfl) | cases e)
              have := hk _ _ _ _ e5
              subst this
              exact ⟨rfl, e5⟩
            rw [e8, e9.2] at e2
            cases e2
            exact A _ _ m1 R1
      · cases e6
    · cases e4
  · rcases bnd_inv e1 with ⟨x, h2, e3, e4⟩ | ⟨c', w', e3, e4⟩
    · rcases bnd_inv e4 with ⟨t, h3, e5, e6⟩ | ⟨c', w', e5, e6⟩
      · refine ⟨as, h, ρ, .ok t, h3, R, S, ?_, fun as1 H1 m1 R1 => ?_⟩
        · show bnd (ev Φ a' ρ) truth h = _
          rw [bnd_ok e3, e5]
        · cases t with
          | true =>
            show tT X.K cls Φ Z b' σ H1 Q
            refine ⟨as1, h3, ρ, .ex c w, h', R1, S.mono R m1, ?_, AftB.mono m1 A⟩
            show bnd (ev Φ b' ρ) truth h3 = _
            unfold bnd
            rw [show ev Φ b' ρ h3 = some (.ex c w, h') from e6]
          | false => cases (show Bi.ret x h3 = some (.ex c w, h') from e6)
      · cases e6
        refine ⟨as, h, ρ, .ex c w, h', R, S, ?_, A⟩
        show bnd (ev Φ a' ρ) truth h = _
        rw [bnd_ok e3, e5]
    · cases e4
      refine ⟨as, h, ρ, .ex c w, h', R, S, ?_, A⟩
      show bnd (ev Φ a' ρ) truth h = _
      unfold bnd; rw [e3]
end
end Bi
set_option maxHeartbeats 1000000
namespace Bi
open PySem L2
theorem truth_st {w : W} {h h' : Store} {r : Rs Bool} (e : truth w h = some (r, h')) : h' = h := by
  unfold truth at e
  split at e
  all_goals first
    | (cases e; rfl)
    | (split at e <;> first | (cases e; rfl) | cases e)
/-- what a test's parts say of an and, an or -/
theorem ev_br {Φ : Ora} {a' : E} {ρ : Env} {k : W → Bool → M W} {h h' : Store} {r : Rs Bool} (e : bnd (bnd (ev Φ a' ρ) fun x => bnd (truth x) fun t => k x t) truth h = some (r, h')) :
    (∃ x t h1, evT Φ a' ρ h = some (.ok t, h1) ∧ truth x h1 = some (.ok t, h1) ∧ bnd (k x t) truth h1 = some (r, h')) ∨ ∃ c w, evT Φ a' ρ h = some (.ex c w, h') ∧ r = .ex c w := by
  unfold evT
  cases q : ev Φ a' ρ h with
  | none => unfold bnd at e; rw [q] at e; cases e
  | some p =>
    obtain ⟨r1, h1⟩ := p
    cases r1 with
    | ex c w =>
      right
      unfold bnd at e; rw [q] at e
      have e : some (Rs.ex c w, h1) = some (r, h') := e
      cases e
      refine ⟨c, w, ?_, rfl⟩
      unfold bnd; rw [q]
    | ok x =>
      have e1 : bnd (bnd (truth x) fun t => k x t) truth h1 = some (r, h') := by
        unfold bnd at e; rw [q] at e; exact e
      rw [bnd_ok q]
      cases q2 : truth x h1 with
      | none => unfold bnd at e1; rw [q2] at e1; cases e1
      | some p =>
        obtain ⟨r2, h2⟩ := p
        have hs := truth_st q2
        subst hs
        cases r2 with
        | ex c w =>
          right
          unfold bnd at e1; rw [q2] at e1
          have e1 : some (Rs.ex c w, h2) = some (r, h') := e1
          cases e1
          exact ⟨c, w, rfl, rfl⟩
        | ok t =>
          left
          refine ⟨x, t, h2, rfl, q2, ?_⟩
          unfold bnd at e1; rw [q2] at e1; exact e1
section
variable {X : Cx} {cls : Nat → Option (Addr × Str)} {Φ : Ora} {Z : XK} {as : List Addr} {H : Hp} {h h' : Store} {Q : VK}
variable {a b e t : Expr} {a' b' e' t' : Bi.E} {es : List Expr} {es' : List Bi.E} {pos p2 : Pos} {rest : List Expr}

theorem tT_or {σ : St} {Q : Bool → Hp → Prop} (q : tT X.K cls Φ Z (.or a' b') σ H Q) : tOr (tT X.K cls Φ Z a') (tT X.K cls Φ Z b') σ H Q := by
  obtain ⟨as, h, ρ, r, h', R, S, e, A⟩ := q
  unfold evT at e
  rw [ev] at e
  rcases ev_br e with ⟨x, t, h1, e1, e2, e3⟩ | ⟨c, w, e1, rfl⟩
  · refine ⟨as, h, ρ, _, _, R, S, e1, fun as1 H1 m1 R1 => ?_⟩
    cases t with
    | true =>
      show Q true H1
      have e3 : truth x h1 = some (r, h') := e3
      rw [e2] at e3; cases e3
      exact A _ _ m1 R1
    | false =>
      show tT X.K cls Φ Z b' σ H1 Q
      exact ⟨as1, h1, ρ, r, h', R1, S.mono R m1, e3, A.mono m1⟩
  · exact ⟨as, h, ρ, _, _, R, S, e1, A⟩
theorem sw_and1 (ha : PT X a (tT X.K cls Φ Z a')) : PW X (.BoolOp .And [a] pos) (tT X.K cls Φ Z a') := pw_and1 ha
theorem sw_or1 (ha : PT X a (tT X.K cls Φ Z a')) : PW X (.BoolOp .Or [a] pos) (tT X.K cls Φ Z a') := pw_or1 ha
theorem sw_and (ha : PT X a (tT X.K cls Φ Z a')) (hb : PW X (.BoolOp .And (b :: rest) pos) (tT X.K cls Φ Z b')) : PW X (.BoolOp .And (a :: b :: rest) pos) (tT X.K cls Φ Z (.and a' b')) :=
  ⟨fun wh pins s σ H Q I q => (pw_and ha hb).run wh pins s σ H Q I (tT_and q)⟩
theorem sw_or (ha : PT X a (tT X.K cls Φ Z a')) (hb : PW X (.BoolOp .Or (b :: rest) pos) (tT X.K cls Φ Z b')) : PW X (.BoolOp .Or (a :: b :: rest) pos) (tT X.K cls Φ Z (.or a' b')) :=
  ⟨fun wh pins s σ H Q I q => (pw_or ha hb).run wh pins s σ H Q I (tT_or q)⟩
theorem st_pw (h : PW X e (tT X.K cls Φ Z e')) : PT X e (tT X.K cls Φ Z e') := h.pt

/-! ### and, or, not, if as values -/
theorem s_one {op : BoolOp} (ha : PE X a (tE X.K cls Φ Z a')) : PE X (.BoolOp op [a] pos) (tE X.K cls Φ Z a') := pe_one ha
/-- what the value's test says -/
theorem ev_brV {Φ : Ora} {a' : E} {ρ : Env} {k : W → Bool → M W} {h h' : Store} {r : Rs W} (e : bnd (ev Φ a' ρ) (fun x => bnd (truth x) fun t => k x t) h = some (r, h')) :
    (∃ x t h1, ev Φ a' ρ h = some (.ok x, h1) ∧ truth x h1 = some (.ok t, h1) ∧ k x t h1 = some (r, h')) ∨ (∃ c w, ev Φ a' ρ h = some (.ex c w, h') ∧ r = .ex c w) ∨ ∃ x c w h1, ev Φ a' ρ h = some (.ok x, h1) ∧ truth x h1 = some (.ex c w, h') := by
  rcases bnd_inv e with ⟨x, h1, e1, e2⟩ | ⟨c, w, e1, rfl⟩
  · rcases bnd_inv e2 with ⟨t, h2, e3, e4⟩ | ⟨c, w, e3, rfl⟩
    · have := truth_st e3
      subst this
      exact .inl ⟨x, t, _, e1, e3, e4⟩
    · exact .inr (.inr ⟨x, c, w, h1, e1, e3⟩)
  · exact .inr (.inl ⟨c, w, e1, rfl⟩)
theorem truth_noex {w : W} {v : V} {c : Nat} {x : W} (R : Rp X.K as H h) (rw : RW X.K as H w v) (e : truth w h = some (.ex c x, h')) : False := by
  obtain ⟨k, e1, _⟩ := truth_rel R rw e
  cases e1
theorem s_and (ha : PE X a (tE X.K cls Φ Z a')) (hb : PE X (.BoolOp .And (b :: rest) pos) (tE X.K cls Φ Z b')) : PE X (.BoolOp .And (a :: b :: rest) pos) (tE X.K cls Φ Z (.and a' b')) := PE.imp (pe_andT ha hb) fun σ H Q q => by
  obtain ⟨as, h, ρ, r, h', R, S, e, A⟩ := q
  rw [ev] at e
  rcases ev_brV e with ⟨x, t, h1, e1, e2, e3⟩ | ⟨c, w, e1, rfl⟩ | ⟨x, c, w, h1, e1, e2⟩
  · refine ⟨as, h, ρ, _, _, R, S, e1, fun as1 H1 v1 m1 R1 rw1 => ?_⟩
    obtain ⟨k, ek, _, tv⟩ := truth_rel R1 rw1 e2
    cases ek
    refine ⟨_, tv, ?_⟩
    cases t with
    | true => exact ⟨as1, h1, ρ, r, h', R1, S.mono R m1, e3, A.mono m1⟩
    | false =>
      obtain ⟨rfl, rfl⟩ := ret_inv (show Bi.ret x h1 = some (r, h') from e3)
      exact A _ _ _ m1 R1 rw1
  · exact ⟨as, h, ρ, _, _, R, S, e1, A⟩
  · exact ⟨as, h, ρ, _, _, R, S, e1, fun as1 H1 v1 m1 R1 rw1 => (truth_noex R1 rw1 e2).elim⟩
theorem s_or (ha : PE X a (tE X.K cls Φ Z a')) (hb : PE X (.BoolOp .Or (b :: rest) pos) (tE X.K cls Φ Z b')) : PE X (.BoolOp .Or (a :: b :: rest) pos) (tE X.K cls Φ Z (.or a' b')) := PE.imp (pe_orT ha hb) fun σ H Q q => by
  obtain ⟨as, h, ρ, r, h', R, S, e, A⟩ := q
  rw [ev] at e
  rcases ev_brV e with ⟨x, t, h1, e1, e2, e3⟩ | ⟨c, w, e1, rfl⟩ | ⟨x, c, w, h1, e1, e2⟩
  · refine ⟨as, h, ρ, _, _, R, S, e1, fun as1 H1 v1 m1 R1 rw1 => ?_⟩
    obtain ⟨k, ek, _, tv⟩ := truth_rel R1 rw1 e2
    cases ek
    refine ⟨_, tv, ?_⟩
    cases t with
    | false => exact ⟨as1, h1, ρ, r, h', R1, S.mono R m1, e3, A.mono m1⟩
    | true =>
      obtain ⟨rfl, rfl⟩ := ret_inv (show Bi.ret x h1 = some (r, h') from e3)
      exact A _ _ _ m1 R1 rw1
  · exact ⟨as, h, ρ, _, _, R, S, e1, A⟩
  · exact ⟨as, h, ρ, _, _, R, S, e1, fun as1 H1 v1 m1 R1 rw1 => (truth_noex R1 rw1 e2).elim⟩
theorem s_not (ha : PE X a (tE X.K cls Φ Z a')) : PE X (.UnaryOp .Not a pos) (tE X.K cls Φ Z (.not a')) := PE.imp (pe_notT ha) fun σ H Q q => by
  obtain ⟨as, h, ρ, r, h', R, S, e, A⟩ := q
  rw [ev] at e
  rcases ev_brV e with ⟨x, t, h1, e1, e2, e3⟩ | ⟨c, w, e1, rfl⟩ | ⟨x, c, w, h1, e1, e2⟩
  · refine ⟨as, h, ρ, _, _, R, S, e1, fun as1 H1 v1 m1 R1 rw1 => ?_⟩
    obtain ⟨k, ek, _, tv⟩ := truth_rel R1 rw1 e2
    cases ek
    obtain ⟨rfl, rfl⟩ := ret_inv e3
    exact ⟨_, tv, A _ _ _ m1 R1 (.bl _)⟩
  · exact ⟨as, h, ρ, _, _, R, S, e1, A⟩
  · exact ⟨as, h, ρ, _, _, R, S, e1, fun as1 H1 v1 m1 R1 rw1 => (truth_noex R1 rw1 e2).elim⟩
theorem evT_of {a' : Bi.E} {ρ : Env} {x : W} {t : Bool} {h1 : Store} (e1 : ev Φ a' ρ h = some (.ok x, h1)) (e2 : truth x h1 = some (.ok t, h1)) : evT Φ a' ρ h = some (.ok t, h1) := by
  unfold evT; rw [bnd_ok e1, e2]
theorem evT_ex {a' : Bi.E} {ρ : Env} {c : Nat} {x : W} (e1 : ev Φ a' ρ h = some (.ex c x, h')) : evT Φ a' ρ h = some (.ex c x, h') := by
  unfold evT bnd; rw [e1]
theorem evT_exT {a' : Bi.E} {ρ : Env} {c : Nat} {x w : W} {h1 : Store} (e1 : ev Φ a' ρ h = some (.ok x, h1)) (e2 : truth x h1 = some (.ex c w, h')) : evT Φ a' ρ h = some (.ex c w, h') := by
  unfold evT; rw [bnd_ok e1, e2]
theorem s_ite (ht : PT X t (tT X.K cls Φ Z t')) (ha : PE X a (tE X.K cls Φ Z a')) (hb : PE X b (tE X.K cls Φ Z b')) : PE X (.IfExp t a b pos) (tE X.K cls Φ Z (.ite t' a' b')) := PE.imp (pe_ifExp ht ha hb) fun σ H Q q => by
  obtain ⟨as, h, ρ, r, h', R, S, e, A⟩ := q
  rw [ev] at e
  rcases ev_brV e with ⟨x, t, h1, e1, e2, e3⟩ | ⟨c, w, e1, rfl⟩ | ⟨x, c, w, h1, e1, e2⟩
  · refine ⟨as, h, ρ, _, _, R, S, evT_of e1 e2, fun as1 H1 m1 R1 => ?_⟩
    cases t with
    | true => exact ⟨as1, h1, ρ, r, h', R1, S.mono R m1, e3, A.mono m1⟩
    | false => exact ⟨as1, h1, ρ, r, h', R1, S.mono R m1, e3, A.mono m1⟩
  · exact ⟨as, h, ρ, _, _, R, S, evT_ex e1, A⟩
  · have hk : ∀ (w : W) (h h' : Store) (c : Nat) (x : W), truth w h ≠ some (.ex c x, h') := by
      intro w h h' c x e
      unfold truth at e
      split at e
      all_goals first
        | cases e
        | (split at e <;> cases e)
    exact (hk _ _ _ _ _ e2).elim

/-! ### displays -/
theorem s_tup {x1 : _} (ha : PA X es (tA X.K cls Φ Z es')) : PE X (.Tuple es x1 pos) (tE X.K cls Φ Z (.tup es')) := PE.imp (pe_tup ha) fun σ H Q q => by
  obtain ⟨as, h, ρ, r, h', R, S, e, A⟩ := q
  rw [ev] at e
  rcases bnd_inv e with ⟨ws, h1, e1, e2⟩ | ⟨c, w, e1, rfl⟩
  · refine ⟨as, h, ρ, _, _, R, S, e1, fun as1 H1 vs m1 R1 rs => ?_⟩
    obtain ⟨c, e2⟩ := chk_inv e2
    exact ⟨by rw [← rs.length]; exact c, (A.mono m1).tup e2 R1 rs⟩
  · exact ⟨as, h, ρ, _, _, R, S, e1, A⟩
theorem s_lst (ha : PA X es (tA X.K cls Φ Z es')) : PE X (.List es pos) (tE X.K cls Φ Z (.lst es')) := PE.imp (pe_lst ha) fun σ H Q q => by
  obtain ⟨as, h, ρ, r, h', R, S, e, A⟩ := q
  rw [ev] at e
  rcases bnd_inv e with ⟨ws, h1, e1, e2⟩ | ⟨c, w, e1, rfl⟩
  · refine ⟨as, h, ρ, _, _, R, S, e1, fun as1 H1 vs m1 R1 rs => ?_⟩
    obtain ⟨c, e2⟩ := chk_inv e2
    exact ⟨by rw [← rs.length]; exact c, (A.mono m1).lst e2 R1 rs⟩
  · exact ⟨as, h, ρ, _, _, R, S, e1, A⟩
theorem s_dnewK : PE X (.Dict [] [] pos) (tE X.K cls Φ Z .dnewK) := PE.imp pe_dnewK fun σ H Q q => by
  obtain ⟨as, h, ρ, r, h', R, S, e, A⟩ := q
  rw [ev] at e
  cases e
  intro p hp
  exact A (as ++ [p]) _ _ (Mono.alloc hp) (R.alloc hp ⟨[], upd_same, .nil⟩) (RW.new_loc R)
theorem s_dnewT : PE X (.Dict [] [] pos) (tE X.K cls Φ Z .dnewT) := PE.imp pe_dnewT fun σ H Q q => by
  obtain ⟨as, h, ρ, r, h', R, S, e, A⟩ := q
  rw [ev] at e
  cases e
  intro p hp
  exact A (as ++ [p]) _ _ (Mono.alloc hp) (R.alloc hp ⟨[], upd_same, .nil⟩) (RW.new_loc R)

/-! ### in a module's tuple of texts -/
theorem s_inG {neg : Bool} {op : CmpOp} {x : Str} {ws : List W} {vs : List V} {p : Addr} {pp : Pos} (hop : op = if neg = true then .NotIn else .In) (hg : L2.Gl X x) (hm : X.mg x = some (.ref p)) (hK : ∀ H, SqT X.K H p vs)
    (hr : ∀ as H, RWs X.K as H ws vs) (ha : PE X a (tE X.K cls Φ Z a')) (hd : (x == ("__debug__" : Str)) = false := by decide) (hb : behindInMarks op (.Name x pp) = false := by rfl) : PE X (.Compare a [op] [.Name x pp] pos) (tE X.K cls Φ Z (.inG neg a' ws)) := by
  have key : ∀ σ H Q, tE X.K cls Φ Z (.inG neg a' ws) σ H Q → tOp (rIn X.K neg) (tE X.K cls Φ Z a') (tC (.ref p)) σ H Q := fun σ H Q q => by
    obtain ⟨as, h, ρ, r, h', R, S, e, A⟩ := q
    rw [ev] at e
    rcases bnd_inv e with ⟨w, h1, e1, e2⟩ | ⟨c, w, e1, rfl⟩
    · refine ⟨as, h, ρ, _, _, R, S, e1, fun as1 H1 v m1 R1 rw => ?_⟩
      obtain ⟨c, e2⟩ := chk_inv e2
      obtain ⟨rfl, rfl⟩ := ret_inv e2
      refine ⟨p, vs, rfl, .inr (hK _), flat_rel rw c.1, flat_all (hr as1 H1) c.2, ?_⟩
      have q := A as1 H1 _ m1 R1 (.bl _)
      rw [inF_rel rw c.1 (hr as1 H1) c.2] at q
      exact q
    · exact ⟨as, h, ρ, _, _, R, S, e1, A⟩
  cases neg with
  | true =>
    subst hop
    exact PE.imp (pe_cmpR op_notIn_seq ha (pe_glob (v := .ref p) hg hm rfl hd) hb) key
  | false =>
    subst hop
    exact PE.imp (pe_cmpR op_in_seq ha (pe_glob (v := .ref p) hg hm rfl hd) hb) key
end
end Bi
set_option maxHeartbeats 1000000
namespace Bi
open PySem L2
section
variable {X : Cx} {cls : Nat → Option (Addr × Str)} {Φ : Ora} {Z : XK} {as : List Addr} {H : Hp} {h h' : Store} {Q : VK}
variable {a b e t : Expr} {a' b' e' t' : Bi.E} {es : List Expr} {es' : List Bi.E} {pos p p2 apos : Pos} {rest : List Expr} {x : Str}

abbrev one (f : F1) : List W → M W := fun ws => match ws with | [w] => op1 f w | _ => stuck
theorem one_inv {f : F1} {ws : List W} {vs : List V} {r : Rs W} (e : one f ws h = some (r, h')) (rs : RWs X.K as H ws vs) : ∃ w v, ws = [w] ∧ vs = [v] ∧ RW X.K as H w v ∧ op1 f w h = some (r, h') := by
  cases rs with
  | nil => exact (stuck_no (h := h) e).elim
  | cons r1 t =>
    cases t with
    | nil => exact ⟨_, _, rfl, rfl, r1, e⟩
    | cons _ _ => exact (stuck_no (h := h) e).elim
theorem seq_lst (R : Rp X.K as H h) {l : Nat} {v : V} {ws : List W} (r : RW X.K as H (.loc l) v) (e : lstAt h l = some ws) : ∃ a vs, v = .ref a ∧ SqL X.K H a vs ∧ RWs X.K as H ws vs := by
  obtain ⟨a, vs, rfl, _, hp, rs⟩ := lst_at R r (lstAt_some e)
  exact ⟨a, vs, rfl, SqL.of hp, rs⟩
theorem call_lenB : CallR X (.builtin "len") (rBn X.K cls Z (one .len)) := by
  intro pins s σ H xs us Q I rr q
  obtain ⟨as, h, ws, r, h', R, rs, e, A⟩ := q
  obtain ⟨w, v, rfl, rfl, rw, e⟩ := one_inv e rs
  cases w with
  | str z =>
    obtain ⟨c, e⟩ := chk_inv (show chk (z.length ≤ sizeLine) (Bi.ret (.int z.length)) h = some (r, h') from e)
    cases rw
    exact call_len_str pins s σ H _ us Q I rr ⟨z, rfl, c, A.ret e R (.int _)⟩
  | tup zs =>
    have e : Bi.ret (W.int zs.length) h = some (r, h') := e
    cases rw with
    | tup ha rs' => exact call_len_seq pins s σ H _ us Q I rr ⟨_, _, rfl, .inr (SqT.of ha), by rw [← rs'.length]; exact A.ret e R (.int _)⟩
  | loc l =>
    obtain ⟨zs, hl, e⟩ := Option.map_eq_some_iff.mp (show (lstAt h l).map (fun xs => (Rs.ok (W.int xs.length), h)) = some (r, h') from e)
    cases e
    obtain ⟨a, vs, rfl, hs, rs'⟩ := seq_lst R rw hl
    exact call_len_seq pins s σ H _ us Q I rr ⟨_, _, rfl, .inl hs, by rw [← rs'.length]; exact A.val R (.int _)⟩
  | scr ns =>
    have e : Bi.ret (W.int ns.length) h = some (r, h') := e
    cases rw with
    | scr q => exact call_len_seq pins s σ H _ us Q I rr ⟨_, _, rfl, .inl (scr_sq (as := as) (.scr q)), by rw [List.length_map]; exact A.ret e R (.int _)⟩
  | _ => exact (stuck_no (h := h) e).elim
theorem call_intB : CallR X (.type "int") (rBn X.K cls Z (one .int)) := by
  intro pins s σ H xs us Q I rr q
  obtain ⟨as, h, ws, r, h', R, rs, e, A⟩ := q
  obtain ⟨w, v, rfl, rfl, rw, e⟩ := one_inv e rs
  cases w with
  | int i => cases rw; exact call_int1 pins s σ H _ us Q I rr (.inl ⟨i, rfl, A.ret e R (.int _)⟩)
  | bl b => cases rw; exact call_int1 pins s σ H _ us Q I rr (.inr ⟨b, rfl, A.ret e R (.int _)⟩)
  | _ => exact (stuck_no (h := h) e).elim
theorem intsW_rel : ∀ {ws : List W} {ns : List Int} {vs : List V}, intsW ws = some ns → RWs X.K as H ws vs → vs = ns.map V.int
  | [], _, _, e, .nil => by cases e; rfl
  | w :: ws, _, _, e, .cons r t => by
    cases r with
    | int i =>
      obtain ⟨l, e1, e2⟩ := Option.map_eq_some_iff.mp (show (intsW ws).map (fun l => i :: l) = some _ from e)
      subst e2
      rw [intsW_rel e1 t]; rfl
    | _ => cases e
theorem boolsW_rel : ∀ {ws : List W} {ns : List Bool} {vs : List V}, boolsW ws = some ns → RWs X.K as H ws vs → vs = ns.map V.bl
  | [], _, _, e, .nil => by cases e; rfl
  | w :: ws, _, _, e, .cons r t => by
    cases r with
    | bl i =>
      obtain ⟨l, e1, e2⟩ := Option.map_eq_some_iff.mp (show (boolsW ws).map (fun l => i :: l) = some _ from e)
      subst e2
      rw [boolsW_rel e1 t]; rfl
    | _ => cases e
theorem strsW_rel : ∀ {ws : List W} {ns : List Str} {vs : List V}, strsW ws = some ns → RWs X.K as H ws vs → vs = ns.map V.str
  | [], _, _, e, .nil => by cases e; rfl
  | w :: ws, _, _, e, .cons r t => by
    cases r with
    | str i =>
      obtain ⟨l, e1, e2⟩ := Option.map_eq_some_iff.mp (show (strsW ws).map (fun l => i :: l) = some _ from e)
      subst e2
      rw [strsW_rel e1 t]; rfl
    | _ => cases e
theorem call_sumB (hc : X.calm = true) : CallR X (.builtin "sum") (rBn X.K cls Z (one .sum)) := by
  intro pins s σ H xs us Q I rr q
  obtain ⟨as, h, ws, r, h', R, rs, e, A⟩ := q
  obtain ⟨w, v, rfl, rfl, rw, e⟩ := one_inv e rs
  cases w with
  | loc l =>
    obtain ⟨ns, e1, e⟩ := Option.map_eq_some_iff.mp (show ((lstAt h l).bind intsW).map (fun ns => (Rs.ok (W.int ns.sum), h)) = some (r, h') from e)
    obtain ⟨zs, hl, e1⟩ := Option.bind_eq_some_iff.mp e1
    cases e
    obtain ⟨a, vs, rfl, hs, rs'⟩ := seq_lst R rw hl
    exact cr_sum hc pins s σ H _ us Q I rr ⟨a, ns, rfl, by rw [← intsW_rel e1 rs']; exact hs, A.val R (.int _)⟩
  | _ => exact (stuck_no (h := h) e).elim
theorem call_allB (hc : X.calm = true) : CallR X (.builtin "all") (rBn X.K cls Z (one .all)) := by
  intro pins s σ H xs us Q I rr q
  obtain ⟨as, h, ws, r, h', R, rs, e, A⟩ := q
  obtain ⟨w, v, rfl, rfl, rw, e⟩ := one_inv e rs
  cases w with
  | loc l =>
    obtain ⟨ns, e1, e⟩ := Option.map_eq_some_iff.mp (show ((lstAt h l).bind boolsW).map (fun ns => (Rs.ok (W.bl (ns.all id)), h)) = some (r, h') from e)
    obtain ⟨zs, hl, e1⟩ := Option.bind_eq_some_iff.mp e1
    cases e
    obtain ⟨a, vs, rfl, hs, rs'⟩ := seq_lst R rw hl
    exact cr_all hc pins s σ H _ us Q I rr ⟨a, ns, rfl, by rw [← boolsW_rel e1 rs']; exact hs, A.val R (.bl _)⟩
  | _ => exact (stuck_no (h := h) e).elim
theorem call_anyB (hc : X.calm = true) : CallR X (.builtin "any") (rBn X.K cls Z (one .any)) := by
  intro pins s σ H xs us Q I rr q
  obtain ⟨as, h, ws, r, h', R, rs, e, A⟩ := q
  obtain ⟨w, v, rfl, rfl, rw, e⟩ := one_inv e rs
  cases w with
  | loc l =>
    obtain ⟨ns, e1, e⟩ := Option.map_eq_some_iff.mp (show ((lstAt h l).bind boolsW).map (fun ns => (Rs.ok (W.bl (ns.any id)), h)) = some (r, h') from e)
    obtain ⟨zs, hl, e1⟩ := Option.bind_eq_some_iff.mp e1
    cases e
    obtain ⟨a, vs, rfl, hs, rs'⟩ := seq_lst R rw hl
    exact cr_any hc pins s σ H _ us Q I rr ⟨a, ns, rfl, by rw [← boolsW_rel e1 rs']; exact hs, A.val R (.bl _)⟩
  | _ => exact (stuck_no (h := h) e).elim
theorem strs_rel : ∀ ns : List Str, RWs X.K as H (ns.map W.str) (ns.map V.str)
  | [] => .nil
  | i :: r => .cons (.str i) (strs_rel r)

/-! ### sorting texts: one answer -/
theorem lt_irr : ∀ a : List Nat, PySem.Spec.ltCps a a = false
  | [] => rfl
  | a :: r => by
    have ih := lt_irr r
    unfold PySem.Spec.ltCps
    simp [ih]
theorem lt_anti : ∀ {a b : List Nat}, PySem.Spec.ltCps a b = false → PySem.Spec.ltCps b a = false → a = b
  | [], [], _, _ => rfl
  | [], _ :: _, h, _ => by cases h
  | _ :: _, [], _, h => by cases h
  | a :: r, b :: t, h1, h2 => by
    unfold PySem.Spec.ltCps at h1 h2
    simp at h1 h2
    have e : a = b := by omega
    subst e
    rw [lt_anti (a := r) (b := t) (h1.2 rfl) (h2.2 rfl)]
theorem lt_trans' : ∀ {a b c : List Nat}, PySem.Spec.ltCps b a = false → PySem.Spec.ltCps c b = false → PySem.Spec.ltCps c a = false
  | [], _, [], _, _ => rfl
  | [], _, _ :: _, _, _ => rfl
  | _ :: _, [], _, h, _ => by cases h
  | _ :: _, _ :: _, [], _, h => by cases h
  | a :: r, b :: t, c :: u, h1, h2 => by
    unfold PySem.Spec.ltCps at h1 h2 ⊢
    simp at h1 h2 ⊢
    refine ⟨by omega, fun e => ?_⟩
    exact lt_trans' (h1.2 (by omega)) (h2.2 (by omega))
theorem str_eq {a b : Str} (h : a.cps.toList = b.cps.toList) : a = b := by
  obtain ⟨a⟩ := a
  obtain ⟨b⟩ := b
  have : a = b := by
    rw [← Array.toArray_toList (xs := a), ← Array.toArray_toList (xs := b)]
    exact congrArg _ h
  rw [this]
abbrev leS (a b : Str) : Prop := PySem.Spec.ltCps b.cps.toList a.cps.toList = false
theorem rising_pw : ∀ {l : List Str} {p : Str}, PyProof.Rows.risingS p l = true → (∀ x ∈ l, leS p x) ∧ l.Pairwise leS
  | [], _, _ => ⟨(fun _ h => nomatch h), List.Pairwise.nil⟩
  | x :: r, p, h => by
    unfold PyProof.Rows.risingS at h
    rw [Bool.and_eq_true] at h
    obtain ⟨h1, h2⟩ := rising_pw h.2
    have h0 : leS p x := by simpa using h.1
    refine ⟨fun y hy => ?_, .cons h1 h2⟩
    rcases List.mem_cons.mp hy with rfl | hy
    · exact h0
    · exact lt_trans' h0 (h1 y hy)
theorem sorted_pw {l : List Str} (h : PyProof.Rows.sortedS l = true) : l.Pairwise leS := by
  cases l with
  | nil => exact .nil
  | cons x r =>
    obtain ⟨h1, h2⟩ := rising_pw (show PyProof.Rows.risingS x r = true from h)
    exact .cons h1 h2
theorem insS_perm (x : Str) : ∀ l : List Str, (insS x l).Perm (x :: l)
  | [] => .refl _
  | y :: r => by
    unfold insS
    split
    · exact ((insS_perm x r).cons y).trans (.swap x y r)
    · exact .refl _
theorem sortS_perm : ∀ l : List Str, (sortS l).Perm l
  | [] => .refl _
  | x :: r => (insS_perm x _).trans ((sortS_perm r).cons x)
theorem lt_asym {a b : List Nat} (h : PySem.Spec.ltCps a b = true) : PySem.Spec.ltCps b a = false := by
  cases q : PySem.Spec.ltCps b a with
  | false => rfl
  | true =>
    have key : ∀ a b : List Nat, PySem.Spec.ltCps a b = true → PySem.Spec.ltCps b a = true → False := by
      intro a
      induction a with
      | nil => intro b h1 h2; cases b <;> cases h2
      | cons x r ih =>
        intro b h1 h2
        cases b with
        | nil => cases h1
        | cons y t =>
          unfold PySem.Spec.ltCps at h1 h2
          simp at h1 h2
          rcases h1 with h1 | ⟨e, h1⟩
          · rcases h2 with h2 | ⟨e, h2⟩ <;> omega
          · rcases h2 with h2 | ⟨_, h2⟩
            · omega
            · exact ih _ h1 h2
    exact (key _ _ h q).elim
theorem insS_pw (x : Str) : ∀ {l : List Str}, l.Pairwise leS → (insS x l).Pairwise leS
  | [], _ => by unfold insS; simp
  | y :: r, h => by
    cases h with
    | cons h1 h2 =>
      unfold insS
      split
      · rename_i hlt
        refine .cons (fun z hz => ?_) (insS_pw x h2)
        rcases List.mem_cons.mp ((insS_perm x r).mem_iff.mp hz) with rfl | hz
        · exact lt_asym hlt
        · exact h1 z hz
      · rename_i hlt
        have h0 : leS x y := by simpa using hlt
        refine .cons (fun z hz => ?_) (.cons h1 h2)
        rcases List.mem_cons.mp hz with rfl | hz
        · exact h0
        · exact lt_trans' h0 (h1 z hz)
theorem sortS_pw : ∀ l : List Str, (sortS l).Pairwise leS
  | [] => .nil
  | x :: r => insS_pw x (sortS_pw r)
theorem sorted_one {l m : List Str} (p : l.Perm m) (s : PyProof.Rows.sortedS l = true) : l = sortS m := by
  have p2 : l.Perm (sortS m) := p.trans (sortS_perm m).symm
  exact p2.eq_of_pairwise (le := leS) (fun a b _ _ h1 h2 => str_eq (lt_anti h2 h1)) (sorted_pw s) (sortS_pw m)
theorem call_sortedB : CallR X (.builtin "sorted") (rBn X.K cls Z (one .sorted)) := by
  intro pins s σ H xs us Q I rr q
  obtain ⟨as, h, ws, r, h', R, rs, e, A⟩ := q
  obtain ⟨w, v, rfl, rfl, rw, e⟩ := one_inv e rs
  cases w with
  | loc l =>
    obtain ⟨ns, e1, e⟩ := Option.bind_eq_some_iff.mp (show ((lstAt h l).bind strsW).bind (fun ss => if ss.length < 64 then alloc (.lst ((sortS ss).map .str)) h else none) = some (r, h') from e)
    obtain ⟨zs, hl, e1⟩ := Option.bind_eq_some_iff.mp e1
    split at e
    · rename_i hlen
      obtain ⟨a, vs, rfl, hs, rs'⟩ := seq_lst R rw hl
      refine cr_sortedS pins s σ H _ us Q I rr ⟨a, ns, rfl, by rw [← strsW_rel e1 rs']; exact hs, hlen, fun ys p hp so hn => ?_⟩
      rw [sorted_one hp so]
      exact A.lst e R (strs_rel _) p hn
    · cases e
  | _ => exact (stuck_no (h := h) e).elim
theorem call_listB : CallR X (.type "list") (rBn X.K cls Z (one .list)) := by
  intro pins s σ H xs us Q I rr q
  obtain ⟨as, h, ws, r, h', R, rs, e, A⟩ := q
  obtain ⟨w, v, rfl, rfl, rw, e⟩ := one_inv e rs
  cases w with
  | loc l =>
    obtain ⟨zs, hl, e⟩ := Option.bind_eq_some_iff.mp (show (lstAt h l).bind (fun xs => alloc (.lst xs) h) = some (r, h') from e)
    obtain ⟨a, vs, rfl, hs, rs'⟩ := seq_lst R rw hl
    exact call_list_of pins s σ H _ us Q I rr ⟨a, vs, rfl, .inl hs, A.lst e R rs'⟩
  | tup zs =>
    cases rw with
    | tup ha rs' => exact call_list_of pins s σ H _ us Q I rr ⟨_, _, rfl, .inr (SqT.of ha), A.lst e R rs'⟩
  | _ => exact (stuck_no (h := h) e).elim
theorem call_listK (hc : X.calm = true) : CallR X (.type "list") (rBn X.K cls Z (one .dkeys)) := by
  intro pins s σ H xs us Q I rr q
  obtain ⟨as, h, ws, r, h', R, rs, e, A⟩ := q
  obtain ⟨w, v, rfl, rfl, rw, e⟩ := one_inv e rs
  cases w with
  | loc l =>
    have e : (match h[l]? with | some (.dk kvs) => alloc (.lst (kvs.map fun p => wKey p.1)) h | _ => none) = some (r, h') := e
    split at e
    · rename_i kvs hl
      obtain ⟨a, rfl, _, ps, hp, rk⟩ := R.at_ rw hl
      refine call_list_dK hc pins s σ H _ us Q I rr ⟨a, ps, rfl, hp, A.lst e R ?_⟩
      clear e hl hp
      induction rk with
      | nil => exact .nil
      | @cons p q ps qs hpq t ih =>
        refine .cons ?_ ih
        show RW X.K as H (wKey p.1) (kV q.1)
        rw [hpq.1]
        cases q.1 with
        | inl i => exact .int i
        | inr s => exact .str s
    · cases e
  | _ => exact (stuck_no (h := h) e).elim
theorem call_tupleB : CallR X (.type "tuple") (rBn X.K cls Z (one .tuple)) := by
  intro pins s σ H xs us Q I rr q
  obtain ⟨as, h, ws, r, h', R, rs, e, A⟩ := q
  obtain ⟨w, v, rfl, rfl, rw, e⟩ := one_inv e rs
  cases w with
  | tup zs =>
    cases rw with
    | tup ha rs' => exact call_tuple_of pins s σ H _ us Q I rr ⟨_, _, rfl, .inr ⟨SqT.of ha, A.ret e R (.tup ha rs')⟩⟩
  | loc l =>
    obtain ⟨zs, hl, e⟩ := Option.bind_eq_some_iff.mp (show (lstAt h l).bind (fun xs => some (Rs.ok (W.tup xs), h)) = some (r, h') from e)
    obtain ⟨a, vs, rfl, hs, rs'⟩ := seq_lst R rw hl
    exact call_tuple_of pins s σ H _ us Q I rr ⟨a, vs, rfl, .inl ⟨hs, A.tup e R rs'⟩⟩
  | _ => exact (stuck_no (h := h) e).elim
theorem call_max2B (hc : X.calm = true) : CallR X (.builtin "max") (rBn X.K cls Z (opn .max2)) := by
  intro pins s σ H xs us Q I rr q
  obtain ⟨as, h, ws, r, h', R, rs, e, A⟩ := q
  rcases ws with _ | ⟨w1, _ | ⟨w2, _ | ⟨w3, ws⟩⟩⟩
  · exact (stuck_no (h := h) e).elim
  · cases w1 <;> exact (stuck_no (h := h) e).elim
  · cases w1 with
    | int i =>
      cases w2 with
      | int j =>
        cases rs with
        | cons r1 t =>
          cases t with
          | cons r2 t2 =>
            cases t2; cases r1; cases r2
            exact call_max2 hc pins s σ H _ us Q I rr ⟨i, j, rfl, A.ret e R (.int _)⟩
      | _ => exact (stuck_no (h := h) e).elim
    | _ => cases w2 <;> exact (stuck_no (h := h) e).elim
  · cases w1 <;> cases w2 <;> exact (stuck_no (h := h) e).elim
theorem call_min2B (hc : X.calm = true) : CallR X (.builtin "min") (rBn X.K cls Z (opn .min2)) := by
  intro pins s σ H xs us Q I rr q
  obtain ⟨as, h, ws, r, h', R, rs, e, A⟩ := q
  rcases ws with _ | ⟨w1, _ | ⟨w2, _ | ⟨w3, ws⟩⟩⟩
  · exact (stuck_no (h := h) e).elim
  · cases w1 <;> exact (stuck_no (h := h) e).elim
  · cases w1 with
    | int i =>
      cases w2 with
      | int j =>
        cases rs with
        | cons r1 t =>
          cases t with
          | cons r2 t2 =>
            cases t2; cases r1; cases r2
            exact call_min2 hc pins s σ H _ us Q I rr ⟨i, j, rfl, A.ret e R (.int _)⟩
      | _ => exact (stuck_no (h := h) e).elim
    | _ => cases w2 <;> exact (stuck_no (h := h) e).elim
  · cases w1 <;> cases w2 <;> exact (stuck_no (h := h) e).elim
end
end Bi
set_option maxHeartbeats 1000000
namespace Bi
open PySem L2
section
variable {X : Cx} {cls : Nat → Option (Addr × Str)} {Φ : Ora} {Z : XK} {as : List Addr} {H : Hp} {h h' : Store} {Q : VK}
variable {a b e t : Expr} {a' b' e' t' : Bi.E} {es : List Expr} {es' : List Bi.E} {pos p p2 apos : Pos} {rest : List Expr} {x : Str}

theorem s_len (ha : PE X a (tE X.K cls Φ Z a')) (hm : X.mg "len" = none) (hg : L2.Gl X "len" := by rfl) (he : starEach [a] X.env = (false, eval a X.env) :: starEach [] X.env := by rfl) : PE X (.Call (.Name "len" p) [a] [] pos) (tE X.K cls Φ Z (.f1 .len a')) :=
  PE.imp (pe_callB call_lenB hg hm PySem.boot_len (s_cons ha s_nil he) (by decide) (by decide) he rfl) fun _ _ _ q => tE_call1 q
theorem s_intc (ha : PE X a (tE X.K cls Φ Z a')) (hm : X.mg "int" = none) (hg : L2.Gl X "int" := by rfl) (he : starEach [a] X.env = (false, eval a X.env) :: starEach [] X.env := by rfl) : PE X (.Call (.Name "int" p) [a] [] pos) (tE X.K cls Φ Z (.f1 .int a')) :=
  PE.imp (pe_callTy call_intB hg hm (by decide +kernel) (s_cons ha s_nil he) (by decide) (by decide) he rfl) fun _ _ _ q => tE_call1 q
theorem s_sum (hc : X.calm = true) (ha : PE X a (tE X.K cls Φ Z a')) (hm : X.mg "sum" = none) (hg : L2.Gl X "sum" := by rfl) (he : starEach [a] X.env = (false, eval a X.env) :: starEach [] X.env := by rfl) : PE X (.Call (.Name "sum" p) [a] [] pos) (tE X.K cls Φ Z (.f1 .sum a')) :=
  PE.imp (pe_callB (call_sumB hc) hg hm (by decide +kernel) (s_cons ha s_nil he) (by decide) (by decide) he rfl) fun _ _ _ q => tE_call1 q
theorem s_all (hc : X.calm = true) (ha : PE X a (tE X.K cls Φ Z a')) (hm : X.mg "all" = none) (hg : L2.Gl X "all" := by rfl) (he : starEach [a] X.env = (false, eval a X.env) :: starEach [] X.env := by rfl) : PE X (.Call (.Name "all" p) [a] [] pos) (tE X.K cls Φ Z (.f1 .all a')) :=
  PE.imp (pe_callB (call_allB hc) hg hm (by decide +kernel) (s_cons ha s_nil he) (by decide) (by decide) he rfl) fun _ _ _ q => tE_call1 q
theorem s_any (hc : X.calm = true) (ha : PE X a (tE X.K cls Φ Z a')) (hm : X.mg "any" = none) (hg : L2.Gl X "any" := by rfl) (he : starEach [a] X.env = (false, eval a X.env) :: starEach [] X.env := by rfl) : PE X (.Call (.Name "any" p) [a] [] pos) (tE X.K cls Φ Z (.f1 .any a')) :=
  PE.imp (pe_callB (call_anyB hc) hg hm (by decide +kernel) (s_cons ha s_nil he) (by decide) (by decide) he rfl) fun _ _ _ q => tE_call1 q
theorem s_sorted (ha : PE X a (tE X.K cls Φ Z a')) (hm : X.mg "sorted" = none) (hg : L2.Gl X "sorted" := by rfl) (he : starEach [a] X.env = (false, eval a X.env) :: starEach [] X.env := by rfl) : PE X (.Call (.Name "sorted" p) [a] [] pos) (tE X.K cls Φ Z (.f1 .sorted a')) :=
  PE.imp (pe_callB call_sortedB hg hm (by decide +kernel) (s_cons ha s_nil he) (by decide) (by decide) he rfl) fun _ _ _ q => tE_call1 q
theorem s_listc (ha : PE X a (tE X.K cls Φ Z a')) (hm : X.mg "list" = none) (hg : L2.Gl X "list" := by rfl) (he : starEach [a] X.env = (false, eval a X.env) :: starEach [] X.env := by rfl) : PE X (.Call (.Name "list" p) [a] [] pos) (tE X.K cls Φ Z (.f1 .list a')) :=
  PE.imp (pe_callTy call_listB hg hm (by decide +kernel) (s_cons ha s_nil he) (by decide) (by decide) he rfl) fun _ _ _ q => tE_call1 q
theorem s_dkeys (hc : X.calm = true) (ha : PE X a (tE X.K cls Φ Z a')) (hm : X.mg "list" = none) (hg : L2.Gl X "list" := by rfl) (he : starEach [a] X.env = (false, eval a X.env) :: starEach [] X.env := by rfl) : PE X (.Call (.Name "list" p) [a] [] pos) (tE X.K cls Φ Z (.f1 .dkeys a')) :=
  PE.imp (pe_callTy (call_listK hc) hg hm (by decide +kernel) (s_cons ha s_nil he) (by decide) (by decide) he rfl) fun _ _ _ q => tE_call1 q
theorem s_tuplec (ha : PE X a (tE X.K cls Φ Z a')) (hm : X.mg "tuple" = none) (hg : L2.Gl X "tuple" := by rfl) (he : starEach [a] X.env = (false, eval a X.env) :: starEach [] X.env := by rfl) : PE X (.Call (.Name "tuple" p) [a] [] pos) (tE X.K cls Φ Z (.f1 .tuple a')) :=
  PE.imp (pe_callTy call_tupleB hg hm (by decide +kernel) (s_cons ha s_nil he) (by decide) (by decide) he rfl) fun _ _ _ q => tE_call1 q
theorem s_max2 (hc : X.calm = true) (ha : PE X a (tE X.K cls Φ Z a')) (hb : PE X b (tE X.K cls Φ Z b')) (hm : X.mg "max" = none) (hg : L2.Gl X "max" := by rfl) (he : starEach [a, b] X.env = (false, eval a X.env) :: starEach [b] X.env := by rfl) (he2 : starEach [b] X.env = (false, eval b X.env) :: starEach [] X.env := by rfl) (hpl : (backTo pos (starEach [b] X.env)).any (·.1) = false := by rfl) :
    PE X (.Call (.Name "max" p) [a, b] [] pos) (tE X.K cls Φ Z (.fn .max2 [a', b'])) :=
  PE.imp (pe_callB (call_max2B hc) hg hm (by decide +kernel) (s_cons ha (s_cons hb s_nil he2) he) (by decide) (by decide) he hpl) fun _ _ _ q => tE_opn (fun _ => by rw [ev]) q
theorem s_min2 (hc : X.calm = true) (ha : PE X a (tE X.K cls Φ Z a')) (hb : PE X b (tE X.K cls Φ Z b')) (hm : X.mg "min" = none) (hg : L2.Gl X "min" := by rfl) (he : starEach [a, b] X.env = (false, eval a X.env) :: starEach [b] X.env := by rfl) (he2 : starEach [b] X.env = (false, eval b X.env) :: starEach [] X.env := by rfl) (hpl : (backTo pos (starEach [b] X.env)).any (·.1) = false := by rfl) :
    PE X (.Call (.Name "min" p) [a, b] [] pos) (tE X.K cls Φ Z (.fn .min2 [a', b'])) :=
  PE.imp (pe_callB (call_min2B hc) hg hm (by decide +kernel) (s_cons ha (s_cons hb s_nil he2) he) (by decide) (by decide) he hpl) fun _ _ _ q => tE_opn (fun _ => by rw [ev]) q

/-! ### isinstance -/
def tyName : Ty → String
  | .int => "int" | .bool => "bool" | .str => "str" | .tuple => "tuple" | .list => "list" | .dict => "dict" | .nonT => "NoneType"
theorem tyOf_rel (R : Rp X.K as H h) {w : W} {v : V} {t : Ty} (rw : RW X.K as H w v) (e : tyOf h w = some t) : TyX X.K H v (.type (tyName t)) := by
  cases rw with
  | non => cases e; exact .base .non
  | bl b => cases e; exact .base (.bl _)
  | int b => cases e; exact .base (.int _)
  | str b => cases e; exact .base (.str _)
  | tup ha _ => cases e; exact .base (.tup ha)
  | @loc l a ha =>
    have e : (match h[l]? with | some (.lst _) => some Ty.list | _ => none) = some t := e
    split at e
    · cases e
      rename_i hl
      obtain ⟨_, vs, z, _, hp, rs⟩ := lst_at R (.loc ha) hl
      cases z
      exact .base (.lst hp)
    · cases e
  | scr _ => cases e
theorem kit_all (t u : Ty) : kitB (tyName t) (tyName u) = some (isTy t u) := by
  cases t <;> cases u <;> decide +kernel
theorem s_isi (u : Ty) {n : Str} (hn : n = (tyName u : Str)) (hv : bootBuiltins n = some (.type (tyName u))) (hn2 : n ≠ "__name__") (hd2 : (n == ("__debug__" : Str)) = false) (ha : PE X a (tE X.K cls Φ Z a')) (hm : X.mg "isinstance" = none) (hm2 : X.mg n = none) (hg : L2.Gl X "isinstance" := by rfl) (hg2 : L2.Gl X n := by rfl)
    (he : starEach [a, .Name n p2] X.env = (false, eval a X.env) :: starEach [.Name n p2] X.env := by rfl) (he2 : starEach [.Name n p2] X.env = (false, eval (.Name n p2) X.env) :: starEach [] X.env := by rfl) (hpl : (backTo pos (starEach [.Name n p2] X.env)).any (·.1) = false := by rfl) :
    PE X (.Call (.Name "isinstance" p) [a, .Name n p2] [] pos) (tE X.K cls Φ Z (.f1 (.isi u) a')) :=
  PE.imp (pe_callB call_isi hg hm (by decide +kernel) (pa_cons ha (pa_cons (pe_bltn (v := .ty (tyName u)) hg2 hm2 hv rfl hn2 hd2) pa_nil he2) he) (by decide) (by decide) he hpl) fun σ H Q q => by
    obtain ⟨as, h, ρ, r, h', R, S, e, A⟩ := q
    rw [ev] at e
    rcases bnd_inv e with ⟨w, h1, e1, e2⟩ | ⟨c, w, e1, rfl⟩
    · refine ⟨as, h, ρ, _, _, R, S, e1, fun as1 H1 v m1 R1 rw => ?_⟩
      have fin : ∀ (t : Value) (b : Bool), TyX X.K H1 v t → PySem.W.kitOne X.K t (.type (tyName u)) = some b → r = .ok (.bl b) → h' = h1 → rIsi X.K [v, .ty (tyName u)] H1 Q := by
        rintro t b ty k rfl rfl
        exact ⟨v, _, t, _, b, rfl, .ty _, ty, k, A _ _ _ m1 R1 (.bl _)⟩
      obtain ⟨t, ht, e2⟩ := Option.map_eq_some_iff.mp (show (tyOf h1 w).map (fun a => (Rs.ok (W.bl (isTy a u)), h1)) = some (r, h') from e2)
      cases e2
      exact fin _ _ (tyOf_rel R1 rw ht) (kit_ty (kit_all t u)) rfl rfl
    · exact ⟨as, h, ρ, _, _, R, S, e1, A⟩

/-! ### methods of lists -/
theorem tE_me {k : Kd} {f : Fn} {T : String} {r : V → List V → Hp → VK → Prop}
    (hk : ∀ as H h h' w v u, Rp X.K as H h → RW X.K as H w v → kind k w h = some (u, h') → u = .ok () ∧ h' = h ∧ tyV X.K T v H)
    (hr : ∀ as H h h' w v ws vs res Q, Rp X.K as H h → RW X.K as H w v → RWs X.K as H ws vs → opn f (w :: ws) h = some (res, h') → Aft X.K cls Z as H h' res Q → r v vs H Q)
    {σ : St} {H : Hp} {Q : VK} (q : tE X.K cls Φ Z (.me k f a' es') σ H Q) : tBM X.K T r (tE X.K cls Φ Z a') (tA X.K cls Φ Z es') σ H Q := by
  obtain ⟨as, h, ρ, res, h', R, S, e, A⟩ := q
  rw [ev] at e
  rcases bnd_inv e with ⟨w, h1, e1, e2⟩ | ⟨c, w, e1, rfl⟩
  · refine ⟨as, h, ρ, _, _, R, S, e1, fun as1 H1 v m1 R1 rw => ?_⟩
    rcases bnd_inv e2 with ⟨u, h2, e3, e4⟩ | ⟨c, w', e3, rfl⟩
    · obtain ⟨_, rfl, ty⟩ := hk _ _ _ _ _ _ _ R1 rw e3
      refine ⟨ty, ?_⟩
      rcases bnd_inv e4 with ⟨ws, h3, e5, e6⟩ | ⟨c, w', e5, rfl⟩
      · refine ⟨as1, _, ρ, _, _, R1, S.mono R m1, e5, fun as2 H2 vs m2 R2 rs => ?_⟩
        exact hr _ _ _ _ _ _ _ _ _ _ R2 (rw.mono R1 m2) rs e6 (A.mono (m1.trans m2))
      · exact ⟨as1, _, ρ, _, _, R1, S.mono R m1, e5, A.mono m1⟩
    · obtain ⟨e7, _, _⟩ := hk _ _ _ _ _ _ _ R1 rw e3
      cases e7
  · exact ⟨as, h, ρ, _, _, R, S, e1, A⟩
theorem tE_me0 {k : Kd} {f : Fn} {T : String} {r : V → List V → Hp → VK → Prop}
    (hk : ∀ as H h h' w v u, Rp X.K as H h → RW X.K as H w v → kind k w h = some (u, h') → u = .ok () ∧ h' = h ∧ tyV X.K T v H)
    (hr : ∀ as H h h' w v ws vs res Q, Rp X.K as H h → RW X.K as H w v → RWs X.K as H ws vs → opn f (w :: ws) h = some (res, h') → Aft X.K cls Z as H h' res Q → r v vs H Q)
    {σ : St} {H : Hp} {Q : VK} (q : tE X.K cls Φ Z (.me k f a' []) σ H Q) : tBM0 X.K T r (tE X.K cls Φ Z a') σ H Q := by
  obtain ⟨as, h, ρ, res, h', R, S, e, A⟩ := q
  rw [ev] at e
  rcases bnd_inv e with ⟨w, h1, e1, e2⟩ | ⟨c, w, e1, rfl⟩
  · refine ⟨as, h, ρ, _, _, R, S, e1, fun as1 H1 v m1 R1 rw => ?_⟩
    rcases bnd_inv e2 with ⟨u, h2, e3, e4⟩ | ⟨c, w', e3, rfl⟩
    · obtain ⟨_, rfl, ty⟩ := hk _ _ _ _ _ _ _ R1 rw e3
      refine ⟨ty, ?_⟩
      rw [evs] at e4
      exact hr _ _ _ _ _ _ _ _ _ _ R1 rw .nil e4 (A.mono m1)
    · obtain ⟨e7, _, _⟩ := hk _ _ _ _ _ _ _ R1 rw e3
      cases e7
  · exact ⟨as, h, ρ, _, _, R, S, e1, A⟩
theorem kind_list (as : List Addr) (H : Hp) (h h' : Store) (w : W) (v : V) (u : Rs Unit) (R : Rp X.K as H h) (rw : RW X.K as H w v) (e : kind .list w h = some (u, h')) : u = .ok () ∧ h' = h ∧ tyV X.K "list" v H := by
  cases w with
  | loc l =>
    have e : (match h[l]? with | some (.lst _) => some (Rs.ok (), h) | _ => none) = some (u, h') := e
    split at e
    · cases e
      rename_i hl
      obtain ⟨_, vs, rfl, _, hp, rs⟩ := lst_at R rw hl
      exact ⟨rfl, rfl, .inl ⟨rfl, _, SqL.of hp⟩⟩
    · cases e
  | _ => exact (stuck_no (h := h) e).elim
/-- a list is changed -/
theorem Aft.setL {l : Nat} {a : Addr} {ws' : List W} {vs' : List V} {r : W} {v : V} (A : Aft X.K cls Z as H (h.set l (.lst ws')) (.ok r) Q) (R : Rp X.K as H h) (ha : as[l]? = some a) (rs : RWs X.K as H ws' vs') (rv : RW X.K as H r v) : Q v (upd H a (.lst vs')) := by
  have m : Mono as H as (upd H a (.lst vs')) := Mono.at_ (List.mem_of_getElem? ha)
  exact A as _ _ m (R.set ha ⟨vs', upd_same, rs.mono R m⟩) (rv.mono R m)
theorem s_append {o e : Expr} {o' e' : Bi.E} (ho : PE X o (tE X.K cls Φ Z o')) (he : PE X e (tE X.K cls Φ Z e'))
    (hs : starEach [e] X.env = (false, eval e X.env) :: starEach [] X.env := by rfl)
    (hbase : attributeBase o "append" X.env (eval o X.env) = eval o X.env := by rfl)
    (hfew : ((backTo pos (starEach [e] X.env)).all (fun x => !x.1) && (backToKw pos (keywordEach [] X.env)).all (fun x => x.1.isSome)
      && decide (([e] : List Expr).length + ([] : List Keyword).length + (if ([] : List Keyword).isEmpty then 0 else 1) < 30)) = true := by rfl)
    (hline : (apos.endLine == pos.line) = true := by rfl) : PE X (.Call (.Attribute o "append" apos) [e] [] pos) (tE X.K cls Φ Z (.me .list .append o' [e'])) :=
  PE.imp (pe_bm PySem.F.plainAttrs_list PySem.F.slot_list_append PySem.F.type_list_append mt_append ho (s_cons he s_nil hs) hbase hfew hline hs rfl) fun σ H Q q => tE_me kind_list (fun as H h h' w v ws vs res Q R rw rs e A => by
    rcases ws with _ | ⟨w1, _ | ⟨w2, ws⟩⟩
    · cases w <;> exact (stuck_no (h := h) e).elim
    · cases w with
      | loc l =>
        have e : (match h[l]? with
          | some (.lst xs) => if xs.length < sizeLine then some (Rs.ok W.non, h.set l (.lst (xs ++ [w1]))) else none
          | _ => none) = some (res, h') := e
        split at e
        · rename_i xs hl
          split at e
          · rename_i hz
            cases e
            obtain ⟨a, us, rfl, ha, hp, r1⟩ := lst_at R rw hl
            cases rs with
            | cons r2 t =>
              cases t
              exact ⟨a, us, _, rfl, rfl, hp, by rw [← r1.length]; exact hz, A.setL R ha (r1.append (.cons r2 .nil)) .non⟩
          · cases e
        · cases e
      | _ => exact (stuck_no (h := h) e).elim
    · cases w <;> exact (stuck_no (h := h) e).elim) q
theorem s_extend {o e : Expr} {o' e' : Bi.E} (ho : PE X o (tE X.K cls Φ Z o')) (he : PE X e (tE X.K cls Φ Z e'))
    (hs : starEach [e] X.env = (false, eval e X.env) :: starEach [] X.env := by rfl)
    (hbase : attributeBase o "extend" X.env (eval o X.env) = eval o X.env := by rfl)
    (hfew : ((backTo pos (starEach [e] X.env)).all (fun x => !x.1) && (backToKw pos (keywordEach [] X.env)).all (fun x => x.1.isSome)
      && decide (([e] : List Expr).length + ([] : List Keyword).length + (if ([] : List Keyword).isEmpty then 0 else 1) < 30)) = true := by rfl)
    (hline : (apos.endLine == pos.line) = true := by rfl) : PE X (.Call (.Attribute o "extend" apos) [e] [] pos) (tE X.K cls Φ Z (.me .list .extend o' [e'])) :=
  PE.imp (pe_bm PySem.F.plainAttrs_list PySem.F.slot_list_extend PySem.F.type_list_extend mt_extend ho (s_cons he s_nil hs) hbase hfew hline hs rfl) fun σ H Q q => tE_me kind_list (fun as H h h' w v ws vs res Q R rw rs e A => by
    rcases ws with _ | ⟨w1, _ | ⟨w2, ws⟩⟩
    · cases w <;> exact (stuck_no (h := h) e).elim
    · cases w with
      | loc l =>
        cases w1 with
        | loc k =>
          have e : (match h[l]?, h[k]? with
            | some (.lst xs), some (.lst ys) => if xs.length + ys.length ≤ sizeLine then some (Rs.ok W.non, h.set l (.lst (xs ++ ys))) else none
            | _, _ => none) = some (res, h') := e
          split at e
          · rename_i xs ys hl hk
            split at e
            · rename_i hz
              cases e
              obtain ⟨a, us, rfl, ha, hp, r1⟩ := lst_at R rw hl
              cases rs with
              | cons r2 t =>
                cases t
                obtain ⟨b, us2, rfl, hb, hp2, r3⟩ := lst_at R r2 hk
                exact ⟨a, b, us, us2, rfl, rfl, hp, hp2, by rw [← r1.length, ← r3.length]; exact hz, A.setL R ha (r1.append r3) .non⟩
            · cases e
          · cases e
        | _ => exact (stuck_no (h := h) e).elim
      | _ => exact (stuck_no (h := h) e).elim
    · cases w <;> cases w1 <;> exact (stuck_no (h := h) e).elim) q
theorem RWs.dropLast {ws : List W} {vs : List V} (r : RWs X.K as H ws vs) : RWs X.K as H ws.dropLast vs.dropLast := by
  rw [List.dropLast_eq_take, List.dropLast_eq_take, r.length]
  exact r.take _
theorem s_pop {o : Expr} {o' : Bi.E} (ho : PE X o (tE X.K cls Φ Z o')) (hbase : attributeBase o "pop" X.env (eval o X.env) = eval o X.env := by rfl) (hline : (apos.endLine == pos.line) = true := by rfl) :
    PE X (.Call (.Attribute o "pop" apos) [] [] pos) (tE X.K cls Φ Z (.me .list .pop o' [])) :=
  PE.imp (pe_bm0 PySem.F.plainAttrs_list PySem.F.slot_list_pop PySem.F.type_list_pop mt_pop ho hbase hline) fun σ H Q q => tE_me0 kind_list (fun as H h h' w v ws vs res Q R rw rs e A => by
    rcases ws with _ | ⟨w1, ws⟩
    · cases w with
      | loc l =>
        have e : (match h[l]? with
          | some (.lst xs) => match xs[xs.length - 1]? with
            | some y => some (Rs.ok y, h.set l (.lst xs.dropLast))
            | none => none
          | _ => none) = some (res, h') := e
        split at e
        · rename_i xs hl
          split at e
          · rename_i y hy
            cases e
            obtain ⟨a, us, rfl, ha, hp, r1⟩ := lst_at R rw hl
            cases rs
            obtain ⟨z, hz, rz⟩ := r1.get hy
            exact ⟨a, us, z, rfl, rfl, hp, by rw [← r1.length]; exact hz, A.setL R ha r1.dropLast rz⟩
          · cases e
        · cases e
      | _ => exact (stuck_no (h := h) e).elim
    · cases w <;> exact (stuck_no (h := h) e).elim) q
theorem s_revL {e : Expr} {e' : Bi.E} {k : Nat} {p1 p2 p3 pos : Pos} (he : PE X e (tE X.K cls Φ Z e')) : PE X (.Subscript e (.Slice none none (some (.UnaryOp .USub (.Constant (.int 1) k p1) p2)) p3) pos) (tE X.K cls Φ Z (.f1 .rev e')) := PE.imp (pe_revL he) fun σ H Q q => by
  obtain ⟨as, h, ρ, r, h', R, S, e, A⟩ := q
  rw [ev] at e
  rcases bnd_inv e with ⟨w, h1, e1, e2⟩ | ⟨c, w, e1, rfl⟩
  · refine ⟨as, h, ρ, _, _, R, S, e1, fun as1 H1 v m1 R1 rw => ?_⟩
    cases w with
    | loc l =>
      obtain ⟨zs, hl, e2⟩ := Option.bind_eq_some_iff.mp (show (lstAt h1 l).bind (fun xs => alloc (.lst xs.reverse) h1) = some (r, h') from e2)
      obtain ⟨a, vs, rfl, hs, rs'⟩ := seq_lst R1 rw hl
      exact ⟨a, vs, rfl, hs, (A.mono m1).lst e2 R1 rs'.rev⟩
    | _ => exact (stuck_no (h := h1) e2).elim
  · exact ⟨as, h, ρ, _, _, R, S, e1, A⟩

/-! ### the call of a def -/
def spB (K : PySem.W.Frag) (cls : Nat → Option (Addr × Str)) (n : Nat) (g : List W → M W) : Sp := fun vs H Q Z =>
  ∃ as h ws r h', ws.length = n ∧ Rp K as H h ∧ RWs K as H ws vs ∧ g ws h = some (r, h') ∧ Aft K cls Z as H h' r Q
theorem s_call {CX : CXT} {k n : Nat} {f : Addr} {fd : FuncData} {ps : List Str} {i : Nat} (F : FnOk X.prog X.w X.K X.mg X.base CX k f fd ps (spB X.K cls n (Φ i))) (hr : Room k X.A) (hm : X.mg x = some (.ref f)) (hk : PySem.W.keepIn X.K (.ref f) = true) (hb : Binds X.K fd ps []) (hx : Passes CX X Z)
    (hl : (e' :: es').length = n) (ha : PA X (e :: es) (tA X.K cls Φ Z (e' :: es'))) (hg : L2.Gl X x := by rfl) (hdb : (x == ("__debug__" : Str)) = false := by decide) (he : starEach (e :: es) X.env = (false, eval e X.env) :: starEach es X.env := by rfl) (hpl : (backTo pos (starEach es X.env)).any (·.1) = false := by rfl) :
    PE X (.Call (.Name x p) (e :: es) [] pos) (tE X.K cls Φ Z (.call i (e' :: es'))) := PE.imp (pe_call F hr hg hm hk hb .nil hx ha hdb he hpl) fun σ H Q q => by
  obtain ⟨as, h, ρ, r, h', R, S, e, A⟩ := q
  rw [ev] at e
  rcases bnd_inv e with ⟨ws, h1, e1, e2⟩ | ⟨c, w, e1, rfl⟩
  · refine ⟨as, h, ρ, _, _, R, S, e1, fun as1 H1 vs m1 R1 rs => ?_⟩
    have hlen : ws.length = n := by
      have key : ∀ (es : List Bi.E) (ρ : Env) (h : Store) (ws : List W) (h1 : Store), evs Φ es ρ h = some (.ok ws, h1) → ws.length = es.length := by
        intro es
        induction es with
        | nil => intro ρ h ws h1 e; rw [evs] at e; cases e; rfl
        | cons a bs ih =>
          intro ρ h ws h1 e
          rw [evs] at e
          rcases bnd_inv e with ⟨w, h2, e3, e4⟩ | ⟨c, w, e3, z⟩
          · rcases bnd_inv e4 with ⟨us, h3, e5, e6⟩ | ⟨c, w, e5, z⟩
            · cases e6
              rw [List.length_cons, List.length_cons, ih _ _ _ _ e5]
            · cases z
          · cases z
      rw [key _ _ _ _ _ e1, hl]
    show spB X.K cls n (Φ i) (vs ++ []) H1 Q Z
    rw [List.append_nil]
    exact ⟨as1, h1, ws, r, h', hlen, R1, rs, e2, A.mono m1⟩
  · exact ⟨as, h, ρ, _, _, R, S, e1, A⟩
end
end Bi
set_option maxHeartbeats 1000000
namespace Bi
open PySem L2
section
variable {X : Cx} {cls : Nat → Option (Addr × Str)} {Φ : Ora} {Z : XK} {as : List Addr} {H : Hp} {h h' : Store} {Q : VK}
variable {a b e t : Expr} {a' b' e' t' : Bi.E} {es : List Expr} {es' : List Bi.E} {pos p p2 apos : Pos} {rest : List Expr} {x : Str}

/-! ### dicts -/
theorem keyW_rel {w : W} {v : V} {q : Key} (r : RW X.K as H w v) (e : keyW w = some q) : v = kV q := by
  cases r with
  | int i => cases e; rfl
  | str s => cases e; rfl
  | _ => cases e
theorem keysW_rel : ∀ {ws : List W} {vs : List V} {q : List Key}, RWs X.K as H ws vs → keysW ws = some q → vs = q.map kV
  | _, _, _, .nil, e => by cases e; rfl
  | w :: ws, _, _, .cons r t, e => by
    obtain ⟨k, e1, e2⟩ := Option.bind_eq_some_iff.mp (show ((keyW w).bind fun k => (keysW ws).map fun ks => k :: ks) = some _ from e)
    obtain ⟨ks, e3, e4⟩ := Option.map_eq_some_iff.mp e2
    subst e4
    rw [keyW_rel r e1, keysW_rel t e3]; rfl
theorem getA_rel {κ : Type} [DecidableEq κ] {kvs : List (κ × W)} {ps : List (κ × V)} (r : RKV X.K as H kvs ps) (k : κ) : (getA kvs k = none ∧ valV ps k = none) ∨ ∃ w v, getA kvs k = some w ∧ valV ps k = some v ∧ RW X.K as H w v := by
  induction r with
  | nil => exact .inl ⟨rfl, rfl⟩
  | @cons p q ps qs hpq t ih =>
    by_cases e : p.1 = k
    · refine .inr ⟨p.2, q.2, ?_, valV_pos (hpq.1 ▸ e), hpq.2⟩
      unfold getA
      simp [List.find?_cons, e]
    · have e2 : ¬ q.1 = k := fun z => e (hpq.1.trans z)
      rw [valV_neg e2]
      have e3 : getA (p :: ps) k = getA ps k := by
        unfold getA
        simp [List.find?_cons, e]
      rw [e3]
      exact ih
theorem putA_any {κ : Type} [DecidableEq κ] {kvs : List (κ × W)} {ps : List (κ × V)} (r : RKV X.K as H kvs ps) (k : κ) : (kvs.any fun kv => decide (kv.1 = k)) = (ps.any fun kv => decide (kv.1 = k)) := by
  induction r with
  | nil => rfl
  | @cons p q ps qs hpq t ih => rw [List.any_cons, List.any_cons, ih, hpq.1]
theorem RKV.mapPut {κ : Type} [DecidableEq κ] {kvs : List (κ × W)} {ps : List (κ × V)} {w : W} {v : V} (r : RKV X.K as H kvs ps) (k : κ) (rw' : RW X.K as H w v) :
    RKV X.K as H (kvs.map fun kv => if kv.1 = k then (kv.1, w) else kv) (ps.map fun kv => if kv.1 = k then (kv.1, v) else kv) := by
  induction r with
  | nil => exact .nil
  | @cons p q ps qs hpq t ih =>
    rw [List.map_cons, List.map_cons]
    refine .cons ?_ ih
    show _ = _ ∧ _
    by_cases e : p.1 = k
    · rw [if_pos e, if_pos (hpq.1 ▸ e)]; exact ⟨hpq.1, rw'⟩
    · rw [if_neg e, if_neg (fun z => e (hpq.1.trans z))]; exact ⟨hpq.1, hpq.2⟩
theorem RKV.snoc {κ : Type} {kvs : List (κ × W)} {ps : List (κ × V)} {w : W} {v : V} (r : RKV X.K as H kvs ps) (k : κ) (rw' : RW X.K as H w v) :
    RKV X.K as H (kvs ++ [(k, w)]) (ps ++ [(k, v)]) := by
  induction r with
  | nil => exact .cons ⟨rfl, rw'⟩ .nil
  | @cons p q ps qs hpq t ih => exact .cons hpq ih
theorem putA_rel {κ : Type} [DecidableEq κ] {kvs : List (κ × W)} {ps : List (κ × V)} {w : W} {v : V} (r : RKV X.K as H kvs ps) (k : κ) (rw' : RW X.K as H w v) : RKV X.K as H (putA kvs k w) (putK ps k v) := by
  unfold putA putK
  rw [putA_any r k]
  split
  · exact RKV.mapPut r k rw'
  · exact RKV.snoc r k rw'
theorem RKV.length {κ : Type} {kvs : List (κ × W)} {ps : List (κ × V)} (r : RKV X.K as H kvs ps) : kvs.length = ps.length := Paired.length r
theorem dget_rel {a : Addr} {o : O} {k : W} {y : V} {t : Option W} (ro : RO X.K as H a o) (rk : RW X.K as H k y) (e : dget o k = some t) :
    (t = none ∧ DGet H a y none) ∨ ∃ w v, t = some w ∧ DGet H a y (some v) ∧ RW X.K as H w v := by
  cases o with
  | lst _ => cases e
  | ins _ _ => cases e
  | dk kvs =>
    obtain ⟨ps, ha, rp⟩ := ro
    obtain ⟨q, e1, e2⟩ := Option.map_eq_some_iff.mp (show (keyW k).map (fun q => getA kvs q) = some t from e)
    rw [keyW_rel rk e1]
    rcases getA_rel rp q with ⟨g1, g2⟩ | ⟨w, v, g1, g2, rv⟩
    · exact .inl ⟨e2.symm.trans g1, g2 ▸ DGet.k ha⟩
    · exact .inr ⟨w, v, e2.symm.trans g1, g2 ▸ DGet.k ha, rv⟩
  | dt kvs =>
    obtain ⟨ps, ha, rp⟩ := ro
    cases rk with
    | @tup b ks vs hb rs =>
      obtain ⟨q, e1, e2⟩ := Option.map_eq_some_iff.mp (show (keysW ks).map (fun q => getA kvs q) = some t from e)
      have hb' : H b = some (.tup (q.map kV)) := by rw [← keysW_rel rs e1]; exact hb
      rcases getA_rel rp q with ⟨g1, g2⟩ | ⟨w, v, g1, g2, rv⟩
      · exact .inl ⟨e2.symm.trans g1, g2 ▸ DGet.t ha hb'⟩
      · exact .inr ⟨w, v, e2.symm.trans g1, g2 ▸ DGet.t ha hb', rv⟩
    | _ => cases e
theorem dput_rel {a : Addr} {o o' : O} {k w : W} {y v : V} {l : Nat} (R : Rp X.K as H h) (hl : h[l]? = some o) (ha : as[l]? = some a) (rk : RW X.K as H k y) (rv : RW X.K as H w v) (e : dput o k w = some o') :
    ∃ H', DPut H a y v H' ∧ Mono as H as H' ∧ Rp X.K as H' (h.set l o') := by
  have ro := R.obj _ _ _ hl ha
  cases o with
  | lst _ => cases e
  | ins _ _ => cases e
  | dk kvs =>
    obtain ⟨ps, hp, rp⟩ := ro
    obtain ⟨q, e1, e2⟩ := Option.bind_eq_some_iff.mp (show ((keyW k).bind fun q => if kvs.length < sizeLine then some (O.dk (putA kvs q w)) else none) = some o' from e)
    split at e2
    · rename_i hz
      cases e2
      have m : Mono as H as (upd H a (.dK (putK ps q v))) := Mono.at_ (List.mem_of_getElem? ha)
      refine ⟨_, ?_, m, R.set ha ⟨_, upd_same, RKV.mono R m (putA_rel rp q rv)⟩⟩
      rw [keyW_rel rk e1]
      exact DPut.k hp (by rw [← RKV.length rp]; exact hz)
    · cases e2
  | dt kvs =>
    obtain ⟨ps, hp, rp⟩ := ro
    cases rk with
    | @tup b ks vs hb rs =>
      obtain ⟨q, e1, e2⟩ := Option.bind_eq_some_iff.mp (show ((keysW ks).bind fun q => if kvs.length < sizeLine then some (O.dt (putA kvs q w)) else none) = some o' from e)
      split at e2
      · rename_i hz
        cases e2
        have m : Mono as H as (upd H a (.dT (putK ps q v))) := Mono.at_ (List.mem_of_getElem? ha)
        refine ⟨_, DPut.t hp ?_ (by rw [← RKV.length rp]; exact hz), m, R.set ha ⟨_, upd_same, RKV.mono R m (putA_rel rp q rv)⟩⟩
        rw [← keysW_rel rs e1]; exact hb
      · cases e2
    | _ => cases e
theorem s_dix {o i : Expr} {o' i' : Bi.E} (hu : X.A.units + 65 < cLine) (ho : PE X o (tE X.K cls Φ Z o')) (hi : PE X i (tE X.K cls Φ Z i')) (hs : NoSl i) : PE X (.Subscript o i pos) (tE X.K cls Φ Z (.b2 .dix o' i')) := PE.imp (pe_dget (by omega) ho hi hs) fun σ H Q q => by
  have q := tE_op2 (a := o') (b := i') (g := op2 .dix) (fun _ => by rw [ev]) q
  obtain ⟨as, h, ρ, r, h', R, S, e, A⟩ := q
  refine ⟨as, h, ρ, r, h', R, S, e, ?_⟩
  cases r with
  | ex c w => exact A
  | ok w0 =>
    intro as1 H1 x m1 R1 rx
    obtain ⟨as2, h2, ρ2, r2, h3, R2, S2, e2, A2⟩ := A as1 H1 x m1 R1 rx
    refine ⟨as2, h2, ρ2, r2, h3, R2, S2, e2, ?_⟩
    cases r2 with
    | ex c w => exact A2
    | ok w1 =>
      intro as3 H3 y m3 R3 ry
      obtain ⟨as4, h4, wa, wb, r, h', R4, ra, rb, e, A4⟩ := A2 as3 H3 y m3 R3 ry
      cases wa with
      | loc l =>
        have e : (match h4[l]?.bind fun o => dget o wb with
          | some (some w) => some (Rs.ok w, h4)
          | _ => none) = some (r, h') := e
        split at e
        · rename_i w hw
          cases e
          obtain ⟨ob, hl, e⟩ := Option.bind_eq_some_iff.mp hw
          obtain ⟨a, rfl, ha, ro⟩ := R4.at_ ra hl
          rcases dget_rel ro rb e with ⟨z, _⟩ | ⟨w', v', z, g, rv⟩
          · cases z
          · cases z
            exact ⟨a, v', rfl, g, A4.val R4 rv⟩
        · cases e
      | _ => exact (stuck_no (h := h4) e).elim
theorem s_din {o i : Expr} {o' i' : Bi.E} (hu : X.A.units + 65 < cLine) (hi : PE X i (tE X.K cls Φ Z i')) (ho : PE X o (tE X.K cls Φ Z o')) (h1 : behindInMarks .In o = false := by rfl) : PE X (.Compare i [.In] [o] pos) (tE X.K cls Φ Z (.b2 .din i' o')) := PE.imp (pe_cmp (pc_din (by omega) hi ho) h1) fun σ H Q q => by
  have q := tE_op2 (a := i') (b := o') (g := op2 .din) (fun _ => by rw [ev]) q
  obtain ⟨as, h, ρ, r, h', R, S, e, A⟩ := q
  refine ⟨as, h, ρ, r, h', R, S, e, ?_⟩
  cases r with
  | ex c w => exact A
  | ok w0 =>
    intro as1 H1 x m1 R1 rx
    obtain ⟨as2, h2, ρ2, r2, h3, R2, S2, e2, A2⟩ := A as1 H1 x m1 R1 rx
    refine ⟨as2, h2, ρ2, r2, h3, R2, S2, e2, ?_⟩
    cases r2 with
    | ex c w => exact A2
    | ok w1 =>
      intro as3 H3 y m3 R3 ry
      obtain ⟨as4, h4, wa, wb, r, h', R4, ra, rb, e, A4⟩ := A2 as3 H3 y m3 R3 ry
      cases wb with
      | loc l =>
        obtain ⟨t, ht, e⟩ := Option.map_eq_some_iff.mp (show ((h4[l]?.bind fun o => dget o wa).map fun t => (Rs.ok (W.bl t.isSome), h4)) = some (r, h') from by cases wa <;> exact e)
        cases e
        obtain ⟨ob, hl, e⟩ := Option.bind_eq_some_iff.mp ht
        obtain ⟨a, rfl, ha, ro⟩ := R4.at_ rb hl
        rcases dget_rel ro ra e with ⟨rfl, g⟩ | ⟨w', v', rfl, g, rv⟩
        · exact ⟨a, none, rfl, g, A4.val R4 (.bl _)⟩
        · exact ⟨a, some v', rfl, g, A4.val R4 (.bl _)⟩
      | _ => cases wa <;> exact (stuck_no (h := h4) e).elim
theorem s_dnin {o i : Expr} {o' i' : Bi.E} (hu : X.A.units + 65 < cLine) (hi : PE X i (tE X.K cls Φ Z i')) (ho : PE X o (tE X.K cls Φ Z o')) (h1 : behindInMarks .NotIn o = false := by rfl) : PE X (.Compare i [.NotIn] [o] pos) (tE X.K cls Φ Z (.b2 .dnin i' o')) := PE.imp (pe_cmp (pc_dnotin (by omega) hi ho) h1) fun σ H Q q => by
  have q := tE_op2 (a := i') (b := o') (g := op2 .dnin) (fun _ => by rw [ev]) q
  obtain ⟨as, h, ρ, r, h', R, S, e, A⟩ := q
  refine ⟨as, h, ρ, r, h', R, S, e, ?_⟩
  cases r with
  | ex c w => exact A
  | ok w0 =>
    intro as1 H1 x m1 R1 rx
    obtain ⟨as2, h2, ρ2, r2, h3, R2, S2, e2, A2⟩ := A as1 H1 x m1 R1 rx
    refine ⟨as2, h2, ρ2, r2, h3, R2, S2, e2, ?_⟩
    cases r2 with
    | ex c w => exact A2
    | ok w1 =>
      intro as3 H3 y m3 R3 ry
      obtain ⟨as4, h4, wa, wb, r, h', R4, ra, rb, e, A4⟩ := A2 as3 H3 y m3 R3 ry
      cases wb with
      | loc l =>
        obtain ⟨t, ht, e⟩ := Option.map_eq_some_iff.mp (show ((h4[l]?.bind fun o => dget o wa).map fun t => (Rs.ok (W.bl (!t.isSome)), h4)) = some (r, h') from by cases wa <;> exact e)
        cases e
        obtain ⟨ob, hl, e⟩ := Option.bind_eq_some_iff.mp ht
        obtain ⟨a, rfl, ha, ro⟩ := R4.at_ rb hl
        rcases dget_rel ro ra e with ⟨rfl, g⟩ | ⟨w', v', rfl, g, rv⟩
        · exact ⟨a, none, rfl, g, A4.val R4 (.bl _)⟩
        · exact ⟨a, some v', rfl, g, A4.val R4 (.bl _)⟩
      | _ => cases wa <;> exact (stuck_no (h := h4) e).elim
end
end Bi
set_option maxHeartbeats 1000000
namespace Bi
open PySem L2

/-! ### targets -/
mutual
def T.slots : T → List Nat
  | .nm i => [i]
  | .tp ts => slotsL ts
def slotsL : List T → List Nat
  | [] => []
  | t :: ts => t.slots ++ slotsL ts
end
theorem wipe_set {σ : St} {i : Nat} {x : Option V} : ∀ {vs : List Nat}, L2.wipe (σ.set i x) vs = if i ∈ vs then L2.wipe σ vs else (L2.wipe σ vs).set i x
  | [] => by simp [L2.wipe]
  | v :: vs => by
    have ih := wipe_set (σ := σ) (i := i) (x := x) (vs := vs)
    show (L2.wipe (σ.set i x) vs).set v none = if i ∈ v :: vs then (L2.wipe σ vs).set v none else ((L2.wipe σ vs).set v none).set i x
    rw [ih]
    by_cases h : i ∈ vs
    · rw [if_pos h, if_pos (List.mem_cons_of_mem _ h)]
    · rw [if_neg h]
      by_cases e : i = v
      · subst e
        rw [if_pos List.mem_cons_self, List.set_set]
      · rw [if_neg (by simp [e, h]), List.set_comm _ _ (fun z => e z)]
/-- off some slots two states are the same -/
def Off (vs : List Nat) (σ σ' : St) : Prop := ∀ us : List Nat, (∀ i ∈ vs, i ∈ us) → L2.wipe σ' us = L2.wipe σ us
theorem Off.refl {vs : List Nat} {σ : St} : Off vs σ σ := fun _ _ => rfl
theorem Off.set {σ : St} {i : Nat} {x : Option V} : Off [i] σ (σ.set i x) := fun us h => by
  rw [wipe_set, if_pos (h i List.mem_cons_self)]
theorem Off.trans {a b : List Nat} {σ σ1 σ2 : St} (h1 : Off a σ σ1) (h2 : Off b σ1 σ2) : Off (a ++ b) σ σ2 := fun us h =>
  (h2 us fun i hi => h i (List.mem_append_right _ hi)).trans (h1 us fun i hi => h i (List.mem_append_left _ hi))

section
variable {X : Cx} {cls : Nat → Option (Addr × Str)} {Φ : Ora} {Z : XK} {as : List Addr} {H : Hp} {h h' : Store} {Q : VK}
def tG (K : PySem.W.Frag) (t : T) : TG := fun v σ H Q => ∃ as h w ρ ρ', Rp K as H h ∧ RW K as H w v ∧ RS K as H ρ σ ∧ setT t w ρ = some ρ' ∧ ∀ σ', RS K as H ρ' σ' → Off t.slots σ σ' → Q σ' H
def tGs (K : PySem.W.Frag) (ts : List T) : TGs := fun vs σ H Q => ∃ as h ws ρ ρ', Rp K as H h ∧ RWs K as H ws vs ∧ RS K as H ρ σ ∧ setT.setTs ts ws ρ = some ρ' ∧ ∀ σ', RS K as H ρ' σ' → Off (slotsL ts) σ σ' → Q σ' H
theorem PG.imp {tg : Expr} {t t' : TG} (h : PG X tg t) (hi : ∀ v σ H Q, t' v σ H Q → t v σ H Q) : PG X tg t' := ⟨fun pins s σ H v u Q I r q => h.run pins s σ H v u Q I r (hi v σ H Q q)⟩
theorem PGs.imp {tg : List Expr} {t t' : TGs} (h : PGs X tg t) (hi : ∀ v σ H Q, t' v σ H Q → t v σ H Q) : PGs X tg t' := ⟨fun pins s σ H v u Q I r q => h.run pins s σ H v u Q I r (hi v σ H Q q)⟩
theorem g_nm {i : Nat} {x : Str} {pos : Pos} (hN : X.N.Nodup) (hi : X.N[i]? = some x) (hx : Loc X.env.scope x) (hf : X.fn x = true ∨ X.env.scope.names.lookup x = some .local := by first | exact .inl rfl | exact .inr rfl | assumption) : PG X (.Name x pos) (tG X.K (.nm i)) :=
  PG.imp (pg_name hN hi hx hf) fun v σ H Q q => by
    obtain ⟨as, h, w, ρ, ρ', R, rw, S, e, k⟩ := q
    have e : some (ρ.set i (some w)) = some ρ' := e
    cases e
    exact k _ (S.set i rw) (fun us hu => Off.set us fun j hj => hu j (by unfold T.slots; exact hj))
theorem gs_nil : PGs X [] (tGs X.K []) := PGs.imp pgs_nil fun vs σ H Q q => by
  obtain ⟨as, h, ws, ρ, ρ', R, rw, S, e, k⟩ := q
  cases ws with
  | nil => cases e; cases rw; exact ⟨rfl, k σ S .refl⟩
  | cons _ _ => cases e
theorem gs_cons {a : Expr} {bs : List Expr} {t : T} {ts : List T} (h1 : PG X a (tG X.K t)) (h2 : PGs X bs (tGs X.K ts)) (hs : (assignEach (a :: bs) X.env).map (·.2) = assign a X.env :: (assignEach bs X.env).map (·.2) := by rfl) : PGs X (a :: bs) (tGs X.K (t :: ts)) :=
  PGs.imp (pgs_cons h1 h2 hs) fun vs σ H Q q => by
    obtain ⟨as, h, ws, ρ, ρ', R, rw, S, e, k⟩ := q
    cases ws with
    | nil => cases e
    | cons w ws =>
      cases rw with
      | cons r1 rs =>
        obtain ⟨ρ1, e1, e2⟩ := Option.bind_eq_some_iff.mp (show (setT t w ρ).bind (fun ρ => setT.setTs ts ws ρ) = some ρ' from e)
        refine ⟨_, _, rfl, as, h, w, ρ, ρ1, R, r1, S, e1, fun σ1 S1 o1 => ?_⟩
        refine ⟨as, h, ws, ρ1, ρ', R, rs, S1, e2, fun σ2 S2 o2 => k σ2 S2 ?_⟩
        have o := o1.trans o2
        exact fun us hu => o us fun j hj => hu j (by unfold slotsL; exact hj)
theorem g_tp {es : List Expr} {k : Nat} {ts : List T} {n : Nat} {pos : Pos} (hc : X.calm = true) (h : PGs X es (tGs X.K ts)) (hlen : ts.length = n) (hn : (assignEach es X.env).length = n := by rfl) (hst : (assignEach es X.env).findIdx? (·.1) = none := by rfl) : PG X (.Tuple es k pos) (tG X.K (.tp ts)) :=
  PG.imp (pg_tup hc h hn hst) fun v σ H Q q => by
    obtain ⟨as, h, w, ρ, ρ', R, rw, S, e, k⟩ := q
    cases w with
    | tup ws =>
      cases rw with
      | tup ha rs =>
        have e : setT.setTs ts ws ρ = some ρ' := e
        have hl : ∀ (ts : List T) (ws : List W) (ρ ρ' : Env), setT.setTs ts ws ρ = some ρ' → ts.length = ws.length := by
          intro ts
          induction ts with
          | nil => intro ws ρ ρ' e; cases ws with
            | nil => rfl
            | cons _ _ => cases e
          | cons t ts ih => intro ws ρ ρ' e; cases ws with
            | nil => cases e
            | cons w ws =>
              obtain ⟨ρ1, e1, e2⟩ := Option.bind_eq_some_iff.mp (show (setT t w ρ).bind (fun ρ => setT.setTs ts ws ρ) = some ρ' from e)
              rw [List.length_cons, List.length_cons, ih _ _ _ e2]
        refine ⟨_, _, rfl, SqT.of ha, by rw [← rs.length, ← hl _ _ _ _ e, hlen], as, h, ws, ρ, ρ', R, rs, S, e, fun σ' S' o => k σ' S' ?_⟩
        exact fun us hu => o us fun j hj => hu j (by unfold T.slots; exact hj)
    | _ => cases e

/-! ### what is walked -/
structure JRel (K : PySem.W.Frag) (as0 : List Addr) (H0 : Hp) (J : It) (its : List W) (c : Option (Nat × List W)) : Prop where
  go : ∀ as H h i, Mono as0 H0 as H → Rp K as H h → stands c h → i < its.length → J.go i H
  stop : ∀ as H h, Mono as0 H0 as H → Rp K as H h → stands c h → J.stop its.length H
  yld : ∀ as H h i x H' w, Mono as0 H0 as H → Rp K as H h → stands c h → its[i]? = some w → J.yld i H x H' → Mono as H as H' ∧ Rp K as H' h ∧ RW K as H' w x
def AftI (K : PySem.W.Frag) (cls : Nat → Option (Addr × Str)) (Z : XK) (as : List Addr) (H : Hp) (h' : Store) (r : Rs (List W × Option (Nat × List W))) (Q : It → Hp → Prop) : Prop := match r with
  | .ok p => ∀ as' H' J, Mono as H as' H' → Rp K as' H' h' → stands p.2 h' → JRel K as' H' J p.1 p.2 → Q J H'
  | .ex c w => ∀ as' H' C f d v, Mono as H as' H' → Rp K as' H' h' → cls c = some (C, f) → H' d = some (.xd [(f, v)]) → RW K as' H' w v → Z (.ref C) (some d) H'
def tI (K : PySem.W.Frag) (cls : Nat → Option (Addr × Str)) (Φ : Ora) (Z : XK) (k : IK) (src : List E) : TI := fun σ H Q =>
  ∃ as h ρ r h', Rp K as H h ∧ RS K as H ρ σ ∧ bnd (evs Φ src ρ) (items k) h = some (r, h') ∧ AftI K cls Z as H h' r Q
theorem evs1 {a : E} {ρ : Env} {ws : List W} {h1 : Store} (e : evs Φ [a] ρ h = some (.ok ws, h1)) : ∃ w, ws = [w] ∧ ev Φ a ρ h = some (.ok w, h1) := by
  rw [evs] at e
  rcases bnd_inv e with ⟨w, h2, e3, e4⟩ | ⟨c, w, e3, z⟩
  · rw [evs] at e4
    cases e4
    exact ⟨w, rfl, e3⟩
  · cases z
theorem evs1x {a : E} {ρ : Env} {c : Nat} {w : W} (e : evs Φ [a] ρ h = some (.ex c w, h')) : ev Φ a ρ h = some (.ex c w, h') := by
  rw [evs] at e
  rcases bnd_inv e with ⟨w, h2, e3, e4⟩ | ⟨c, w, e3, z⟩
  · rw [evs] at e4
    cases e4
  · cases z; exact e3
theorem jrel_list {as0 : List Addr} {H0 : Hp} {l : Nat} {a : Addr} {xs : List W} (ha : as0[l]? = some a) : JRel X.K as0 H0 (Itl X.K a) xs (some (l, xs)) := by
  have get : ∀ as H h, Mono as0 H0 as H → Rp X.K as H h → stands (some (l, xs)) h → ∃ vs, H a = some (.lst vs) ∧ RWs X.K as H xs vs := by
    intro as H h m R st
    obtain ⟨b, vs, e, _, hp, rs⟩ := lst_at R (.loc (pre_get m.ext ha)) st
    cases e
    exact ⟨vs, hp, rs⟩
  refine ⟨fun as H h i m R st hi => ?_, fun as H h m R st => ?_, fun as H h i x H' w m R st hi y => ?_⟩
  · obtain ⟨vs, hp, rs⟩ := get as H h m R st
    obtain ⟨v, hv, _⟩ := rs.get (List.getElem?_eq_getElem hi)
    exact ⟨vs, v, SqL.of hp, hv⟩
  · obtain ⟨vs, hp, rs⟩ := get as H h m R st
    exact ⟨vs, SqL.of hp, by rw [rs.length]; exact Nat.le_refl _⟩
  · obtain ⟨vs, hp, rs⟩ := get as H h m R st
    obtain ⟨rfl, hx⟩ := y
    obtain ⟨v, hv, rv⟩ := rs.get hi
    have := hx vs (SqL.of hp)
    rw [hv] at this; cases this
    exact ⟨.refl, R, rv⟩
theorem jrel_tup {as0 : List Addr} {H0 : Hp} {h0 : Store} {a : Addr} {ws : List W} {vs : List V} (R0 : Rp X.K as0 H0 h0) (ha : H0 a = some (.tup vs)) (rs : RWs X.K as0 H0 ws vs) : JRel X.K as0 H0 (Itt X.K a) ws none := by
  have get : ∀ as H, Mono as0 H0 as H → H a = some (.tup vs) := fun as H m => (m.fr _ _ ha (R0.tup_out ha)).1
  refine ⟨fun as H h i m R st hi => ?_, fun as H h m R st => ?_, fun as H h i x H' w m R st hi y => ?_⟩
  · obtain ⟨v, hv, _⟩ := rs.get (List.getElem?_eq_getElem hi)
    exact ⟨vs, v, SqT.of (get as H m), hv⟩
  · exact ⟨vs, SqT.of (get as H m), by rw [rs.length]; exact Nat.le_refl _⟩
  · obtain ⟨rfl, hx⟩ := y
    obtain ⟨v, hv, rv⟩ := rs.get hi
    have := hx vs (SqT.of (get as _ m))
    rw [hv] at this; cases this
    exact ⟨.refl, R, rv.mono R0 m⟩
theorem jrel_scr {as0 : List Addr} {H0 : Hp} {h0 : Store} {a : Addr} {ns : List Int} (R0 : Rp X.K as0 H0 h0) (q : RW X.K as0 H0 (.scr ns) (.ref a)) : JRel X.K as0 H0 (Itl X.K a) (ns.map W.int) none := by
  have get : ∀ as H, Mono as0 H0 as H → SqL X.K H a (ns.map V.int) := fun as H m => scr_sq (as := as) (q.mono R0 m)
  refine ⟨fun as H h i m R st hi => ?_, fun as H h m R st => ?_, fun as H h i x H' w m R st hi y => ?_⟩
  · rw [List.length_map] at hi
    exact ⟨_, .int ns[i], get as H m, by simp [hi]⟩
  · exact ⟨_, get as H m, by simp⟩
  · obtain ⟨rfl, hx⟩ := y
    have := hx _ (get as _ m)
    rw [List.getElem?_map] at this hi
    cases q : ns[i]? with
    | none => rw [q] at hi; cases hi
    | some z => rw [q] at this hi; cases this; cases hi; exact ⟨.refl, R, .int z⟩
theorem jrel_str {as0 : List Addr} {H0 : Hp} {z : Str} : JRel X.K as0 H0 (Its z) (chars z) none := by
  have hl : (chars z).length = z.cps.size := by unfold chars; simp
  refine ⟨fun as H h i m R st hi => ?_, fun as H h m R st => ?_, fun as H h i x H' w m R st hi y => ?_⟩
  · show i < z.cps.size
    omega
  · show z.cps.size ≤ _
    omega
  · obtain ⟨rfl, c, hc, rfl⟩ := y
    unfold chars at hi
    rw [List.getElem?_map, Array.getElem?_toList, hc] at hi
    cases hi
    exact ⟨.refl, R, .str _⟩
theorem i_sq {tg e : Expr} {e' : E} (he : PE X e (tE X.K cls Φ Z e')) : PI X tg e (tI X.K cls Φ Z .sq [e']) := ⟨fun pins s σ H Q I q => by
  obtain ⟨as, h, ρ, r, h', R, S, e, A⟩ := q
  rcases bnd_inv e with ⟨ws, h1, e1, e2⟩ | ⟨c, w, e1, rfl⟩
  · obtain ⟨w, rfl, e3⟩ := evs1 e1
    cases w with
    | loc l =>
      refine (pi_list he).run pins s σ H Q I ⟨as, h, ρ, _, _, R, S, e3, fun as1 H1 v m1 R1 rw => ?_⟩
      obtain ⟨xs, hl, e2⟩ := Option.map_eq_some_iff.mp (show (lstAt h1 l).map (fun xs => (Rs.ok (xs, some (l, xs)), h1)) = some (r, h') from e2)
      cases e2
      obtain ⟨a, vs, rfl, ha, hp, rs⟩ := lst_at R1 rw (lstAt_some hl)
      exact ⟨a, rfl, ⟨vs, SqL.of hp⟩, A as1 H1 _ m1 R1 (lstAt_some hl) (jrel_list ha)⟩
    | tup ws =>
      obtain ⟨rfl, rfl⟩ := ret_inv (show Bi.ret (ws, none) h1 = some (r, h') from e2)
      refine (pi_tup he).run pins s σ H Q I ⟨as, h, ρ, _, _, R, S, e3, fun as1 H1 v m1 R1 rw => ?_⟩
      cases rw with
      | tup ha rs => exact ⟨_, rfl, ⟨_, SqT.of ha⟩, A as1 H1 _ m1 R1 True.intro (jrel_tup R1 ha rs)⟩
    | str z =>
      obtain ⟨rfl, rfl⟩ := ret_inv (show Bi.ret (chars z, none) h1 = some (r, h') from e2)
      refine (pi_str he).run pins s σ H Q I ⟨as, h, ρ, _, _, R, S, e3, fun as1 H1 v m1 R1 rw => ?_⟩
      cases rw
      exact ⟨z, rfl, A as1 H1 _ m1 R1 True.intro jrel_str⟩
    | scr ns =>
      obtain ⟨rfl, rfl⟩ := ret_inv (show Bi.ret (ns.map W.int, none) h1 = some (r, h') from e2)
      refine (pi_list he).run pins s σ H Q I ⟨as, h, ρ, _, _, R, S, e3, fun as1 H1 v m1 R1 rw => ?_⟩
      cases rw with
      | scr q => exact ⟨_, rfl, ⟨_, scr_sq (as := as1) (.scr q)⟩, A as1 H1 _ m1 R1 True.intro (jrel_scr R1 (.scr q))⟩
    | _ => exact (stuck_no (h := h1) e2).elim
  · exact (pi_list he).run pins s σ H Q I ⟨as, h, ρ, _, _, R, S, evs1x e1, A⟩⟩
theorem jrel_rng {as0 : List Addr} {H0 : Hp} {lo : Int} {n : Nat} : JRel X.K as0 H0 (Itr lo n) ((List.range n).map fun (k : Nat) => W.int (lo + (k : Int))) none := by
  refine ⟨fun as H h i m R st hi => ?_, fun as H h m R st => ?_, fun as H h i x H' w m R st hi y => ?_⟩
  · show i < n
    simpa using hi
  · show n ≤ _
    simp
  · obtain ⟨rfl, rfl⟩ := y
    rw [List.getElem?_map] at hi
    obtain ⟨k, hk, rfl⟩ := Option.map_eq_some_iff.mp hi
    have : k = i := by
      have h1 := (List.getElem?_eq_some_iff.mp hk)
      obtain ⟨h2, h3⟩ := h1
      simp at h3
      exact h3.symm
    subst this
    exact ⟨.refl, R, .int _⟩
theorem jrel_rngC {as0 : List Addr} {H0 : Hp} {lo c : Int} {n : Nat} : JRel X.K as0 H0 (Itc lo c n) ((List.range n).map fun (k : Nat) => W.int (lo + (k : Int) * c)) none := by
  refine ⟨fun as H h i m R st hi => ?_, fun as H h m R st => ?_, fun as H h i x H' w m R st hi y => ?_⟩
  · show i < n
    simpa using hi
  · show n ≤ _
    simp
  · obtain ⟨rfl, rfl⟩ := y
    rw [List.getElem?_map] at hi
    obtain ⟨k, hk, rfl⟩ := Option.map_eq_some_iff.mp hi
    have : k = i := by
      have h1 := (List.getElem?_eq_some_iff.mp hk)
      obtain ⟨h2, h3⟩ := h1
      simp at h3
      exact h3.symm
    subst this
    exact ⟨.refl, R, .int _⟩
theorem i_rg1 {tg a : Expr} {a' : E} {p pos : Pos} (ha : PE X a (tE X.K cls Φ Z a')) (hm : X.mg "range" = none) (hg : L2.Gl X "range" := by rfl) (he : starEach [a] X.env = [(false, eval a X.env)] := by rfl) :
    PI X tg (.Call (.Name "range" p) [a] [] pos) (tI X.K cls Φ Z .rg1 [a']) := ⟨fun pins s σ H Q I q => by
  obtain ⟨as, h, ρ, r, h', R, S, e, A⟩ := q
  refine (pi_range1 hg hm (s_cons ha s_nil he) he).run pins s σ H Q I ?_
  rcases bnd_inv e with ⟨ws, h1, e1, e2⟩ | ⟨c, w, e1, rfl⟩
  · refine ⟨as, h, ρ, _, _, R, S, e1, fun as1 H1 vs m1 R1 rs => ?_⟩
    obtain ⟨w, rfl, _⟩ := evs1 e1
    cases w with
    | int j =>
      obtain ⟨c, e2⟩ := chk_inv e2
      obtain ⟨rfl, rfl⟩ := ret_inv e2
      cases rs with
      | cons r1 t => cases t; cases r1; exact ⟨j, rfl, c.1, c.2, A as1 H1 _ m1 R1 True.intro jrel_rng⟩
    | _ => exact (stuck_no (h := h1) e2).elim
  · exact ⟨as, h, ρ, _, _, R, S, e1, A⟩⟩
theorem i_rg2 {tg a b : Expr} {a' b' : E} {p pos : Pos} (ha : PE X a (tE X.K cls Φ Z a')) (hb : PE X b (tE X.K cls Φ Z b')) (hm : X.mg "range" = none) (hg : L2.Gl X "range" := by rfl) (he : starEach [a, b] X.env = [(false, eval a X.env), (false, eval b X.env)] := by rfl) (he2 : starEach [b] X.env = [(false, eval b X.env)] := by rfl) :
    PI X tg (.Call (.Name "range" p) [a, b] [] pos) (tI X.K cls Φ Z .rg2 [a', b']) := ⟨fun pins s σ H Q I q => by
  obtain ⟨as, h, ρ, r, h', R, S, e, A⟩ := q
  refine (pi_range2 hg hm (s_cons ha (s_cons hb s_nil he2) (by rw [he2]; exact he)) he he2).run pins s σ H Q I ?_
  rcases bnd_inv e with ⟨ws, h1, e1, e2⟩ | ⟨c, w, e1, rfl⟩
  · refine ⟨as, h, ρ, _, _, R, S, e1, fun as1 H1 vs m1 R1 rs => ?_⟩
    rcases ws with _ | ⟨w1, _ | ⟨w2, _ | ⟨w3, ws⟩⟩⟩
    · exact (stuck_no (h := h1) e2).elim
    · cases w1 <;> exact (stuck_no (h := h1) e2).elim
    · cases w1 with
      | int i =>
        cases w2 with
        | int j =>
          obtain ⟨c, e2⟩ := chk_inv e2
          obtain ⟨rfl, rfl⟩ := ret_inv e2
          cases rs with
          | cons r1 t => cases t with
            | cons r2 t2 => cases t2; cases r1; cases r2; exact ⟨i, j, rfl, c, A as1 H1 _ m1 R1 True.intro jrel_rng⟩
        | _ => exact (stuck_no (h := h1) e2).elim
      | _ => cases w2 <;> exact (stuck_no (h := h1) e2).elim
    · cases w1 <;> cases w2 <;> exact (stuck_no (h := h1) e2).elim
  · exact ⟨as, h, ρ, _, _, R, S, e1, A⟩⟩
theorem i_rg3 {tg a b c : Expr} {a' b' c' : E} {p pos : Pos} (ha : PE X a (tE X.K cls Φ Z a')) (hb : PE X b (tE X.K cls Φ Z b')) (hc : PE X c (tE X.K cls Φ Z c')) (hm : X.mg "range" = none) (hg : L2.Gl X "range" := by rfl)
    (he : starEach [a, b, c] X.env = (false, eval a X.env) :: starEach [b, c] X.env := by rfl) (he2 : starEach [b, c] X.env = (false, eval b X.env) :: starEach [c] X.env := by rfl) (he3 : starEach [c] X.env = (false, eval c X.env) :: starEach [] X.env := by rfl) (hpl : (backTo pos (starEach [b, c] X.env)).any (·.1) = false := by rfl) :
    PI X tg (.Call (.Name "range" p) [a, b, c] [] pos) (tI X.K cls Φ Z .rg3 [a', b', c']) := ⟨fun pins s σ H Q I q => by
  obtain ⟨as, h, ρ, r, h', R, S, e, A⟩ := q
  refine (pi_range3 hg hm (s_cons ha (s_cons hb (s_cons hc s_nil he3) he2) he) he hpl).run pins s σ H Q I ?_
  rcases bnd_inv e with ⟨ws, h1, e1, e2⟩ | ⟨c, w, e1, rfl⟩
  · refine ⟨as, h, ρ, _, _, R, S, e1, fun as1 H1 vs m1 R1 rs => ?_⟩
    rcases ws with _ | ⟨w1, _ | ⟨w2, _ | ⟨w3, _ | ⟨w4, ws⟩⟩⟩⟩
    · exact (stuck_no (h := h1) e2).elim
    · cases w1 <;> exact (stuck_no (h := h1) e2).elim
    · cases w1 <;> cases w2 <;> exact (stuck_no (h := h1) e2).elim
    · cases w1 with
      | int i =>
        cases w2 with
        | int j =>
          cases w3 with
          | int k =>
            obtain ⟨⟨rfl, c1, c2, c3, c4⟩, e4⟩ := chk_inv e2
            obtain ⟨rfl, rfl⟩ := ret_inv e4
            cases rs with
            | cons r1 t => cases t with
              | cons r2 t2 => cases t2 with
                | cons r3 t3 => cases t3; cases r1; cases r2; cases r3; exact ⟨i, j, -1, (i - j).toNat, rfl, RgC.neg c1 c2 c3 c4, A as1 H1 _ m1 R1 True.intro jrel_rngC⟩
          | _ => exact (stuck_no (h := h1) e2).elim
        | _ => cases w3 <;> exact (stuck_no (h := h1) e2).elim
      | _ => cases w2 <;> cases w3 <;> exact (stuck_no (h := h1) e2).elim
    · cases w1 <;> cases w2 <;> cases w3 <;> exact (stuck_no (h := h1) e2).elim
  · exact ⟨as, h, ρ, _, _, R, S, e1, A⟩⟩
theorem jrel_enum {as0 : List Addr} {H0 : Hp} {l : Nat} {a : Addr} {xs : List W} (ha : as0[l]? = some a) : JRel X.K as0 H0 (Ite X.K a) ((List.range xs.length).map fun (k : Nat) => W.tup [.int (0 + (k : Int)), xs.getD k .non]) (some (l, xs)) := by
  have get : ∀ as H h, Mono as0 H0 as H → Rp X.K as H h → stands (some (l, xs)) h → ∃ vs, H a = some (.lst vs) ∧ RWs X.K as H xs vs := by
    intro as H h m R st
    obtain ⟨b, vs, e, _, hp, rs⟩ := lst_at R (.loc (pre_get m.ext ha)) st
    cases e
    exact ⟨vs, hp, rs⟩
  refine ⟨fun as H h i m R st hi => ?_, fun as H h m R st => ?_, fun as H h i x H' w m R st hi y => ?_⟩
  · obtain ⟨vs, hp, rs⟩ := get as H h m R st
    have hi : i < xs.length := by simpa using hi
    obtain ⟨v, hv, _⟩ := rs.get (List.getElem?_eq_getElem hi)
    exact ⟨vs, v, SqL.of hp, hv⟩
  · obtain ⟨vs, hp, rs⟩ := get as H h m R st
    exact ⟨vs, SqL.of hp, by rw [← rs.length]; simp⟩
  · obtain ⟨vs, hp, rs⟩ := get as H h m R st
    obtain ⟨T, x', rfl, hT, rfl, hx⟩ := y
    rw [List.getElem?_map] at hi
    obtain ⟨k, hk, rfl⟩ := Option.map_eq_some_iff.mp hi
    obtain ⟨h2, h3⟩ := List.getElem?_eq_some_iff.mp hk
    have : k = i := by
      simp at h3
      exact h3.symm
    subst this
    have hlt : k < xs.length := by simpa using h2
    obtain ⟨v, hv, rv⟩ := rs.get (List.getElem?_eq_getElem hlt)
    have := hx vs (SqL.of hp)
    rw [hv] at this; cases this
    have hg : xs.getD k .non = xs[k] := by rw [List.getD_eq_getElem?_getD, List.getElem?_eq_getElem hlt]; rfl
    have m2 : Mono as H as (upd H T (.tup [.int (k : Nat), x'])) := Mono.new hT
    refine ⟨m2, R.new hT, .tup upd_same (.cons ?_ (.cons ?_ .nil))⟩
    · rw [Int.zero_add]; exact .int _
    · rw [hg]; exact rv.mono R m2
theorem i_en {a : Expr} {a' : E} {p pos tpos : Pos} {elts : List Expr} {kk : Nat} (ha : PE X a (tE X.K cls Φ Z a')) (hm : X.mg "enumerate" = none) (hg : L2.Gl X "enumerate" := by rfl) (he : starEach [a] X.env = [(false, eval a X.env)] := by rfl) :
    PI X (.Tuple elts kk tpos) (.Call (.Name "enumerate" p) [a] [] pos) (tI X.K cls Φ Z .en [a']) := ⟨fun pins s σ H Q I q => by
  obtain ⟨as, h, ρ, r, h', R, S, e, A⟩ := q
  refine (pi_enum hg hm (s_cons ha s_nil he) he).run pins s σ H Q I ?_
  rcases bnd_inv e with ⟨ws, h1, e1, e2⟩ | ⟨c, w, e1, rfl⟩
  · refine ⟨as, h, ρ, _, _, R, S, e1, fun as1 H1 vs m1 R1 rs => ?_⟩
    obtain ⟨w, rfl, _⟩ := evs1 e1
    cases w with
    | loc l =>
      obtain ⟨xs, hl, e2⟩ := Option.map_eq_some_iff.mp (show (lstAt h1 l).map (fun xs => (Rs.ok ((List.range xs.length).map fun (k : Nat) => W.tup [.int (0 + (k : Int)), xs.getD k .non], some (l, xs)), h1)) = some (r, h') from e2)
      cases e2
      cases rs with
      | cons r1 t =>
        cases t
        obtain ⟨a, vs, rfl, ha, hp, rs⟩ := lst_at R1 r1 (lstAt_some hl)
        exact ⟨a, vs, rfl, SqL.of hp, A as1 H1 _ m1 R1 (lstAt_some hl) (jrel_enum ha)⟩
    | _ => exact (stuck_no (h := h1) e2).elim
  · exact ⟨as, h, ρ, _, _, R, S, e1, A⟩⟩
end
end Bi
set_option maxHeartbeats 1000000
namespace Bi
open PySem L2
section
variable {X : Cx} {cls : Nat → Option (Addr × Str)} {Φ : Ora} {Z : XK} {as : List Addr} {H : Hp} {h h' : Store} {Q : VK}

/-! ### comprehensions -/
def tTs (K : PySem.W.Frag) (cls : Nat → Option (Addr × Str)) (Φ : Ora) (Z : XK) (es : List E) : TT := fun σ H Q =>
  ∃ as h ρ r h', Rp K as H h ∧ RS K as H ρ σ ∧ tests Φ es ρ h = some (r, h') ∧ AftB K cls Z as H h' r Q
theorem PTs.imp {e : List Expr} {t t' : TT} (h : PTs X e t) (hi : ∀ σ H Q, t' σ H Q → t σ H Q) : PTs X e t' := ⟨fun pins s σ H Q I q => h.run pins s σ H Q I (hi σ H Q q)⟩
theorem ts_nil : PTs X [] (tTs X.K cls Φ Z []) := PTs.imp pts_nil fun σ H Q q => by
  obtain ⟨as, h, ρ, r, h', R, S, e, A⟩ := q
  rw [tests] at e
  cases e
  exact A _ _ .refl R
theorem ts_one {c : Expr} {c' : E} (hc : PT X c (tT X.K cls Φ Z c')) : PTs X [c] (tTs X.K cls Φ Z [c']) := PTs.imp (pts_one hc) fun σ H Q q => by
  obtain ⟨as, h, ρ, r, h', R, S, e, A⟩ := q
  refine ⟨as, h, ρ, r, h', R, S, ?_, A⟩
  rw [tests] at e
  show bnd (ev Φ c' ρ) truth h = _
  rcases bnd_inv e with ⟨x, h1, e1, e2⟩ | ⟨c, w, e1, rfl⟩
  · rw [bnd_ok e1]
    rcases bnd_inv e2 with ⟨t, h2, e3, e4⟩ | ⟨c, w, e3, rfl⟩
    · rw [e3]
      cases t with
      | true =>
        rw [if_pos rfl, tests] at e4
        cases e4; rfl
      | false =>
        rw [if_neg (by decide)] at e4
        cases e4; rfl
    · exact e3
  · unfold bnd; rw [e1]
/-- one turn of a comprehension -/
noncomputable def lcF (Φ : Ora) (own : List Nat) (t : T) (ifs : List E) (elt : E) (ρ : Env) (w : W) : M (Option W) := match setT t w (wipeB ρ own) with
  | some ρ' => bnd (tests Φ ifs ρ') fun b => if b = true then bnd (ev Φ elt ρ') fun y => Bi.ret (some y) else Bi.ret none
  | none => stuck
theorem ev_lc (own : List Nat) (t : T) (k : IK) (src ifs : List E) (elt : E) (ρ : Env) : ev Φ (.lc own t k src ifs elt) ρ = bnd (evs Φ src ρ) fun ws => bnd (items k ws) fun p =>
    bnd (noex (compM p.2 (lcF Φ own t ifs elt ρ) p.1 [])) fun acc => alloc (.lst acc) := by
  rw [ev]; rfl
theorem noex_inv {α : Type} {m : M α} {r : Rs α} (e : noex m h = some (r, h')) : ∃ a, r = .ok a ∧ m h = some (.ok a, h') := by
  unfold noex at e
  split at e
  · cases e; exact ⟨_, rfl, ‹_›⟩
  · cases e
theorem compM_len {c : Option (Nat × List W)} {f : W → M (Option W)} : ∀ {ws acc accF : List W} {h h' : Store}, compM c f ws acc h = some (.ok accF, h') → acc.length ≤ accF.length ∧ accF.length ≤ sizeLine
  | [], acc, accF, h, h', e => by
    unfold compM at e
    split at e
    · cases e; rename_i q; exact ⟨Nat.le_refl _, q.2⟩
    · cases e
  | w :: ws, acc, accF, h, h', e => by
    unfold compM at e
    split at e
    · rcases bnd_inv e with ⟨r, h1, e1, e2⟩ | ⟨c, w, e1, z⟩
      · cases r with
        | some y =>
          have := compM_len (show compM c f ws (acc ++ [y]) h1 = _ from e2)
          rw [List.length_append, List.length_singleton] at this
          exact ⟨by omega, this.2⟩
        | none => exact compM_len (show compM c f ws acc h1 = _ from e2)
      · cases z
    · cases e
mutual
/-- a list that the evaluator does not know is changed: no value sees it -/
theorem rw_keep {D : Addr} {xs ys : List V} (hD : H D = some (.lst xs)) : ∀ {w : W} {v : V}, RW X.K as H w v → RW X.K as (upd H D (.lst ys)) w v
  | _, _, .non => .non
  | _, _, .bl b => .bl b
  | _, _, .int b => .int b
  | _, _, .str b => .str b
  | _, _, .tup ha rs => .tup (by rw [upd_ne (ne_of ha hD (fun z => nomatch z))]; exact ha) (rws_keep hD rs)
  | _, _, .loc e => .loc e
  | _, _, .scr e => .scr (e.imp (fun ⟨o, q⟩ => ⟨o, by rw [upd_ne (ne_of q hD (fun z => nomatch z))]; exact q⟩) id)
theorem rws_keep {D : Addr} {xs ys : List V} (hD : H D = some (.lst xs)) : ∀ {ws : List W} {vs : List V}, RWs X.K as H ws vs → RWs X.K as (upd H D (.lst ys)) ws vs
  | _, _, .nil => .nil
  | _, _, .cons r rs => .cons (rw_keep hD r) (rws_keep hD rs)
end
theorem rkv_keep {κ : Type} {D : Addr} {xs ys : List V} (hD : H D = some (.lst xs)) {kvs : List (κ × W)} {ps : List (κ × V)} (r : RKV X.K as H kvs ps) : RKV X.K as (upd H D (.lst ys)) kvs ps :=
  Paired.mapP r fun _ _ z => ⟨z.1, rw_keep hD z.2⟩
theorem ro_keep {D a : Addr} {xs ys : List V} {o : O} (hD : H D = some (.lst xs)) (n : a ≠ D) (r : RO X.K as H a o) : RO X.K as (upd H D (.lst ys)) a o := by
  cases o with
  | lst ws => obtain ⟨vs, e, q⟩ := r; exact ⟨vs, by rw [upd_ne n]; exact e, rws_keep hD q⟩
  | dk ws => obtain ⟨vs, e, q⟩ := r; exact ⟨vs, by rw [upd_ne n]; exact e, rkv_keep hD q⟩
  | dt ws => obtain ⟨vs, e, q⟩ := r; exact ⟨vs, by rw [upd_ne n]; exact e, rkv_keep hD q⟩
  | ins _ _ => exact r.elim
mutual
theorem rw_ext {D : Addr} : ∀ {w : W} {v : V}, RW X.K as H w v → RW X.K (as ++ [D]) H w v
  | _, _, .non => .non
  | _, _, .bl b => .bl b
  | _, _, .int b => .int b
  | _, _, .str b => .str b
  | _, _, .tup ha rs => .tup ha (rws_ext rs)
  | _, _, .loc e => .loc (pre_get (List.prefix_append _ _) e)
  | _, _, .scr e => .scr e
theorem rws_ext {D : Addr} : ∀ {ws : List W} {vs : List V}, RWs X.K as H ws vs → RWs X.K (as ++ [D]) H ws vs
  | _, _, .nil => .nil
  | _, _, .cons r rs => .cons (rw_ext r) (rws_ext rs)
end
theorem ro_ext {D a : Addr} {o : O} (r : RO X.K as H a o) : RO X.K (as ++ [D]) H a o := by
  cases o with
  | lst ws => obtain ⟨vs, e, q⟩ := r; exact ⟨vs, e, rws_ext q⟩
  | dk ws => obtain ⟨vs, e, q⟩ := r; exact ⟨vs, e, Paired.mapP q fun _ _ z => ⟨z.1, rw_ext z.2⟩⟩
  | dt ws => obtain ⟨vs, e, q⟩ := r; exact ⟨vs, e, Paired.mapP q fun _ _ z => ⟨z.1, rw_ext z.2⟩⟩
  | ins _ _ => exact r.elim
/-- an object that stands is taken into the store -/
theorem rp_adopt {D : Addr} {o : O} (R : Rp X.K as H h) (n : D ∉ as) (new : RO X.K (as ++ [D]) H D o) : Rp X.K (as ++ [D]) H (h ++ [o]) := by
  refine ⟨by rw [List.length_append, List.length_append, R.len]; rfl, ?_, fun i x a hx ha => ?_⟩
  · rw [List.nodup_append]
    refine ⟨R.nd, by simp, fun a ha b hb e => ?_⟩
    rw [List.mem_singleton] at hb
    subst hb e
    exact n ha
  · by_cases hl : i < h.length
    · rw [List.getElem?_append_left hl] at hx
      rw [List.getElem?_append_left (by rw [R.len]; exact hl)] at ha
      exact ro_ext (R.obj i x a hx ha)
    · have hi : i = h.length := by
        have := (List.getElem?_eq_some_iff.mp hx).1
        rw [List.length_append] at this
        simp at this
        omega
      subst hi
      rw [List.getElem?_append_right (Nat.le_refl _)] at hx
      rw [List.getElem?_append_right (by rw [R.len]; exact Nat.le_refl _), R.len] at ha
      simp at hx ha
      subst hx ha
      exact new
theorem tE_lc {own : List (Str × Nat)} {t : T} {k : IK} {src ifs' : List E} {elt' : E} {Z0 : XK} (hsl : (t.slots.all fun i => decide (i ∈ own.map (·.2))) = true) {σ : St} {H : Hp} {Q : VK}
    (q : tE X.K cls Φ Z (.lc (own.map (·.2)) t k src ifs' elt') σ H Q) : tLc (tI X.K cls Φ Z k src) (tG X.K t) (tTs X.K cls Φ Z0 ifs') (tE X.K cls Φ Z0 elt') (own.map (·.2)) σ H Q := by
  obtain ⟨as, h, ρ, r, h', R, S, e, A⟩ := q
  rw [ev_lc] at e
  have e0 : (∃ p h1, bnd (evs Φ src ρ) (items k) h = some (.ok p, h1) ∧ bnd (noex (compM p.2 (lcF Φ (own.map (·.2)) t ifs' elt' ρ) p.1 [])) (fun acc => alloc (.lst acc)) h1 = some (r, h')) ∨ ∃ c w, bnd (evs Φ src ρ) (items k) h = some (.ex c w, h') ∧ r = .ex c w := by
    rcases bnd_inv e with ⟨ws, h1, e1, e2⟩ | ⟨c, w, e1, rfl⟩
    · rcases bnd_inv e2 with ⟨p, h2, e3, e4⟩ | ⟨c, w, e3, rfl⟩
      · exact .inl ⟨p, h2, by rw [bnd_ok e1, e3], e4⟩
      · exact .inr ⟨c, w, by rw [bnd_ok e1, e3], rfl⟩
    · exact .inr ⟨c, w, by unfold bnd; rw [e1], rfl⟩
  rcases e0 with ⟨⟨its, c⟩, h1, e1, e2⟩ | ⟨c, w, e1, rfl⟩
  · refine ⟨as, h, ρ, _, _, R, S, e1, fun as1 H1 J m1 R1 st JR D hD => ?_⟩
    have JR : JRel X.K as1 H1 J its c := JR
    have st : stands c h1 := st
    rcases bnd_inv e2 with ⟨accF, hF, e3, e4⟩ | ⟨c', w', e3, rfl⟩
    · obtain ⟨_, z, e3⟩ := noex_inv e3
      cases z
      have e4 : alloc (.lst accF) hF = some (r, h') := e4
      have nD : D ∉ as1 := fun z => by
        obtain ⟨u, hu⟩ := R1.mem_some z
        rw [hD] at hu; cases hu
      have mD : Mono as1 H1 as1 (upd H1 D (.lst [])) := Mono.new hD
      refine ⟨fun i m H2 => ∃ as2 h2 acc vacc, Mono as1 H1 as2 H2 ∧ Rp X.K as2 H2 h2 ∧ D ∉ as2 ∧ H2 D = some (.lst vacc) ∧ RWs X.K as2 H2 acc vacc ∧ compM c (lcF Φ (own.map (·.2)) t ifs' elt' ρ) (its.drop i) acc h2 = some (.ok accF, hF) ∧ m = its.length - i ∧ i ≤ its.length, ⟨_, as1, h1, [], [], mD, R1.new hD, nD, upd_same, .nil, e3, rfl, Nat.zero_le _⟩, ?_⟩
      rintro i m H2 ⟨as2, h2, acc, vacc, m2, R2, nD2, hD2, racc, e5, rfl, hi⟩
      by_cases hlt : i < its.length
      · right
        rw [List.drop_eq_getElem_cons hlt] at e5
        unfold compM at e5
        split at e5
        · rename_i st2
          refine ⟨JR.go _ _ _ _ m2 R2 st2 hlt, fun H' => ∃ as2 h2 acc vacc, Mono as1 H1 as2 H' ∧ Rp X.K as2 H' h2 ∧ D ∉ as2 ∧ H' D = some (.lst vacc) ∧ RWs X.K as2 H' acc vacc ∧ compM c (lcF Φ (own.map (·.2)) t ifs' elt' ρ) (its.drop (i + 1)) acc h2 = some (.ok accF, hF), ?_, ?_⟩
          · rintro H' ⟨as3, h3, acc3, vacc3, q⟩
            exact ⟨its.length - (i + 1), by omega, as3, h3, acc3, vacc3, q.1, q.2.1, q.2.2.1, q.2.2.2.1, q.2.2.2.2.1, q.2.2.2.2.2, rfl, hlt⟩
          · intro x H3 y
            obtain ⟨m3, R3, rx⟩ := JR.yld _ _ _ _ _ _ _ m2 R2 st2 (List.getElem?_eq_getElem hlt) y
            rcases bnd_inv e5 with ⟨ro, h4, e6, e7⟩ | ⟨c', w', e6, z⟩
            · unfold lcF at e6
              cases hset : setT t its[i] (wipeB ρ (own.map (·.2))) with
              | none => rw [hset] at e6; exact (stuck_no (h := h2) e6).elim
              | some ρ' =>
                rw [hset] at e6
                have S3 : RS X.K as2 H3 (wipeB ρ (own.map (·.2))) (L2.wipe σ (own.map (·.2))) := ((S.mono R m1).mono R1 (m2.trans m3)).wiped _ |> fun q => q
                refine ⟨as2, h2, its[i], _, ρ', R3, rx, S3, hset, fun σ' S' o => ⟨?_, ?_⟩⟩
                · have := o (own.map (·.2)) (fun i hi => of_decide_eq_true (List.all_eq_true.mp hsl i hi))
                  rw [this]
                  have idem : ∀ (vs us : List Nat), (∀ v ∈ vs, v ∈ us) → L2.wipe (L2.wipe σ vs) us = L2.wipe σ us := by
                    intro vs us hv
                    induction vs with
                    | nil => rfl
                    | cons v vs ih =>
                      show L2.wipe ((L2.wipe σ vs).set v none) us = _
                      rw [wipe_set, if_pos (hv v List.mem_cons_self)]
                      exact ih fun v hv' => hv v (List.mem_cons_of_mem _ hv')
                  exact idem _ _ fun _ h => h
                · rcases bnd_inv e6 with ⟨b, h5, e8, e9⟩ | ⟨c', w', e8, z⟩
                  · refine ⟨as2, h2, ρ', _, _, R3, S', e8, fun as4 H4 m4 R4 => ?_⟩
                    have fr3 : H3 D = some (.lst vacc) ∧ D ∉ as2 := m3.fr D _ hD2 nD2
                    obtain ⟨hD4, nD4⟩ := m4.fr D _ fr3.1 nD2
                    cases b with
                    | true =>
                      rw [if_pos rfl] at e9
                      refine iteT ?_
                      rcases bnd_inv e9 with ⟨yv, h6, e10, e11⟩ | ⟨c', w', e10, z⟩
                      · cases e11
                        refine ⟨as4, h5, ρ', _, _, R4, S'.mono R3 m4, e10, fun as5 H5 v5 m5 R5 rv5 => ?_⟩
                        obtain ⟨hD5, nD5⟩ := m5.fr D _ hD4 nD4
                        have e7 : compM c (lcF Φ (own.map (·.2)) t ifs' elt' ρ) (its.drop (i + 1)) (acc ++ [yv]) h4 = some (.ok accF, hF) := e7
                        have hlen := compM_len e7
                        rw [List.length_append, List.length_singleton] at hlen
                        have mm := (m3.trans m4).trans m5
                        have racc5 : RWs X.K as5 H5 acc vacc := racc.mono R2 mm
                        have upd5 : Mono as5 H5 as5 (upd H5 D (.lst (vacc ++ [v5]))) → True := fun _ => trivial
                        refine ⟨vacc, hD5, by rw [← racc5.length]; omega, as5, h4, acc ++ [yv], vacc ++ [v5], ?_, ?_, nD5, upd_same, ?_, e7⟩
                        · -- the frame of what stood
                          refine ⟨(m2.trans mm).ext, fun a o ha na => ?_⟩
                          have hne : a ≠ D := fun z => by rw [z, hD] at ha; cases ha
                          obtain ⟨q1, q2⟩ := (m2.trans mm).fr a o ha na
                          exact ⟨by rw [upd_ne hne]; exact q1, q2⟩
                        · exact ⟨R5.len, R5.nd, fun j o a hj hja => by
                            have hne : a ≠ D := fun z => nD5 (z ▸ List.mem_of_getElem? hja)
                            have ro := R5.obj j o a hj hja
                            have keepW : ∀ {w : W} {v : V}, RW X.K as5 H5 w v → RW X.K as5 (upd H5 D (.lst (vacc ++ [v5]))) w v := fun r => rw_keep hD5 r
                            exact ro_keep hD5 hne ro⟩
                        · exact (rws_keep hD5 racc5).append (.cons (rw_keep hD5 rv5) .nil)
                      · cases z
                    | false =>
                      rw [if_neg (by decide)] at e9
                      refine iteF ?_
                      cases e9
                      exact ⟨as4, _, acc, vacc, m2.trans (m3.trans m4), R4, nD4, hD4, racc.mono R2 (m3.trans m4), e7⟩
                  · cases z
            · cases z
        · cases e5
      · left
        have hie : i = its.length := by omega
        subst hie
        rw [List.drop_length] at e5
        unfold compM at e5
        split at e5
        · rename_i st2
          cases e5
          refine ⟨JR.stop _ _ _ m2 R2 st2.1, ?_⟩
          cases e4
          have mF : Mono as2 H2 (as2 ++ [D]) H2 → True := fun _ => trivial
          refine A (as2 ++ [D]) H2 (.ref D) ?_ ?_ ?_
          · refine ⟨(m1.trans m2).ext.trans (List.prefix_append _ _), fun a o ha na => ?_⟩
            obtain ⟨q1, q2⟩ := m1.fr a o ha na
            have hne : a ≠ D := fun z => by rw [z, hD] at q1; cases q1
            obtain ⟨q3, q4⟩ := m2.fr a o q1 q2
            refine ⟨q3, ?_⟩
            rw [List.mem_append, List.mem_singleton]
            rintro (z | z)
            · exact q4 z
            · exact hne z
          · exact rp_adopt R2 nD2 ⟨vacc, hD2, rws_ext racc⟩
          · refine .loc ?_
            rw [← R2.len, List.getElem?_append_right (Nat.le_refl _)]; simp
        · cases e5
    · obtain ⟨_, z, _⟩ := noex_inv e3
      cases z
  · exact ⟨as, h, ρ, _, _, R, S, e1, A⟩
theorem s_lc {elt tg iter : Expr} {ifs : List Expr} {scope : Scope} {own : List (Str × Nat)} {pos : Pos} {t : T} {k : IK} {src ifs' : List E} {elt' : E} {Z0 : XK} (hc : X.calm = true) (hN : X.N.Nodup) (hi : PI X tg iter (tI X.K cls Φ Z k src)) (ok : BlkOk X.N X.env.scope scope own)
    (hg : ∀ (s : Shared) (H : Hp) (C : Addr) (cl : List (Str × Addr)) (fp : List Addr), PG (X.blk s H scope (compEnvC scope cl C X.env) fp) tg (tG X.K t)) (hsl : (t.slots.all fun i => decide (i ∈ own.map (·.2))) = true)
    (ht : ∀ (s : Shared) (H : Hp) (C : Addr) (cl : List (Str × Addr)) (fp : List Addr), PTs (X.blk s H scope (compEnvC scope cl C X.env) fp) ifs (tTs X.K cls Φ Z0 ifs'))
    (he : ∀ (s : Shared) (H : Hp) (C : Addr) (cl : List (Str × Addr)) (fp : List Addr), PE (X.blk s H scope (compEnvC scope cl C X.env) fp) elt (tE X.K cls Φ Z0 elt')) (hs : ∀ x, foldedSetIterable iter X.env x = pure x := by intro _; rfl) :
    PE X (.ListComp elt [⟨tg, iter, ifs, 0⟩] scope pos) (tE X.K cls Φ Z (.lc (own.map (·.2)) t k src ifs' elt')) := PE.imp (pe_lc hc hN hi ok hg ht he hs) fun σ H Q q => tE_lc hsl q
end
end Bi
set_option maxHeartbeats 1000000
namespace Bi
open PySem L2
/-! ### statements -/
def AftS (K : PySem.W.Frag) (cls : Nat → Option (Addr × Str)) (Z : XK) (as : List Addr) (H : Hp) (h' : Store) (r : Rs (Fl × Env)) (D : Ends) : Prop := match r with
  | .ok (.nx, ρ) => ∀ as' H' σ', Mono as H as' H' → Rp K as' H' h' → RS K as' H' ρ σ' → D.nx σ' H'
  | .ok (.brk, ρ) => ∀ as' H' σ', Mono as H as' H' → Rp K as' H' h' → RS K as' H' ρ σ' → D.bk σ' H'
  | .ok (.cnt, ρ) => ∀ as' H' σ', Mono as H as' H' → Rp K as' H' h' → RS K as' H' ρ σ' → D.ct σ' H'
  | .ok (.ret w, _) => ∀ as' H' v, Mono as H as' H' → Rp K as' H' h' → RW K as' H' w v → D.rt v H'
  | .ex c w => ∀ as' H' C f d v, Mono as H as' H' → Rp K as' H' h' → cls c = some (C, f) → H' d = some (.xd [(f, v)]) → RW K as' H' w v → Z (.ref C) (some d) H'
theorem AftS.mono {K : PySem.W.Frag} {cls : Nat → Option (Addr × Str)} {Z : XK} {as as1 : List Addr} {H H1 : Hp} {h' : Store} {r : Rs (Fl × Env)} {D : Ends} (m : Mono as H as1 H1) (a : AftS K cls Z as H h' r D) : AftS K cls Z as1 H1 h' r D := by
  rcases r with ⟨fl, ρ⟩ | ⟨c, w⟩
  · cases fl with
    | nx => exact fun as' H' v m' R rw => a as' H' v (m.trans m') R rw
    | brk => exact fun as' H' v m' R rw => a as' H' v (m.trans m') R rw
    | cnt => exact fun as' H' v m' R rw => a as' H' v (m.trans m') R rw
    | ret w => exact fun as' H' v m' R rw => a as' H' v (m.trans m') R rw
  · exact fun as' H' C f d v m' R ec ed rw => a as' H' C f d v (m.trans m') R ec ed rw
def tS (K : PySem.W.Frag) (cls : Nat → Option (Addr × Str)) (Φ : Ora) (Z : XK) (s : S) : TS := fun D σ H =>
  ∃ as h ρ r h', Rp K as H h ∧ RS K as H ρ σ ∧ ex Φ s ρ h = some (r, h') ∧ AftS K cls Z as H h' r D
def tSs (K : PySem.W.Frag) (cls : Nat → Option (Addr × Str)) (Φ : Ora) (Z : XK) (s : List S) : TS := fun D σ H =>
  ∃ as h ρ r h', Rp K as H h ∧ RS K as H ρ σ ∧ exs Φ s ρ h = some (r, h') ∧ AftS K cls Z as H h' r D
section
variable {X : Cx} {cls : Nat → Option (Addr × Str)} {Φ : Ora} {Z : XK} {as : List Addr} {H : Hp} {h h' : Store} {Q : VK}
variable {e tg c : Expr} {e' c' : E} {st : Stmt} {sts : List Stmt} {s : S} {ss : List S} {t : T} {pos p : Pos}

theorem ss_nil : PSs X [] (tSs X.K cls Φ Z []) := PSs.imp pss_nil fun D σ H q => by
  obtain ⟨as, h, ρ, r, h', R, S, e, A⟩ := q
  rw [exs] at e
  cases e
  exact A _ _ _ .refl R S
theorem ss_cons (h1 : PS X st (tS X.K cls Φ Z s)) (h2 : PSs X sts (tSs X.K cls Φ Z ss)) : PSs X (st :: sts) (tSs X.K cls Φ Z (s :: ss)) := PSs.imp (pss_cons h1 h2) fun D σ H q => by
  obtain ⟨as, h, ρ, r, h', R, S, e, A⟩ := q
  rw [exs] at e
  rcases bnd_inv e with ⟨⟨fl, ρ1⟩, h1, e1, e2⟩ | ⟨c, w, e1, rfl⟩
  · refine ⟨as, h, ρ, _, _, R, S, e1, ?_⟩
    cases fl with
    | nx => exact fun as1 H1 σ1 m1 R1 S1 => ⟨as1, h1, ρ1, r, h', R1, S1, e2, A.mono m1⟩
    | brk => cases e2; exact A
    | cnt => cases e2; exact A
    | ret w => cases e2; exact A
  · exact ⟨as, h, ρ, _, _, R, S, e1, A⟩
theorem s_never : PS X st (tS X.K cls Φ Z .never) := ⟨fun pins s σ H D I q => by
  obtain ⟨as, h, ρ, r, h', R, S, e, A⟩ := q
  rw [ex] at e
  exact (stuck_no (h := h) e).elim⟩
theorem s_pass : PS X (.Pass pos) (tS X.K cls Φ Z .pass) := PS.imp ps_pass fun D σ H q => by
  obtain ⟨as, h, ρ, r, h', R, S, e, A⟩ := q
  rw [ex] at e
  cases e
  exact A _ _ _ .refl R S
theorem s_brk : PS X (.Break pos) (tS X.K cls Φ Z .brk) := PS.imp ps_break fun D σ H q => by
  obtain ⟨as, h, ρ, r, h', R, S, e, A⟩ := q
  rw [ex] at e
  cases e
  exact A _ _ _ .refl R S
theorem s_cnt : PS X (.Continue pos) (tS X.K cls Φ Z .cnt) := PS.imp ps_continue fun D σ H q => by
  obtain ⟨as, h, ρ, r, h', R, S, e, A⟩ := q
  rw [ex] at e
  cases e
  exact A _ _ _ .refl R S
theorem s_expr (he : PE X e (tE X.K cls Φ Z e')) (hs : swapsWith e none pos.line X.env = pure false := by rfl) : PS X (.Expr e pos) (tS X.K cls Φ Z (.ex e')) := PS.imp (ps_expr he hs) fun D σ H q => by
  obtain ⟨as, h, ρ, r, h', R, S, e, A⟩ := q
  rw [ex] at e
  rcases bnd_inv e with ⟨w, h1, e1, e2⟩ | ⟨c, w, e1, rfl⟩
  · cases e2
    exact ⟨as, h, ρ, _, _, R, S, e1, fun as1 H1 v m1 R1 rw => A _ _ _ m1 R1 (S.mono R m1)⟩
  · exact ⟨as, h, ρ, _, _, R, S, e1, A⟩
theorem s_ret (he : PE X e (tE X.K cls Φ Z e')) : PS X (.Return (some e) pos) (tS X.K cls Φ Z (.ret e')) := PS.imp (ps_ret he) fun D σ H q => by
  obtain ⟨as, h, ρ, r, h', R, S, e, A⟩ := q
  rw [ex] at e
  rcases bnd_inv e with ⟨w, h1, e1, e2⟩ | ⟨c, w, e1, rfl⟩
  · cases e2
    exact ⟨as, h, ρ, _, _, R, S, e1, fun as1 H1 v m1 R1 rw => A _ _ _ m1 R1 rw⟩
  · exact ⟨as, h, ρ, _, _, R, S, e1, A⟩
theorem s_retN : PS X (.Return none pos) (tS X.K cls Φ Z .retN) := PS.imp ps_retN fun D σ H q => by
  obtain ⟨as, h, ρ, r, h', R, S, e, A⟩ := q
  rw [ex] at e
  cases e
  exact A _ _ _ .refl R .non
theorem s_if {a b : List Stmt} {a' b' : List S} (hc : PT X c (tT X.K cls Φ Z c')) (ha : PSs X a (tSs X.K cls Φ Z a')) (hb : PSs X b (tSs X.K cls Φ Z b')) : PS X (.If c a b pos) (tS X.K cls Φ Z (.ite c' a' b')) := PS.imp (ps_if hc ha hb) fun D σ H q => by
  obtain ⟨as, h, ρ, r, h', R, S, e, A⟩ := q
  rw [ex] at e
  rcases bnd_inv e with ⟨w, h1, e1, e2⟩ | ⟨c, w, e1, rfl⟩
  · rcases bnd_inv e2 with ⟨t, h2, e3, e4⟩ | ⟨c, w, e3, rfl⟩
    · refine ⟨as, h, ρ, .ok t, h2, R, S, by unfold evT; rw [bnd_ok e1, e3], fun as1 H1 m1 R1 => ?_⟩
      cases t with
      | true => rw [if_pos rfl] at e4 ⊢; exact ⟨as1, h2, ρ, r, h', R1, S.mono R m1, e4, A.mono m1⟩
      | false => rw [if_neg (by decide)] at e4 ⊢; exact ⟨as1, h2, ρ, r, h', R1, S.mono R m1, e4, A.mono m1⟩
    · exact ⟨as, h, ρ, .ex c w, h', R, S, by unfold evT; rw [bnd_ok e1, e3], A⟩
  · exact ⟨as, h, ρ, .ex c w, h', R, S, by unfold evT bnd; rw [e1], A⟩
theorem tS_asg {D : Ends} {σ : St} {H : Hp} (q : tS X.K cls Φ Z (.asg t e') D σ H) : tAsg (tE X.K cls Φ Z e') (tG X.K t) D σ H := by
  obtain ⟨as, h, ρ, r, h', R, S, e, A⟩ := q
  rw [ex] at e
  rcases bnd_inv e with ⟨w, h1, e1, e2⟩ | ⟨c, w, e1, rfl⟩
  · refine ⟨as, h, ρ, _, _, R, S, e1, fun as1 H1 v m1 R1 rw => ?_⟩
    cases hs : setT t w ρ with
    | none => rw [hs] at e2; exact (stuck_no (h := h1) e2).elim
    | some ρ' =>
      rw [hs] at e2
      cases e2
      exact ⟨as1, _, w, ρ, ρ', R1, rw, S.mono R m1, hs, fun σ' S' _ => A _ _ _ m1 R1 S'⟩
  · exact ⟨as, h, ρ, _, _, R, S, e1, A⟩
theorem s_asg (he : PE X e (tE X.K cls Φ Z e')) (hg : PG X tg (tG X.K t)) (hs : swapsWithSole [tg] e pos.line X.env = pure false := by rfl) (hw : swappedStores [tg] e X.env = pure none := by rfl)
    (h1 : (assignEach [tg] X.env).map (·.2) = [assign tg X.env] := by rfl) : PS X (.Assign [tg] e pos) (tS X.K cls Φ Z (.asg t e')) := PS.imp (ps_asg he hg hs hw h1) fun D σ H q => tS_asg q
/-- name = [..] on one line -/
theorem s_asgLc {i : Nat} {y : Str} {py : Pos} {elt tg iter : Expr} {ifs : List Expr} {scope : Scope} {own : List (Str × Nat)} {pos spos : Pos} {k : IK} {src ifs' : List E} {elt' : E} {Z0 : XK} (hc : X.calm = true) (hN : X.N.Nodup) (hy : X.N[i]? = some y) (hyl : X.env.scope.names.lookup y = some .local)
    (hsw : swapsWith (.ListComp elt [⟨tg, iter, ifs, 0⟩] scope pos) (some (.Name y py)) spos.line X.env = pure true) (hi : PI X tg iter (tI X.K cls Φ Z k src)) (ok : BlkOk X.N X.env.scope scope own)
    (hg : ∀ (s : Shared) (H : Hp) (C : Addr) (cl : List (Str × Addr)) (fp : List Addr), PG (X.blk s H scope (compEnvC scope cl C X.env) fp) tg (tG X.K t)) (hsl : (t.slots.all fun i => decide (i ∈ own.map (·.2))) = true)
    (ht : ∀ (s : Shared) (H : Hp) (C : Addr) (cl : List (Str × Addr)) (fp : List Addr), PTs (X.blk s H scope (compEnvC scope cl C X.env) fp) ifs (tTs X.K cls Φ Z0 ifs'))
    (he : ∀ (s : Shared) (H : Hp) (C : Addr) (cl : List (Str × Addr)) (fp : List Addr), PE (X.blk s H scope (compEnvC scope cl C X.env) fp) elt (tE X.K cls Φ Z0 elt')) (hs : ∀ x, foldedSetIterable iter X.env x = pure x := by intro _; rfl) :
    PS X (.Assign [.Name y py] (.ListComp elt [⟨tg, iter, ifs, 0⟩] scope pos) spos) (tS X.K cls Φ Z (.asg (.nm i) (.lc (own.map (·.2)) t k src ifs' elt'))) := PS.imp (ps_setLc hc hN hy hyl hsw hi ok hg ht he hs) fun D σ H q => by
  refine tE_lc hsl ?_
  obtain ⟨as, h, ρ, r, h', R, S, e, A⟩ := tS_asg q
  refine ⟨as, h, ρ, r, h', R, S, e, ?_⟩
  cases r with
  | ex c w => exact A
  | ok w =>
    intro as1 H1 v m1 R1 rw
    obtain ⟨as2, h2, w2, ρ2, ρ2', R2, rw2, S2, es, k⟩ := A as1 H1 v m1 R1 rw
    have es : some (ρ2.set i (some w2)) = some ρ2' := es
    cases es
    exact k _ (S2.set i rw2) (fun us hu => Off.set us fun j hj => hu j (by unfold T.slots; exact hj))
/-- a, b = x, y with plain local names -/
theorem s_par {i j : Nat} {x y : Str} {a b : Expr} {a' b' : E} {px py pt : Pos} {kt k2 pt2} (hc : X.calm = true) (hN : X.N.Nodup) (hi : X.N[i]? = some x) (hj : X.N[j]? = some y) (hij : i ≠ j)
    (hx : X.env.scope.names.lookup x = some .local) (hy : X.env.scope.names.lookup y = some .local) (ha : PA X [a, b] (tA X.K cls Φ Z [a', b']))
    (hw : swappedStores [.Tuple [.Name x px, .Name y py] kt pt] (.Tuple [a, b] k2 pt2) X.env = pure (some [x, y]))
    (hs : swapsWithSole [.Tuple [.Name x px, .Name y py] kt pt] (.Tuple [a, b] k2 pt2) pos.line X.env = pure false := by rfl) :
    PS X (.Assign [.Tuple [.Name x px, .Name y py] kt pt] (.Tuple [a, b] k2 pt2) pos) (tS X.K cls Φ Z (.asg (.tp [.nm i, .nm j]) (.tup [a', b']))) := PS.imp (ps_par hc hN hi hj hij hx hy ha hw hs) fun D σ H q => by
  obtain ⟨as, h, ρ, r, h', R, S, e, A⟩ := q
  rw [ex, ev] at e
  rcases bnd_inv e with ⟨w, h1, e1, e2⟩ | ⟨c, w, e1, rfl⟩
  · rcases bnd_inv e1 with ⟨ws, h2, e3, e4⟩ | ⟨c, w, e3, z⟩
    · obtain ⟨_, e4⟩ := chk_inv e4
      cases e4
      refine ⟨as, h, ρ, _, _, R, S, e3, fun as1 H1 vs m1 R1 rs => ?_⟩
      rcases ws with _ | ⟨w1, _ | ⟨w2, _ | ⟨w3, ws⟩⟩⟩
      · exact (stuck_no (h := h1) e2).elim
      · exact (stuck_no (h := h1) e2).elim
      · cases rs with
        | cons r1 t => cases t with
          | cons r2 t2 =>
            cases t2
            cases (show Bi.ret (Fl.nx, (ρ.set i (some w1)).set j (some w2)) h1 = some (r, h') from e2)
            exact ⟨_, _, rfl, A _ _ _ m1 R1 (((S.mono R m1).set i r1).set j r2)⟩
      · exact (stuck_no (h := h1) e2).elim
    · cases z
  · rcases bnd_inv e1 with ⟨ws, h2, e3, e4⟩ | ⟨c', w', e3, z⟩
    · obtain ⟨_, e4⟩ := chk_inv e4
      cases e4
    · cases z
      exact ⟨as, h, ρ, .ex c w, h', R, S, e3, A⟩
/-- d[k] = v of a dict -/
theorem s_stoD {o i value : Expr} {o' i' v' : E} {pos' : Pos} (hu : X.A.units + 65 < cLine) (ho : PE X o (tE X.K cls Φ Z o')) (hi : PE X i (tE X.K cls Φ Z i')) (hv : PE X value (tE X.K cls Φ Z v')) (hs : swapsWith value (some (.Subscript o i pos')) pos.line X.env = pure false := by rfl) :
    PS X (.Assign [.Subscript o i pos'] value pos) (tS X.K cls Φ Z (.stoD o' i' v')) := PS.imp (ps_dput (by omega) ho hi hv hs) fun D σ H q => by
  obtain ⟨as, h, ρ, r, h', R, S, e, A⟩ := q
  rw [ex] at e
  rcases bnd_inv e with ⟨wv, h1, e1, e2⟩ | ⟨c, w, e1, rfl⟩
  · refine ⟨as, h, ρ, _, _, R, S, e1, fun as1 H1 v1 m1 R1 rv => ?_⟩
    rcases bnd_inv e2 with ⟨wd, h2, e3, e4⟩ | ⟨c, w, e3, rfl⟩
    · refine ⟨as1, h1, ρ, _, _, R1, S.mono R m1, e3, fun as2 H2 v2 m2 R2 rd => ?_⟩
      rcases bnd_inv e4 with ⟨wk, h3, e5, e6⟩ | ⟨c, w, e5, rfl⟩
      · refine ⟨as2, h2, ρ, _, _, R2, S.mono R (m1.trans m2), e5, fun as3 H3 v3 m3 R3 rk => ?_⟩
        rcases bnd_inv e6 with ⟨u, h4, e7, e8⟩ | ⟨c, w, e7, rfl⟩
        · cases e8
          unfold putD at e7
          cases wd with
          | loc l =>
            obtain ⟨ob, hl, e7⟩ := Option.bind_eq_some_iff.mp (show ((h3[l]?).bind fun o => (dput o wk wv).map fun o' => (Rs.ok (), h3.set l o')) = some (Rs.ok u, _) from e7)
            obtain ⟨o2, ho2, e7⟩ := Option.map_eq_some_iff.mp e7
            cases e7
            obtain ⟨a, rfl, ha, ro⟩ := R3.at_ (rd.mono R2 m3) hl
            obtain ⟨H4, g, m4, R4⟩ := dput_rel R3 hl ha rk (rv.mono R1 (m2.trans m3)) ho2
            exact ⟨a, H4, rfl, g, A _ _ _ (m1.trans (m2.trans (m3.trans m4))) R4 (S.mono R (m1.trans (m2.trans (m3.trans m4))))⟩
          | _ => exact (stuck_no (h := h3) e7).elim
        · unfold putD at e7
          cases wd with
          | loc l =>
            obtain ⟨ob, hl, e7⟩ := Option.bind_eq_some_iff.mp (show ((h3[l]?).bind fun o => (dput o wk wv).map fun o' => (Rs.ok (), h3.set l o')) = some (Rs.ex c w, h') from e7)
            obtain ⟨o2, ho2, e7⟩ := Option.map_eq_some_iff.mp e7
            cases e7
          | _ => exact (stuck_no (h := h3) e7).elim
      · exact ⟨as2, h2, ρ, _, _, R2, S.mono R (m1.trans m2), e5, AftS.mono (m1.trans m2) A⟩
    · exact ⟨as1, h1, ρ, _, _, R1, S.mono R m1, e3, AftS.mono m1 A⟩
  · exact ⟨as, h, ρ, _, _, R, S, e1, A⟩
/-- n += e, n -= e of ints -/
theorem s_augI {i : Nat} {x : Str} {op : Operator} {o : B2} {f : Int → Int → Int} {pos' : Pos} (hN : X.N.Nodup) (hi : X.N[i]? = some x) (hx : Loc X.env.scope x) (he : PE X e (tE X.K cls Φ Z e')) (ho : PIp X op (ipI f)) (hof : ∀ (a b : W) (r : Rs W) (h h' : Store) (j : Int), b = .int j → op2 o a b h = some (r, h') → ∃ i, a = .int i ∧ r = .ok (.int (f i j)) ∧ h' = h) (hoz : ∀ (a b : W) (r : Rs W) (h h' : Store) (i : Int), a = .int i → op2 o a b h = some (r, h') → ∃ j, b = .int j)
    (hf : X.fn x = true ∨ X.env.scope.names.lookup x = some .local := by first | exact .inl rfl | exact .inr rfl | assumption) :
    PS X (.AugAssign (.Name x pos') op e pos) (tS X.K cls Φ Z (.augI i o e')) := PS.imp (ps_aug hN hi hx he ho hf) fun D σ H q => by
  obtain ⟨as, h, ρ, r, h', R, S, e, A⟩ := q
  rw [ex] at e
  rcases hq : ρ[i]? with _ | _ | x0
  · rw [hq] at e; exact (stuck_no (h := h) e).elim
  · rw [hq] at e; exact (stuck_no (h := h) e).elim
  · rw [hq] at e
    obtain ⟨v0, hv, rv⟩ := S.at_ i _ hq
    refine ⟨v0, hv, ?_⟩
    cases x0 with
    | int i0 =>
      have e : bnd (ev Φ e' ρ) (fun y => bnd (op2 o (.int i0) y) fun z => Bi.ret (Fl.nx, ρ.set i (some z))) h = some (r, h') := e
      rcases bnd_inv e with ⟨w, h1, e1, e2⟩ | ⟨c, w, e1, rfl⟩
      · refine ⟨as, h, ρ, _, _, R, S, e1, fun as1 H1 v1 m1 R1 r1 => ?_⟩
        rcases bnd_inv e2 with ⟨z, h2, e3, e4⟩ | ⟨c, w', e3, rfl⟩
        · obtain ⟨j, rfl⟩ := hoz _ _ _ _ _ i0 rfl e3
          obtain ⟨i1, q1, q2, rfl⟩ := hof _ _ _ _ _ j rfl e3
          cases q1; cases q2; cases e4; cases rv; cases r1
          exact ⟨i0, j, rfl, rfl, A _ _ _ m1 R1 ((S.mono R m1).set i (.int _))⟩
        · obtain ⟨j, rfl⟩ := hoz _ _ _ _ _ i0 rfl e3
          obtain ⟨i1, q1, q2, _⟩ := hof _ _ _ _ _ j rfl e3
          cases q2
      · exact ⟨as, h, ρ, _, _, R, S, e1, A⟩
    | _ => exact (stuck_no (h := h) e).elim
theorem s_iadd {i : Nat} {x : Str} {pos' : Pos} (hN : X.N.Nodup) (hi : X.N[i]? = some x) (hx : Loc X.env.scope x) (he : PE X e (tE X.K cls Φ Z e')) (hf : X.fn x = true ∨ X.env.scope.names.lookup x = some .local := by first | exact .inl rfl | exact .inr rfl | assumption) :
    PS X (.AugAssign (.Name x pos') .Add e pos) (tS X.K cls Φ Z (.augI i .add e')) := s_augI hN hi hx he ip_add (fun a b r h h' j hb e => by
      subst hb
      cases a with
      | int i => cases e; exact ⟨i, rfl, rfl, rfl⟩
      | _ => exact (stuck_no (h := h) e).elim) (fun a b r h h' i ha e => by
      subst ha
      cases b with
      | int j => exact ⟨j, rfl⟩
      | _ => exact (stuck_no (h := h) e).elim) hf
theorem s_isub {i : Nat} {x : Str} {pos' : Pos} (hN : X.N.Nodup) (hi : X.N[i]? = some x) (hx : Loc X.env.scope x) (he : PE X e (tE X.K cls Φ Z e')) (hf : X.fn x = true ∨ X.env.scope.names.lookup x = some .local := by first | exact .inl rfl | exact .inr rfl | assumption) :
    PS X (.AugAssign (.Name x pos') .Sub e pos) (tS X.K cls Φ Z (.augI i .sub e')) := s_augI hN hi hx he ip_sub (fun a b r h h' j hb e => by
      subst hb
      cases a with
      | int i => cases e; exact ⟨i, rfl, rfl, rfl⟩
      | _ => exact (stuck_no (h := h) e).elim) (fun a b r h h' i ha e => by
      subst ha
      cases b with
      | int j => exact ⟨j, rfl⟩
      | _ => exact (stuck_no (h := h) e).elim) hf
end
end Bi
set_option maxHeartbeats 1000000
namespace Bi
open PySem PySem.Spec PyProof.Rows L2
section
variable {X : Cx} {cls : Nat → Option (Addr × Str)} {Φ : Ora} {Z : XK} {as : List Addr} {H : Hp} {h h' : Store} {Q : VK}
variable {e tg c : Expr} {e' c' : E} {st : Stmt} {sts : List Stmt} {s : S} {ss : List S} {t : T} {pos p : Pos}

noncomputable def forF (Φ : Ora) (t : T) (b : List S) (w : W) (ρ : Env) : M (Fl × Env) := match setT t w ρ with
  | some ρ' => exs Φ b ρ'
  | none => stuck
theorem ex_for (k : IK) (src : List E) (b : List S) (ρ : Env) : ex Φ (.for_ t k src b) ρ = bnd (evs Φ src ρ) fun ws => bnd (items k ws) fun p => forM p.2 (forF Φ t b) p.1 ρ := by
  rw [ex]; rfl
theorem s_for {iter : Expr} {body : List Stmt} {k : IK} {src : List E} {b : List S} (hp : PassesOwn (model X.prog X.w) X.A X.env X.xe) (hc : X.calm = true) (hi : PI X tg iter (tI X.K cls Φ Z k src)) (hg : PG X tg (tG X.K t)) (hb : PSs X body (tSs X.K cls Φ Z b))
    (hs : ∀ x, foldedSetIterable iter X.env x = pure x := by intro _; rfl) : PS X (.For tg iter body [] pos) (tS X.K cls Φ Z (.for_ t k src b)) := PS.imp (ps_for hp hc hi hg hb hs) fun D σ H q => by
  obtain ⟨as, h, ρ, r, h', R, S, e, A⟩ := q
  rw [ex_for] at e
  have e0 : (∃ p h1, bnd (evs Φ src ρ) (items k) h = some (.ok p, h1) ∧ forM p.2 (forF Φ t b) p.1 ρ h1 = some (r, h')) ∨ ∃ c w, bnd (evs Φ src ρ) (items k) h = some (.ex c w, h') ∧ r = .ex c w := by
    rcases bnd_inv e with ⟨ws, h1, e1, e2⟩ | ⟨c, w, e1, rfl⟩
    · rcases bnd_inv e2 with ⟨p, h2, e3, e4⟩ | ⟨c, w, e3, rfl⟩
      · exact .inl ⟨p, h2, by rw [bnd_ok e1, e3], e4⟩
      · exact .inr ⟨c, w, by rw [bnd_ok e1, e3], rfl⟩
    · exact .inr ⟨c, w, by unfold bnd; rw [e1], rfl⟩
  rcases e0 with ⟨⟨its, c⟩, h1, e1, e2⟩ | ⟨c, w, e1, rfl⟩
  · refine ⟨as, h, ρ, _, _, R, S, e1, fun as1 H1 J m1 R1 st JR => ?_⟩
    have JR : JRel X.K as1 H1 J its c := JR
    have e2 : forM c (forF Φ t b) its ρ h1 = some (r, h') := e2
    refine ⟨fun i m σ H => ∃ as2 h2 ρ2, Mono as1 H1 as2 H ∧ Rp X.K as2 H h2 ∧ RS X.K as2 H ρ2 σ ∧ forM c (forF Φ t b) (its.drop i) ρ2 h2 = some (r, h') ∧ m = its.length - i ∧ i ≤ its.length, ⟨_, as1, h1, ρ, .refl, R1, S.mono R m1, e2, rfl, Nat.zero_le _⟩, ?_⟩
    rintro i m σ2 H2 ⟨as2, h2, ρ2, m2, R2, S2, e3, rfl, hi⟩
    by_cases hlt : i < its.length
    · right
      rw [List.drop_eq_getElem_cons hlt] at e3
      unfold forM at e3
      split at e3
      · rename_i st2
        refine ⟨JR.go _ _ _ _ m2 R2 st2 hlt, fun σ H => ∃ as2 h2 ρ2, Mono as1 H1 as2 H ∧ Rp X.K as2 H h2 ∧ RS X.K as2 H ρ2 σ ∧ forM c (forF Φ t b) (its.drop (i + 1)) ρ2 h2 = some (r, h'), ?_, ?_⟩
        · rintro σ' H' ⟨as3, h3, ρ3, q1, q2, q3, q4⟩
          exact ⟨its.length - (i + 1), by omega, as3, h3, ρ3, q1, q2, q3, q4, rfl, hlt⟩
        · intro x H3 y
          obtain ⟨m3, R3, rx⟩ := JR.yld _ _ _ _ _ _ _ m2 R2 st2 (List.getElem?_eq_getElem hlt) y
          rcases bnd_inv e3 with ⟨⟨fl, ρ4⟩, h4, e4, e5⟩ | ⟨c', w', e4, rfl⟩
          · unfold forF at e4
            cases hset : setT t its[i] ρ2 with
            | none => rw [hset] at e4; exact (stuck_no (h := h2) e4).elim
            | some ρ' =>
              rw [hset] at e4
              refine ⟨as2, h2, its[i], ρ2, ρ', R3, rx, S2.mono R2 m3, hset, fun σ' S' _ => ?_⟩
              refine ⟨as2, h2, ρ', _, _, R3, S', e4, ?_⟩
              cases fl with
              | nx => exact fun as5 H5 σ5 m5 R5 S5 => ⟨as5, h4, ρ4, m2.trans (m3.trans m5), R5, S5, e5⟩
              | cnt => exact fun as5 H5 σ5 m5 R5 S5 => ⟨as5, h4, ρ4, m2.trans (m3.trans m5), R5, S5, e5⟩
              | brk => cases e5; exact fun as5 H5 σ5 m5 R5 S5 => A _ _ _ (m1.trans (m2.trans (m3.trans m5))) R5 S5
              | ret w => cases e5; exact fun as5 H5 σ5 m5 R5 S5 => A _ _ _ (m1.trans (m2.trans (m3.trans m5))) R5 S5
          · unfold forF at e4
            cases hset : setT t its[i] ρ2 with
            | none => rw [hset] at e4; exact (stuck_no (h := h2) e4).elim
            | some ρ' =>
              rw [hset] at e4
              refine ⟨as2, h2, its[i], ρ2, ρ', R3, rx, S2.mono R2 m3, hset, fun σ' S' _ => ?_⟩
              exact ⟨as2, h2, ρ', _, _, R3, S', e4, AftS.mono (m1.trans (m2.trans m3)) A⟩
      · cases e3
    · left
      have hie : i = its.length := by omega
      subst hie
      rw [List.drop_length] at e3
      unfold forM at e3
      split at e3
      · rename_i st2
        cases e3
        exact ⟨JR.stop _ _ _ m2 R2 st2, A _ _ _ (m1.trans m2) R2 S2⟩
      · cases e3
  · exact ⟨as, h, ρ, _, _, R, S, e1, A⟩

/-! ### while -/
theorem whM_inv {tf : Env → M (Env × Bool)} {f : Env → M (Fl × Env)} {ρ : Env} {r : Rs (Fl × Env)} (e : whM tf f ρ h = some (r, h')) : ∃ n, whN tf f n ρ h = some (r, h') := by
  unfold whM at e
  split at e
  · exact ⟨_, e⟩
  · cases e
theorem s_while {body : List Stmt} {b : List S} (hp : PassesOwn (model X.prog X.w) X.A X.env X.xe) (hc : PT X c (tT X.K cls Φ Z c')) (hb : PSs X body (tSs X.K cls Φ Z b)) : PS X (.While c body [] pos) (tS X.K cls Φ Z (.whl c' b)) := PS.imp (ps_while hp hc hb) fun D σ H q => by
  obtain ⟨as, h, ρ, r, h', R, S, e, A⟩ := q
  rw [ex] at e
  obtain ⟨n, e⟩ := whM_inv e
  refine ⟨fun m σ H => ∃ as2 h2 ρ2, Mono as _ as2 H ∧ Rp X.K as2 H h2 ∧ RS X.K as2 H ρ2 σ ∧ whN (fun ρ => bnd (ev Φ c' ρ) fun x => bnd (truth x) fun c => Bi.ret (ρ, c)) (fun ρ => exs Φ b ρ) m ρ2 h2 = some (r, h'), ⟨n, as, h, ρ, .refl, R, S, e⟩, ?_⟩
  rintro m σ2 H2 ⟨as2, h2, ρ2, m2, R2, S2, e2⟩
  cases m with
  | zero => exact (stuck_no (h := h2) e2).elim
  | succ m =>
    unfold whN at e2
    have e3 : (∃ x t h3, ev Φ c' ρ2 h2 = some (.ok x, h3) ∧ truth x h3 = some (.ok t, h3) ∧ (if t = true then bnd (exs Φ b ρ2) (fun r => match r with
      | (.nx, ρ) => whN (fun ρ => bnd (ev Φ c' ρ) fun x => bnd (truth x) fun c => Bi.ret (ρ, c)) (fun ρ => exs Φ b ρ) m ρ
      | (.cnt, ρ) => whN (fun ρ => bnd (ev Φ c' ρ) fun x => bnd (truth x) fun c => Bi.ret (ρ, c)) (fun ρ => exs Φ b ρ) m ρ
      | (.brk, ρ) => Bi.ret (.nx, ρ)
      | (.ret v, ρ) => Bi.ret (.ret v, ρ)) else Bi.ret (.nx, ρ2)) h3 = some (r, h')) ∨ ∃ c w, evT Φ c' ρ2 h2 = some (.ex c w, h') ∧ r = .ex c w := by
      rcases bnd_inv e2 with ⟨p, h3, q1, q2⟩ | ⟨c, w, q1, rfl⟩
      · rcases bnd_inv q1 with ⟨x, h4, q3, q4⟩ | ⟨c, w, q3, z⟩
        · rcases bnd_inv q4 with ⟨t, h5, q5, q6⟩ | ⟨c, w, q5, z⟩
          · cases q6
            have := truth_st q5
            subst this
            exact .inl ⟨x, t, _, q3, q5, q2⟩
          · cases z
        · cases z
      · rcases bnd_inv q1 with ⟨x, h4, q3, q4⟩ | ⟨c', w', q3, z⟩
        · rcases bnd_inv q4 with ⟨t, h5, q5, q6⟩ | ⟨c', w', q5, z⟩
          · cases q6
          · cases z; exact .inr ⟨c, w, by unfold evT; rw [bnd_ok q3, q5], rfl⟩
        · cases z; exact .inr ⟨c, w, evT_ex q3, rfl⟩
    rcases e3 with ⟨x, t, h3, q1, q2, q3⟩ | ⟨c, w, q1, rfl⟩
    · refine ⟨as2, h2, ρ2, .ok t, h3, R2, S2, evT_of q1 q2, fun as3 H3 m3 R3 => ?_⟩
      cases t with
      | true =>
        rw [if_pos rfl] at q3 ⊢
        refine ⟨fun σ H => ∃ as2 h2 ρ2, Mono as _ as2 H ∧ Rp X.K as2 H h2 ∧ RS X.K as2 H ρ2 σ ∧ whN (fun ρ => bnd (ev Φ c' ρ) fun x => bnd (truth x) fun c => Bi.ret (ρ, c)) (fun ρ => exs Φ b ρ) m ρ2 h2 = some (r, h'), fun σ' H' q => ⟨m, by omega, q⟩, ?_⟩
        rcases bnd_inv q3 with ⟨⟨fl, ρ4⟩, h4, e4, e5⟩ | ⟨c, w, e4, rfl⟩
        · refine ⟨as3, h3, ρ2, _, _, R3, S2.mono R2 m3, e4, ?_⟩
          cases fl with
          | nx => exact fun as5 H5 σ5 m5 R5 S5 => ⟨as5, h4, ρ4, m2.trans (m3.trans m5), R5, S5, e5⟩
          | cnt => exact fun as5 H5 σ5 m5 R5 S5 => ⟨as5, h4, ρ4, m2.trans (m3.trans m5), R5, S5, e5⟩
          | brk => cases e5; exact fun as5 H5 σ5 m5 R5 S5 => A _ _ _ (m2.trans (m3.trans m5)) R5 S5
          | ret w => cases e5; exact fun as5 H5 σ5 m5 R5 S5 => A _ _ _ (m2.trans (m3.trans m5)) R5 S5
        · exact ⟨as3, h3, ρ2, _, _, R3, S2.mono R2 m3, e4, AftS.mono (m2.trans m3) A⟩
      | false =>
        rw [if_neg (by decide)] at q3 ⊢
        cases q3
        exact A _ _ _ (m2.trans m3) R3 (S2.mono R2 m3)
    · exact ⟨as2, h2, ρ2, _, _, R2, S2, q1, AftS.mono m2 A⟩
/-- while (x := e) is not None -/
theorem s_whw {i k : Nat} {x : Str} {px pn pc pw : Pos} {body : List Stmt} {b : List S} (hp : PassesOwn (model X.prog X.w) X.A X.env X.xe) (hN : X.N.Nodup) (hi : X.N[i]? = some x) (hx : Loc X.env.scope x) (he : PE X e (tE X.K cls Φ Z e')) (hb : PSs X body (tSs X.K cls Φ Z b))
    (hf : X.fn x = true ∨ X.env.scope.names.lookup x = some .local := by first | exact .inl rfl | exact .inr rfl | assumption) :
    PS X (.While (.Compare (.NamedExpr (.Name x px) e pn) [.IsNot] [.Constant .none k pc] pw) body [] pos) (tS X.K cls Φ Z (.whw i e' b)) :=
  PS.imp (ps_whileW hp (ptw_cmp op_notN (pew_named hN hi hx (pew_of he) hf) pe_non (nomark _)) hb pss_nil) fun D σ H q => by
  obtain ⟨as, h, ρ, r, h', R, S, e, A⟩ := q
  rw [ex] at e
  obtain ⟨n, e⟩ := whM_inv e
  refine ⟨fun m σ H => ∃ as2 h2 ρ2, Mono as _ as2 H ∧ Rp X.K as2 H h2 ∧ RS X.K as2 H ρ2 σ ∧ whN (fun ρ => bnd (ev Φ e' ρ) fun x => bnd (op1 .notN x) fun y => bnd (truth y) fun c => Bi.ret (ρ.set i (some x), c)) (fun ρ => exs Φ b ρ) m ρ2 h2 = some (r, h'), ⟨n, as, h, ρ, .refl, R, S, e⟩, ?_⟩
  rintro m σ2 H2 ⟨as2, h2, ρ2, m2, R2, S2, e2⟩
  cases m with
  | zero => exact (stuck_no (h := h2) e2).elim
  | succ m =>
    unfold whN at e2
    cases q1 : ev Φ e' ρ2 h2 with
    | none => unfold bnd at e2; rw [q1] at e2; cases e2
    | some pr =>
      obtain ⟨r1, h3⟩ := pr
      cases r1 with
      | ex c w =>
        have e2 : some (Rs.ex c w, h3) = some (r, h') := by
          unfold bnd at e2; rw [q1] at e2; exact e2
        cases e2
        exact ⟨as2, h2, ρ2, _, _, R2, S2, q1, AftS.mono m2 A⟩
      | ok xv =>
        refine ⟨as2, h2, ρ2, _, _, R2, S2, q1, fun as3 H3 v m3 R3 rv => ⟨rfl, !decide (v = .non), rfl, ?_⟩⟩
        have e3 : (if (!decide (v = .non)) = true then bnd (exs Φ b (ρ2.set i (some xv))) (fun r => match r with
          | (.nx, ρ) => whN (fun ρ => bnd (ev Φ e' ρ) fun x => bnd (op1 .notN x) fun y => bnd (truth y) fun c => Bi.ret (ρ.set i (some x), c)) (fun ρ => exs Φ b ρ) m ρ
          | (.cnt, ρ) => whN (fun ρ => bnd (ev Φ e' ρ) fun x => bnd (op1 .notN x) fun y => bnd (truth y) fun c => Bi.ret (ρ.set i (some x), c)) (fun ρ => exs Φ b ρ) m ρ
          | (.brk, ρ) => Bi.ret (.nx, ρ)
          | (.ret v, ρ) => Bi.ret (.ret v, ρ)) else Bi.ret (.nx, ρ2.set i (some xv))) h3 = some (r, h') := by
          rw [bnd_ok (h1 := h3) (a := (ρ2.set i (some xv), !decide (v = .non)))] at e2
          · exact e2
          · rw [bnd_ok q1, bnd_ok (notN_rel rv)]
            rfl
        by_cases hz : v = .non
        · subst hz
          have hd : (!decide (V.non = V.non)) = false := by simp
          rw [hd] at e3 ⊢
          rw [if_neg (by decide)] at e3
          refine iteF ?_
          cases e3
          exact A _ _ _ (m2.trans m3) R3 ((S2.mono R2 m3).set i rv)
        · have hd : (!decide (v = V.non)) = true := by simp [hz]
          rw [hd] at e3 ⊢
          rw [if_pos rfl] at e3
          refine iteT ?_
          refine ⟨fun σ H => ∃ as2 h2 ρ2, Mono as _ as2 H ∧ Rp X.K as2 H h2 ∧ RS X.K as2 H ρ2 σ ∧ whN (fun ρ => bnd (ev Φ e' ρ) fun x => bnd (op1 .notN x) fun y => bnd (truth y) fun c => Bi.ret (ρ.set i (some x), c)) (fun ρ => exs Φ b ρ) m ρ2 h2 = some (r, h'), fun σ' H' q => ⟨m, by omega, q⟩, ?_⟩
          rcases bnd_inv e3 with ⟨⟨fl, ρ4⟩, h4, e4, e5⟩ | ⟨c, w, e4, rfl⟩
          · refine ⟨as3, h3, _, _, _, R3, (S2.mono R2 m3).set i rv, e4, ?_⟩
            cases fl with
            | nx => exact fun as5 H5 σ5 m5 R5 S5 => ⟨as5, h4, ρ4, m2.trans (m3.trans m5), R5, S5, e5⟩
            | cnt => exact fun as5 H5 σ5 m5 R5 S5 => ⟨as5, h4, ρ4, m2.trans (m3.trans m5), R5, S5, e5⟩
            | brk => cases e5; exact fun as5 H5 σ5 m5 R5 S5 => A _ _ _ (m2.trans (m3.trans m5)) R5 S5
            | ret w => cases e5; exact fun as5 H5 σ5 m5 R5 S5 => A _ _ _ (m2.trans (m3.trans m5)) R5 S5
          · exact ⟨as3, h3, _, _, _, R3, (S2.mono R2 m3).set i rv, e4, AftS.mono (m2.trans m3) A⟩
end

/-! ### a def -/
section
variable {P : Program} {w : World} {K : PySem.W.Frag} {mg : Str → Option Value} {base : Heap}
theorem start_rs {as : List Addr} {H : Hp} {N : List Str} {ws : List W} {vs : List V} (rs : RWs K as H ws vs) : RS K as H (ws.map some ++ List.replicate (N.length - ws.length) none) (L2.start N vs) := by
  unfold L2.start
  rw [rs.length]
  refine ⟨by simp [rs.length], fun i w e => ?_⟩
  by_cases hl : i < ws.length
  · rw [List.getElem?_append_left (by simpa using hl), List.getElem?_map] at e
    obtain ⟨w', h1, h2⟩ := Option.map_eq_some_iff.mp e
    cases h2
    obtain ⟨v, hv, rv⟩ := rs.get h1
    refine ⟨v, ?_, rv⟩
    rw [List.getElem?_append_left (by rw [List.length_map, ← rs.length]; exact hl), List.getElem?_map, hv]; rfl
  · rw [List.getElem?_append_right (by simpa using hl)] at e
    rw [List.getElem?_replicate] at e
    split at e <;> cases e
/-- a def's promise from its body -/
theorem def_ok {cls : Nat → Option (Addr × Str)} {Φ : Ora} {x qual : Str} {st : Stmt} {f : Addr} {fd : FuncData} {N ps : List Str} {k n : Nat} {body : List S} (F : Fun K x qual st f fd) (S : FnScope N ps (defScope st)) (hn : ps.length = n)
    (hbody : ∀ (cdv : Value) (A : Around) (outer : List PySem.Env) (s : Shared) (H : Hp) (Z : XK), Room k (A.deeper (envOfC qual (defScope st) s.heap.objs.size f cdv)) →
      PSs (cxOf CX0 P w K mg base N qual (defScope st) f cdv A outer s H Z).nox (defBody st) (tSs K cls Φ Z body)) :
    FnOk P w K mg base CX0 (k + 1) f fd ps (spB K cls n (runD Φ body N.length)) := by
  refine F.ok S (fun vs H Q E hs => ?_) (fun cdv A outer s H vs Q E hr hs => ?_)
  · obtain ⟨as, h, ws, r, h', hl, R, rs, e, A⟩ := hs
    rw [← rs.length, hl, hn]
  · obtain ⟨as, h, ws, r, h', hl, R, rs, e, A0⟩ := hs
    refine ⟨_, hbody cdv A outer s H E hr, ?_⟩
    unfold runD at e
    rcases bnd_inv e with ⟨⟨fl, ρ'⟩, h1, e1, e2⟩ | ⟨c, w, e1, rfl⟩
    · refine ⟨as, h, _, _, _, R, start_rs (N := N) rs, e1, ?_⟩
      cases fl with
      | nx => cases e2; exact fun as' H' σ' m' R' S' => A0 _ _ _ m' R' .non
      | ret w => cases e2; exact fun as' H' σ' m' R' S' => A0 _ _ _ m' R' S'
      | brk => exact (stuck_no (h := h1) e2).elim
      | cnt => exact (stuck_no (h := h1) e2).elim
    · exact ⟨as, h, _, _, _, R, start_rs (N := N) rs, e1, A0⟩
end
end Bi
set_option maxHeartbeats 1000000
namespace Bi
open PySem PySem.Spec PyProof.Rows L2
/-- no exceptions of the evaluator -/
def cls0 : Nat → Option (Addr × Str) := fun _ => none
/-- a def that stands under its name and keeps the evaluator's promise -/
def Ent (P : Program) (w : World) (K : PySem.W.Frag) (mg : Str → Option Value) (base : Heap) (k : Nat) (Φ : Ora) (i n : Nat) (x : Str) (ps : List Str) : Prop :=
  ∃ f fd, FnOk P w K mg base CX0 k f fd ps (spB K cls0 n (Φ i)) ∧ mg x = some (.ref f) ∧ PySem.W.keepIn K (.ref f) = true ∧ Binds K fd ps []
section
variable {X : Cx} {cls : Nat → Option (Addr × Str)} {Φ : Ora} {Z : XK} {e : Expr} {es : List Expr} {e' : E} {es' : List E} {pos p : Pos} {x : Str} {a : Expr} {a' : E}
theorem s_callE {k n i : Nat} {ps : List Str} (Et : Ent X.prog X.w X.K X.mg X.base k Φ i n x ps) (hr : Room k X.A) (hl : (e' :: es').length = n) (ha : PA X (e :: es) (tA X.K cls0 Φ Z (e' :: es')))
    (hg : L2.Gl X x := by rfl) (hdb : (x == ("__debug__" : Str)) = false := by decide) (he : starEach (e :: es) X.env = (false, eval e X.env) :: starEach es X.env := by rfl) (hpl : (backTo pos (starEach es X.env)).any (·.1) = false := by rfl) :
    PE X (.Call (.Name x p) (e :: es) [] pos) (tE X.K cls0 Φ Z (.call i (e' :: es'))) :=
  let ⟨_, _, F, m, kp, b⟩ := Et
  s_call F hr m kp b (fun _ _ _ _ _ _ _ h => h.elim) hl ha hg hdb he hpl
theorem s_neg (ha : PE X a (tE X.K cls Φ Z a')) : PE X (.UnaryOp .USub a pos) (tE X.K cls Φ Z (.f1 .neg a')) := PE.imp (pe_un un_neg ha) fun σ H Q q => by
  obtain ⟨as, h, ρ, r, h', R, S, e, A⟩ := q
  rw [ev] at e
  rcases bnd_inv e with ⟨w, h1, e1, e2⟩ | ⟨c, w, e1, rfl⟩
  · refine ⟨as, h, ρ, _, _, R, S, e1, fun as1 H1 v m1 R1 rw => ?_⟩
    cases w with
    | int i =>
      cases rw
      have e2 : Bi.ret (W.int (-i)) h1 = some (r, h') := e2
      obtain ⟨rfl, rfl⟩ := ret_inv e2
      exact ⟨i, rfl, A _ _ _ m1 R1 (.int _)⟩
    | _ => exact (stuck_no (h := h1) e2).elim
  · exact ⟨as, h, ρ, _, _, R, S, e1, A⟩
end
/-! ### comparisons as tests -/
theorem op2_bl {o : B2} (ho : o ∈ [B2.lt, .le, .gt, .ge, .eq, .ne, .inn, .nin, .din, .dnin]) {x y : W} {h h' : Store} {r : Rs W} (e : op2 o x y h = some (r, h')) : ∃ b, r = .ok (.bl b) := by
  unfold op2 at e
  split at e <;> first
    | (simp at ho; done)
    | (cases e; exact ⟨_, rfl⟩)
    | (split at e <;> first | (cases e; exact ⟨_, rfl⟩) | cases e)
    | (obtain ⟨t, _, e⟩ := Option.map_eq_some_iff.mp e; cases e; exact ⟨_, rfl⟩)
    | exact (stuck_no (h := h) e).elim
theorem ev_bl2 {Φ : Ora} {o : B2} {a b : E} (ho : o ∈ [B2.lt, .le, .gt, .ge, .eq, .ne, .inn, .nin, .din, .dnin]) {ρ : Env} {h h' : Store} {w : W} (e : ev Φ (.b2 o a b) ρ h = some (.ok w, h')) : ∃ b, w = .bl b := by
  rw [ev] at e
  rcases bnd_inv e with ⟨x, h1, e1, e2⟩ | ⟨c, w, e1, z⟩
  · rcases bnd_inv e2 with ⟨y, h2, e3, e4⟩ | ⟨c, w, e3, z⟩
    · obtain ⟨b, z⟩ := op2_bl ho e4
      cases z; exact ⟨b, rfl⟩
    · cases z
  · cases z
theorem tT_tE {X : Cx} {cls : Nat → Option (Addr × Str)} {Φ : Ora} {Z : XK} {c' : E} (hbl : ∀ {ρ : Env} {h h' : Store} {w : W}, ev Φ c' ρ h = some (.ok w, h') → ∃ b, w = .bl b) {σ : L2.St} {H : Hp} {Q : Bool → Hp → Prop} (q : tT X.K cls Φ Z c' σ H Q) :
    tE X.K cls Φ Z c' σ H (fun x H' => ∃ k, x = .bl k ∧ Q k H') := by
  obtain ⟨as, h, ρ, r, h', R, S, e, A⟩ := q
  unfold evT at e
  rcases bnd_inv e with ⟨x, h1, e1, e2⟩ | ⟨c, w, e1, rfl⟩
  · obtain ⟨b, rfl⟩ := hbl e1
    cases e2
    refine ⟨as, h, ρ, _, _, R, S, e1, fun as1 H1 v m1 R1 rw => ?_⟩
    cases rw
    exact ⟨b, rfl, A _ _ m1 R1⟩
  · exact ⟨as, h, ρ, _, _, R, S, e1, A⟩
section
variable {X : Cx} {cls : Nat → Option (Addr × Str)} {Φ : Ora} {Z : XK} {a b : Expr} {a' b' : E} {pos p2 : Pos}
theorem st_lt (ha : PE X a (tE X.K cls Φ Z a')) (hb : PE X b (tE X.K cls Φ Z b')) : PT X (.Compare a [.Lt] [b] pos) (tT X.K cls Φ Z (.b2 .lt a' b')) := PT.imp (pt_cmpR op_ltB ha hb (nomark _)) fun _ _ _ q => tE_op2 (g := op2 .lt) (a := a') (b := b') (fun _ => by rw [ev]) (tT_tE (ev_bl2 (o := .lt) (by simp)) q)
theorem st_le (ha : PE X a (tE X.K cls Φ Z a')) (hb : PE X b (tE X.K cls Φ Z b')) : PT X (.Compare a [.LtE] [b] pos) (tT X.K cls Φ Z (.b2 .le a' b')) := PT.imp (pt_cmpR op_leB ha hb (nomark _)) fun _ _ _ q => tE_op2 (g := op2 .le) (a := a') (b := b') (fun _ => by rw [ev]) (tT_tE (ev_bl2 (o := .le) (by simp)) q)
theorem st_gt (ha : PE X a (tE X.K cls Φ Z a')) (hb : PE X b (tE X.K cls Φ Z b')) : PT X (.Compare a [.Gt] [b] pos) (tT X.K cls Φ Z (.b2 .gt a' b')) := PT.imp (pt_cmpR op_gtB ha hb (nomark _)) fun _ _ _ q => tE_op2 (g := op2 .gt) (a := a') (b := b') (fun _ => by rw [ev]) (tT_tE (ev_bl2 (o := .gt) (by simp)) q)
theorem st_ge (ha : PE X a (tE X.K cls Φ Z a')) (hb : PE X b (tE X.K cls Φ Z b')) : PT X (.Compare a [.GtE] [b] pos) (tT X.K cls Φ Z (.b2 .ge a' b')) := PT.imp (pt_cmpR op_geB ha hb (nomark _)) fun _ _ _ q => tE_op2 (g := op2 .ge) (a := a') (b := b') (fun _ => by rw [ev]) (tT_tE (ev_bl2 (o := .ge) (by simp)) q)
theorem st_eq (hu : X.A.units + 65 < cLine) (ha : PE X a (tE X.K cls Φ Z a')) (hb : PE X b (tE X.K cls Φ Z b')) : PT X (.Compare a [.Eq] [b] pos) (tT X.K cls Φ Z (.b2 .eq a' b')) := PT.imp (pt_cmpR (op_eqB (by omega)) ha hb (nomark _)) fun _ _ _ q => tE_op2 (g := op2 .eq) (a := a') (b := b') (fun _ => by rw [ev]) (tT_tE (ev_bl2 (o := .eq) (by simp)) q)
theorem st_ne (hu : X.A.units + 65 < cLine) (ha : PE X a (tE X.K cls Φ Z a')) (hb : PE X b (tE X.K cls Φ Z b')) : PT X (.Compare a [.NotEq] [b] pos) (tT X.K cls Φ Z (.b2 .ne a' b')) := PT.imp (pt_cmpR (op_neB (by omega)) ha hb (nomark _)) fun _ _ _ q => tE_op2 (g := op2 .ne) (a := a') (b := b') (fun _ => by rw [ev]) (tT_tE (ev_bl2 (o := .ne) (by simp)) q)
theorem st_in (hu : X.A.units + 65 < cLine) (ha : PE X a (tE X.K cls Φ Z a')) (hb : PE X b (tE X.K cls Φ Z b')) (hm : behindInMarks .In b = false := by rfl) : PT X (.Compare a [.In] [b] pos) (tT X.K cls Φ Z (.b2 .inn a' b')) := PT.imp (pt_cmpR (op_inB hu) ha hb hm) fun _ _ _ q => tE_op2 (g := op2 .inn) (a := a') (b := b') (fun _ => by rw [ev]) (tT_tE (ev_bl2 (o := .inn) (by simp)) q)
theorem st_nin (hu : X.A.units + 65 < cLine) (ha : PE X a (tE X.K cls Φ Z a')) (hb : PE X b (tE X.K cls Φ Z b')) (hm : behindInMarks .NotIn b = false := by rfl) : PT X (.Compare a [.NotIn] [b] pos) (tT X.K cls Φ Z (.b2 .nin a' b')) := PT.imp (pt_cmpR (op_ninB hu) ha hb hm) fun _ _ _ q => tE_op2 (g := op2 .nin) (a := a') (b := b') (fun _ => by rw [ev]) (tT_tE (ev_bl2 (o := .nin) (by simp)) q)
theorem ev_blN {f : F1} (hf : f = .isN ∨ f = .notN) {a : E} {ρ : Env} {h h' : Store} {w : W} (e : ev Φ (.f1 f a) ρ h = some (.ok w, h')) : ∃ b, w = .bl b := by
  rw [ev] at e
  rcases bnd_inv e with ⟨x, h1, e1, e2⟩ | ⟨c, w, e1, z⟩
  · rcases hf with rfl | rfl <;> cases x <;> (cases e2; exact ⟨_, rfl⟩)
  · cases z
theorem st_isN {k : Nat} (ha : PE X a (tE X.K cls Φ Z a')) : PT X (.Compare a [.Is] [.Constant .none k p2] pos) (tT X.K cls Φ Z (.f1 .isN a')) := PT.imp (pt_cmpR op_isN ha pe_non (nomark _)) fun σ H Q q => by
  obtain ⟨as, h, ρ, r, h', R, S, e, A⟩ := tT_tE (ev_blN (.inl rfl)) q
  rw [ev] at e
  rcases bnd_inv e with ⟨w, h1, e1, e2⟩ | ⟨c, w, e1, rfl⟩
  · refine ⟨as, h, ρ, _, _, R, S, e1, fun as1 H1 v1 m1 R1 rw1 => ⟨rfl, ?_⟩⟩
    rw [isN_rel rw1] at e2
    cases e2
    exact A _ _ _ m1 R1 (.bl _)
  · exact ⟨as, h, ρ, _, _, R, S, e1, A⟩
theorem st_notN {k : Nat} (ha : PE X a (tE X.K cls Φ Z a')) : PT X (.Compare a [.IsNot] [.Constant .none k p2] pos) (tT X.K cls Φ Z (.f1 .notN a')) := PT.imp (pt_cmpR op_notN ha pe_non (nomark _)) fun σ H Q q => by
  obtain ⟨as, h, ρ, r, h', R, S, e, A⟩ := tT_tE (ev_blN (.inr rfl)) q
  rw [ev] at e
  rcases bnd_inv e with ⟨w, h1, e1, e2⟩ | ⟨c, w, e1, rfl⟩
  · refine ⟨as, h, ρ, _, _, R, S, e1, fun as1 H1 v1 m1 R1 rw1 => ⟨rfl, ?_⟩⟩
    rw [notN_rel rw1] at e2
    cases e2
    exact A _ _ _ m1 R1 (.bl _)
  · exact ⟨as, h, ρ, _, _, R, S, e1, A⟩
end
theorem fnok_zero {P : Program} {w : World} {K : PySem.W.Frag} {mg : Str → Option Value} {base : Heap} {k : Nat} {f : Addr} {fd : FuncData} {ps : List Str} {n : Nat} : FnOk P w K mg base CX0 k f fd ps (spB K cls0 n (fun _ => stuck)) :=
  ⟨fun vs H Q E ⟨as, h, ws, r, h', _, _, _, e, _⟩ => (stuck_no (h := h) e).elim, fun A outer s H args us vs Q E _ _ _ _ ⟨as, h, ws, r, h', _, _, _, e, _⟩ => (stuck_no (h := h) e).elim⟩
end Bi
set_option maxHeartbeats 4000000
/-! running the evaluator by rules -/
namespace Bi
open PySem L2

theorem bnd_some {α β : Type} {m : M α} {f : α → M β} {h h1 : Store} {a : α} (e : m h = some (.ok a, h1)) : bnd m f h = f a h1 := by unfold bnd; rw [e]
section
variable {Φ : Ora} {ρ ρ' ρ'' : Env} {h h1 h2 h3 h4 : Store} {w x y z : W} {ws us : List W} {a b c e : E} {es : List E} {s : S} {ss : List S} {i : Nat}
theorem e_v (q : ρ[i]? = some (some w)) : ev Φ (.v i) ρ h = some (.ok w, h) := by rw [ev, q]; rfl
theorem e_c : ev Φ (.c w) ρ h = some (.ok w, h) := by rw [ev]; rfl
theorem e_b2 {o : B2} (ha : ev Φ a ρ h = some (.ok x, h1)) (hb : ev Φ b ρ h1 = some (.ok y, h2)) (ho : op2 o x y h2 = some (.ok z, h3)) : ev Φ (.b2 o a b) ρ h = some (.ok z, h3) := by
  rw [ev, bnd_some ha, bnd_some hb, ho]
theorem e_f1 {f : F1} (ha : ev Φ a ρ h = some (.ok x, h1)) (ho : op1 f x h1 = some (.ok z, h2)) : ev Φ (.f1 f a) ρ h = some (.ok z, h2) := by
  rw [ev, bnd_some ha, ho]
theorem e_fn {f : Fn} (ha : evs Φ es ρ h = some (.ok ws, h1)) (ho : opn f ws h1 = some (.ok z, h2)) : ev Φ (.fn f es) ρ h = some (.ok z, h2) := by
  rw [ev, bnd_some ha, ho]
theorem e_me {k : Kd} {f : Fn} (ha : ev Φ a ρ h = some (.ok x, h1)) (hk : kind k x h1 = some (.ok (), h1)) (hs : evs Φ es ρ h1 = some (.ok ws, h2)) (ho : opn f (x :: ws) h2 = some (.ok z, h3)) : ev Φ (.me k f a es) ρ h = some (.ok z, h3) := by
  rw [ev, bnd_some ha, bnd_some hk, bnd_some hs, ho]
theorem e_and {t : Bool} {r} (ha : ev Φ a ρ h = some (.ok x, h1)) (ht : truth x h1 = some (.ok t, h1)) (hb : (if t = true then ev Φ b ρ h1 else some (.ok x, h1)) = r) : ev Φ (.and a b) ρ h = r := by
  rw [ev, bnd_some ha, bnd_some ht]
  cases t <;> exact hb
theorem e_or {t : Bool} {r} (ha : ev Φ a ρ h = some (.ok x, h1)) (ht : truth x h1 = some (.ok t, h1)) (hb : (if t = true then some (.ok x, h1) else ev Φ b ρ h1) = r) : ev Φ (.or a b) ρ h = r := by
  rw [ev, bnd_some ha, bnd_some ht]
  cases t <;> exact hb
theorem e_not {t : Bool} (ha : ev Φ a ρ h = some (.ok x, h1)) (ht : truth x h1 = some (.ok t, h1)) : ev Φ (.not a) ρ h = some (.ok (.bl (!t)), h1) := by
  rw [ev, bnd_some ha, bnd_some ht]; rfl
theorem e_ite {t : Bool} {r} (ha : ev Φ c ρ h = some (.ok x, h1)) (ht : truth x h1 = some (.ok t, h1)) (hb : (if t = true then ev Φ a ρ h1 else ev Φ b ρ h1) = r) : ev Φ (.ite c a b) ρ h = r := by
  rw [ev, bnd_some ha, bnd_some ht]
  cases t <;> exact hb
theorem e_tup (hs : evs Φ es ρ h = some (.ok ws, h1)) (hz : ws.length ≤ sizeLine) : ev Φ (.tup es) ρ h = some (.ok (.tup ws), h1) := by
  rw [ev, bnd_some hs]; unfold chk; rw [if_pos hz]; rfl
theorem e_lst (hs : evs Φ es ρ h = some (.ok ws, h1)) (hz : ws.length ≤ sizeLine) : ev Φ (.lst es) ρ h = some (.ok (.loc h1.length), h1 ++ [.lst ws]) := by
  rw [ev, bnd_some hs]; unfold chk; rw [if_pos hz]; rfl
theorem e_dnewK : ev Φ .dnewK ρ h = some (.ok (.loc h.length), h ++ [.dk []]) := by rw [ev]; rfl
theorem e_dnewT : ev Φ .dnewT ρ h = some (.ok (.loc h.length), h ++ [.dt []]) := by rw [ev]; rfl
theorem e_call (hs : evs Φ es ρ h = some (.ok ws, h1)) {r} (hc : Φ i ws h1 = r) : ev Φ (.call i es) ρ h = r := by
  rw [ev, bnd_some hs, hc]
theorem p_no : (if false = true then bnd (ev Φ e ρ) intP else Bi.ret none) h = some (.ok none, h) := rfl
theorem p_yes {j : Int} (ha : ev Φ e ρ h = some (.ok (.int j), h1)) : (if true = true then bnd (ev Φ e ρ) intP else Bi.ret none) h = some (.ok (some j), h1) := by
  rw [if_pos rfl, bnd_some ha]; rfl
theorem e_sl {pl pu : Bool} {l u : Option Int} (ha : ev Φ a ρ h = some (.ok x, h1)) (hl : (if pl = true then bnd (ev Φ b ρ) intP else Bi.ret none) h1 = some (.ok l, h2)) (hu : (if pu = true then bnd (ev Φ c ρ) intP else Bi.ret none) h2 = some (.ok u, h3))
    (ho : slW x l u h3 = some (.ok z, h4)) : ev Φ (.sl pl pu a b c) ρ h = some (.ok z, h4) := by
  rw [ev, bnd_some ha, bnd_some hl, bnd_some hu, ho]
theorem e_inG {neg : Bool} (ha : ev Φ a ρ h = some (.ok x, h1)) (hf : flatW x = true ∧ ws.all flatW = true) : ev Φ (.inG neg a ws) ρ h = some (.ok (.bl (if neg then !(ws.any fun y => eqF y x) else ws.any fun y => eqF y x)), h1) := by
  rw [ev, bnd_some ha]; unfold chk; rw [if_pos hf]; rfl
theorem e_lc {own : List Nat} {t : T} {k : IK} {ifs : List E} {elt : E} {its acc : List W} {ck : Option (Nat × List W)} (hs : evs Φ es ρ h = some (.ok ws, h1)) (hi : items k ws h1 = some (.ok (its, ck), h2)) (hc : compM ck (lcF Φ own t ifs elt ρ) its [] h2 = some (.ok acc, h3)) :
    ev Φ (.lc own t k es ifs elt) ρ h = some (.ok (.loc h3.length), h3 ++ [.lst acc]) := by
  rw [ev_lc, bnd_some hs, bnd_some hi]
  have : noex (compM ck (lcF Φ own t ifs elt ρ) its []) h2 = some (.ok acc, h3) := by unfold noex; rw [hc]
  rw [bnd_some this]; rfl
theorem es_nil : evs Φ [] ρ h = some (.ok [], h) := by rw [evs]; rfl
theorem es_cons (ha : ev Φ e ρ h = some (.ok w, h1)) (hs : evs Φ es ρ h1 = some (.ok ws, h2)) : evs Φ (e :: es) ρ h = some (.ok (w :: ws), h2) := by
  rw [evs, bnd_some ha, bnd_some hs]; rfl
theorem t_nil : tests Φ [] ρ h = some (.ok true, h) := by rw [tests]; rfl
theorem t_one {t : Bool} (ha : ev Φ e ρ h = some (.ok x, h1)) (ht : truth x h1 = some (.ok t, h1)) : tests Φ [e] ρ h = some (.ok t, h1) := by
  rw [tests, bnd_some ha, bnd_some ht]
  cases t <;> first | rfl | (rw [if_pos rfl, tests]; rfl)
/-! statements -/
theorem x_asg {t : T} (ha : ev Φ e ρ h = some (.ok w, h1)) (hs : setT t w ρ = some ρ') : ex Φ (.asg t e) ρ h = some (.ok (.nx, ρ'), h1) := by
  rw [ex, bnd_some ha, hs]; rfl
theorem x_stoD (ha : ev Φ e ρ h = some (.ok w, h1)) (hd : ev Φ a ρ h1 = some (.ok x, h2)) (hk : ev Φ b ρ h2 = some (.ok y, h3)) (hp : putD x y w h3 = some (.ok (), h4)) : ex Φ (.stoD a b e) ρ h = some (.ok (.nx, ρ), h4) := by
  rw [ex, bnd_some ha, bnd_some hd, bnd_some hk, bnd_some hp]; rfl
theorem x_ex (ha : ev Φ e ρ h = some (.ok w, h1)) : ex Φ (.ex e) ρ h = some (.ok (.nx, ρ), h1) := by
  rw [ex, bnd_some ha]; rfl
theorem x_ret (ha : ev Φ e ρ h = some (.ok w, h1)) : ex Φ (.ret e) ρ h = some (.ok (.ret w, ρ), h1) := by
  rw [ex, bnd_some ha]; rfl
theorem x_retN : ex Φ .retN ρ h = some (.ok (.ret .non, ρ), h) := by rw [ex]; rfl
theorem x_augI {o : B2} {j : Int} (hv : ρ[i]? = some (some (.int j))) (ha : ev Φ e ρ h = some (.ok y, h1)) (ho : op2 o (.int j) y h1 = some (.ok z, h2)) : ex Φ (.augI i o e) ρ h = some (.ok (.nx, ρ.set i (some z)), h2) := by
  rw [ex, hv]
  show bnd (ev Φ e ρ) _ h = _
  rw [bnd_some ha, bnd_some ho]; rfl
theorem x_ite {t : Bool} {p q : List S} {r} (ha : ev Φ c ρ h = some (.ok x, h1)) (ht : truth x h1 = some (.ok t, h1)) (hb : (if t = true then exs Φ p ρ h1 else exs Φ q ρ h1) = r) : ex Φ (.ite c p q) ρ h = r := by
  rw [ex, bnd_some ha, bnd_some ht]
  cases t <;> exact hb
theorem x_for {t : T} {k : IK} {bd : List S} {its : List W} {ck : Option (Nat × List W)} {r} (hs : evs Φ es ρ h = some (.ok ws, h1)) (hi : items k ws h1 = some (.ok (its, ck), h2)) (hf : forM ck (forF Φ t bd) its ρ h2 = r) : ex Φ (.for_ t k es bd) ρ h = r := by
  rw [ex_for, bnd_some hs, bnd_some hi, hf]
theorem b_nil : exs Φ [] ρ h = some (.ok (.nx, ρ), h) := by rw [exs]; rfl
theorem b_cons {r} (e : ex Φ s ρ h = some (.ok (.nx, ρ'), h1)) (k : exs Φ ss ρ' h1 = r) : exs Φ (s :: ss) ρ h = r := by
  rw [exs, bnd_some e]; exact k
theorem b_ret (e : ex Φ s ρ h = some (.ok (.ret w, ρ'), h1)) : exs Φ (s :: ss) ρ h = some (.ok (.ret w, ρ'), h1) := by
  rw [exs, bnd_some e]; rfl
theorem b_one {r} (e : ex Φ s ρ h = r) : exs Φ [s] ρ h = r := by
  rw [exs]
  cases r with
  | none => unfold bnd; rw [e]
  | some p =>
    obtain ⟨q, h1⟩ := p
    cases q with
    | ex c w => unfold bnd; rw [e]
    | ok q =>
      rw [bnd_some e]
      obtain ⟨fl, ρ'⟩ := q
      cases fl <;> first | rfl | (rw [exs]; rfl)
theorem d_ret {n : Nat} {body : List S} (e : exs Φ body (ws.map some ++ List.replicate (n - ws.length) none) h = some (.ok (.ret w, ρ'), h1)) : runD Φ body n ws h = some (.ok w, h1) := by
  unfold runD; rw [bnd_some e]; rfl
theorem d_nx {n : Nat} {body : List S} (e : exs Φ body (ws.map some ++ List.replicate (n - ws.length) none) h = some (.ok (.nx, ρ'), h1)) : runD Φ body n ws h = some (.ok .non, h1) := by
  unfold runD; rw [bnd_some e]; rfl
/-! loops, turn by turn -/
theorem c_nil {ck : Option (Nat × List W)} {f : W → M (Option W)} {acc : List W} (st : stands ck h) (hz : acc.length ≤ sizeLine) : compM ck f [] acc h = some (.ok acc, h) := by
  unfold compM; rw [if_pos ⟨st, hz⟩]
theorem c_cons {ck : Option (Nat × List W)} {f : W → M (Option W)} {acc : List W} {r} (st : stands ck h) (e : f w h = some (.ok (some y), h1)) (k : compM ck f ws (acc ++ [y]) h1 = r) : compM ck f (w :: ws) acc h = r := by
  unfold compM; rw [if_pos st, bnd_some e]; exact k
theorem c_skip {ck : Option (Nat × List W)} {f : W → M (Option W)} {acc : List W} {r} (st : stands ck h) (e : f w h = some (.ok none, h1)) (k : compM ck f ws acc h1 = r) : compM ck f (w :: ws) acc h = r := by
  unfold compM; rw [if_pos st, bnd_some e]; exact k
theorem lcF_in {own : List Nat} {t : T} {ifs : List E} {elt : E} (hs : setT t w (wipeB ρ own) = some ρ') (ht : tests Φ ifs ρ' h = some (.ok true, h1)) (he : ev Φ elt ρ' h1 = some (.ok y, h2)) : lcF Φ own t ifs elt ρ w h = some (.ok (some y), h2) := by
  unfold lcF; rw [hs]; show bnd (tests Φ ifs ρ') _ h = _; rw [bnd_some ht, if_pos rfl, bnd_some he]; rfl
theorem lcF_out {own : List Nat} {t : T} {ifs : List E} {elt : E} (hs : setT t w (wipeB ρ own) = some ρ') (ht : tests Φ ifs ρ' h = some (.ok false, h1)) : lcF Φ own t ifs elt ρ w h = some (.ok none, h1) := by
  unfold lcF; rw [hs]; show bnd (tests Φ ifs ρ') _ h = _; rw [bnd_some ht, if_neg (by simp)]; rfl
theorem f_nil {ck : Option (Nat × List W)} {f : W → Env → M (Fl × Env)} (st : stands ck h) : forM ck f [] ρ h = some (.ok (.nx, ρ), h) := by
  unfold forM; rw [if_pos st]
theorem f_cons {ck : Option (Nat × List W)} {f : W → Env → M (Fl × Env)} {r} (st : stands ck h) (e : f w ρ h = some (.ok (.nx, ρ'), h1)) (k : forM ck f ws ρ' h1 = r) : forM ck f (w :: ws) ρ h = r := by
  unfold forM; rw [if_pos st, bnd_some e]; exact k
theorem f_ret {ck : Option (Nat × List W)} {f : W → Env → M (Fl × Env)} (st : stands ck h) (e : f w ρ h = some (.ok (.ret z, ρ'), h1)) : forM ck f (w :: ws) ρ h = some (.ok (.ret z, ρ'), h1) := by
  unfold forM; rw [if_pos st, bnd_some e]; rfl
theorem forF_in {t : T} {bd : List S} {r} (hs : setT t w ρ = some ρ') (e : exs Φ bd ρ' h = r) : forF Φ t bd w ρ h = r := by
  unfold forF; rw [hs]; exact e
/-- a while: the number of turns does not matter -/
theorem whN_mono {tf : Env → M (Env × Bool)} {f : Env → M (Fl × Env)} : ∀ {n m : Nat} {ρ : Env} {h : Store} {r}, whN tf f n ρ h = some r → n ≤ m → whN tf f m ρ h = some r
  | 0, _, _, _, _, e, _ => by cases e
  | n + 1, 0, _, _, _, _, hl => by omega
  | n + 1, m + 1, ρ, h, (r, h'), e, hl => by
    have ih : ∀ {ρ : Env} {h : Store} {r}, whN tf f n ρ h = some r → whN tf f m ρ h = some r := fun e => whN_mono e (by omega)
    unfold whN at e ⊢
    rcases bnd_inv e with ⟨q, h1, e1, e2⟩ | ⟨c, w, e1, rfl⟩
    · rw [bnd_some e1]
      by_cases ht : q.2 = true
      · rw [if_pos ht] at e2 ⊢
        rcases bnd_inv e2 with ⟨⟨fl, ρ2⟩, h2, e3, e4⟩ | ⟨c, w, e3, rfl⟩
        · rw [bnd_some e3]
          cases fl with
          | nx => exact ih e4
          | cnt => exact ih e4
          | brk => exact e4
          | ret v => exact e4
        · unfold bnd; rw [e3]
      · rw [if_neg ht] at e2 ⊢
        exact e2
    · unfold bnd; rw [e1]
theorem whM_of {tf : Env → M (Env × Bool)} {f : Env → M (Fl × Env)} {n : Nat} {r} (e : whN tf f n ρ h = some r) : whM tf f ρ h = some r := by
  unfold whM
  have ex : ∃ n, (whN tf f n ρ h).isSome = true := ⟨n, by rw [e]; rfl⟩
  rw [dif_pos ex]
  have h1 := Classical.choose_spec ex
  obtain ⟨r', hr⟩ := Option.isSome_iff_exists.mp h1
  have h2 := whN_mono hr (Nat.le_max_left _ n)
  have h3 := whN_mono e (Nat.le_max_right (Classical.choose ex) n)
  rw [h2] at h3
  rw [hr, h3]
theorem whM_ex {tf : Env → M (Env × Bool)} {f : Env → M (Fl × Env)} {r} (e : whM tf f ρ h = some r) : ∃ n, whN tf f n ρ h = some r := by
  unfold whM at e
  split at e
  · exact ⟨_, e⟩
  · cases e
/-- one turn -/
theorem wh_turn {tf : Env → M (Env × Bool)} {f : Env → M (Fl × Env)} {r} (ht : tf ρ h = some (.ok (ρ', true), h1)) (hb : f ρ' h1 = some (.ok (.nx, ρ''), h2)) (k : whM tf f ρ'' h2 = some r) : whM tf f ρ h = some r := by
  obtain ⟨n, e⟩ := whM_ex k
  refine whM_of (n := n + 1) ?_
  unfold whN
  rw [bnd_some ht, if_pos rfl, bnd_some hb]; exact e
theorem wh_stop {tf : Env → M (Env × Bool)} {f : Env → M (Fl × Env)} (ht : tf ρ h = some (.ok (ρ', false), h1)) : whM tf f ρ h = some (.ok (.nx, ρ'), h1) := by
  refine whM_of (n := 1) ?_
  unfold whN
  rw [bnd_some ht, if_neg (by simp)]; rfl
theorem wt {t : Bool} (ha : ev Φ c ρ h = some (.ok x, h1)) (ht : truth x h1 = some (.ok t, h1)) : bnd (ev Φ c ρ) (fun x => bnd (truth x) fun c => Bi.ret (ρ, c)) h = some (.ok (ρ, t), h1) := by
  rw [bnd_some ha, bnd_some ht]; rfl
theorem ww (ha : ev Φ c ρ h = some (.ok x, h1)) {t : Bool} (hn : op1 .notN x h1 = some (.ok (.bl t), h1)) : bnd (ev Φ c ρ) (fun x => bnd (op1 .notN x) fun y => bnd (truth y) fun c => Bi.ret (ρ.set i (some x), c)) h = some (.ok (ρ.set i (some x), t), h1) := by
  rw [bnd_some ha, bnd_some hn]; rfl
end
end Bi
set_option maxHeartbeats 4000000
namespace Lw
open PySem PySem.Spec PyProof.Rows L2 Bi
def ir_is_whole : List S :=
  [.ret (.and (.f1 (.isi .int) (.v 0)) (.not (.f1 (.isi .bool) (.v 0))))]
def ir_is_place_form : List S :=
  [.ret (.and (.f1 (.isi .tuple) (.v 0)) (.f1 .all (.lc [1] (.nm 1) .sq [(.v 0)] [] (.and (.call 0 [(.v 1)]) (.b2 .ge (.v 1) (.c (.int 0)))))))]
def ir_children_back : List S :=
  [.asg (.nm 2) (.b2 .ix (.v 1) (.c (.int 1))), .ret (.lc [3] (.nm 3) .rg3 [(.b2 .sub (.f1 .len (.v 2)) (.c (.int 1))), (.f1 .neg (.c (.int 1))), (.f1 .neg (.c (.int 1)))] [] (.tup [(.b2 .add (.v 0) (.tup [(.v 3)])), (.b2 .ix (.v 2) (.v 3))]))]
def ir_all_nodes : List S :=
  [.asg (.nm 1) (.lst []), .asg (.nm 2) (.lst [(.tup [(.tup []), (.v 0)])]), .whl (.v 2) [.asg (.tp [(.nm 3), (.nm 4)]) (.me .list .pop (.v 2) []), .ex (.me .list .append (.v 1) [(.tup [(.v 3), (.v 4)])]), .ex (.me .list .extend (.v 2) [(.call 2 [(.v 3), (.v 4)])])], .ret (.v 1)]
def ir_find_node : List S :=
  [.asg (.nm 2) (.v 0), .for_ (.nm 3) .sq [(.v 1)] [.ite (.b2 .ge (.v 3) (.f1 .len (.b2 .ix (.v 2) (.c (.int 1))))) [.ret (.c .non)] [], .asg (.nm 2) (.b2 .ix (.b2 .ix (.v 2) (.c (.int 1))) (.v 3))], .ret (.v 2)]
def ir_with_node : List S :=
  [.asg (.nm 3) (.v 2), .for_ (.nm 4) .rg3 [(.b2 .sub (.f1 .len (.v 1)) (.c (.int 1))), (.f1 .neg (.c (.int 1))), (.f1 .neg (.c (.int 1)))] [.asg (.tp [(.nm 5), (.nm 6)]) (.call 4 [(.v 0), (.sl false true (.v 1) (.c .non) (.v 4))]), .asg (.nm 7) (.b2 .ix (.v 1) (.v 4)), .asg (.nm 3) (.tup [(.v 5), (.b2 .add (.b2 .add (.sl false true (.v 6) (.c .non) (.v 7)) (.lst [(.v 3)])) (.sl true false (.v 6) (.b2 .add (.v 7) (.c (.int 1))) (.c .non)))])], .ret (.v 3)]
def ir_fresh : List S :=
  [.asg (.nm 1) .dnewT, .for_ (.tp [(.nm 2), (.nm 3)]) .sq [(.f1 .rev (.call 3 [(.v 0)]))] [.asg (.tp [(.nm 4), (.nm 5)]) (.v 3), .stoD (.v 1) (.v 2) (.tup [(.v 4), (.lc [6] (.nm 6) .rg1 [(.f1 .len (.v 5))] [] (.b2 .dix (.v 1) (.b2 .add (.v 2) (.tup [(.v 6)]))))])], .ret (.b2 .dix (.v 1) (.tup []))]
def ir_is_place : List S :=
  [.ret (.and (.call 1 [(.v 1)]) (.f1 .notN (.call 4 [(.v 0), (.v 1)])))]
def ir_check_place : List S :=
  [.ite (.not (.call 7 [(.v 0), (.v 1)])) [.never] []]
def ir_replaced : List S :=
  [.ex (.call 8 [(.v 0), (.v 1)]), .ret (.call 6 [(.call 5 [(.v 0), (.v 1), (.v 2)])])]
def ir_one_differs : List S :=
  [.ite (.or (.b2 .ne (.b2 .ix (.v 0) (.c (.int 0))) (.b2 .ix (.v 1) (.c (.int 0)))) (.b2 .ne (.f1 .len (.b2 .ix (.v 0) (.c (.int 1)))) (.f1 .len (.b2 .ix (.v 1) (.c (.int 1)))))) [.ret (.c .non)] [], .asg (.nm 2) (.lc [3, 4] (.tp [(.nm 3), (.nm 4)]) .en [(.b2 .ix (.v 0) (.c (.int 1)))] [(.b2 .ne (.v 4) (.b2 .ix (.b2 .ix (.v 1) (.c (.int 1))) (.v 3)))] (.v 3)), .ret (.ite (.b2 .eq (.f1 .len (.v 2)) (.c (.int 1))) (.b2 .ix (.v 2) (.c (.int 0))) (.c .non))]
def ir_difference : List S :=
  [.ite (.b2 .eq (.v 0) (.v 1)) [.ret (.c .non)] [], .asg (.nm 2) (.tup []), .asg (.tp [.nm 3, .nm 4]) (.tup [(.v 0), (.v 1)]), .whw 5 (.call 10 [(.v 3), (.v 4)]) [.asg (.nm 2) (.b2 .add (.v 2) (.tup [(.v 5)])), .asg (.nm 3) (.b2 .ix (.b2 .ix (.v 3) (.c (.int 1))) (.v 5)), .asg (.nm 4) (.b2 .ix (.b2 .ix (.v 4) (.c (.int 1))) (.v 5))], .ret (.tup [(.v 2), (.call 6 [(.v 3)]), (.call 6 [(.v 4)])])]
def ir__law_numbers : List S :=
  [.asg (.nm 3) (.b2 .mul (.c (.int 1000003)) (.b2 .add (.v 1) (.c (.int 1)))), .ite (.b2 .lt (.v 1) (.f1 .len (.v 0))) [.asg (.nm 3) (.f1 .int (.b2 .ix (.v 0) (.v 1)))] [], .ite (.b2 .lt (.v 3) (.c (.int 0))) [.asg (.nm 3) (.b2 .sub (.c (.int 1)) (.b2 .mul (.c (.int 2)) (.v 3)))] [], .asg (.nm 4) (.lst []), .for_ (.nm 5) .rg1 [(.v 2)] [.ite (.b2 .ge (.v 3) (.b2 .pow (.c (.int 10)) (.c (.int 18)))) [.ex (.me .list .append (.v 4) [(.b2 .mod (.v 3) (.c (.int 1009)))]), .asg (.nm 3) (.b2 .fdiv (.v 3) (.c (.int 1009)))] [.asg (.nm 6) (.b2 .mod (.b2 .add (.b2 .add (.b2 .mul (.v 3) (.c (.int 48271))) (.b2 .mul (.b2 .add (.v 5) (.c (.int 1))) (.c (.int 69621)))) (.b2 .mul (.v 1) (.c (.int 4001)))) (.c (.int 2147483647))), .asg (.nm 6) (.b2 .mod (.b2 .add (.b2 .mul (.v 6) (.v 6)) (.b2 .mul (.c (.int 16807)) (.b2 .add (.v 5) (.c (.int 3))))) (.c (.int 2147483629))), .ex (.me .list .append (.v 4) [(.b2 .mod (.b2 .fdiv (.v 6) (.c (.int 7))) (.c (.int 1009)))])]], .ret (.v 4)]
def ir__law_labels : List S :=
  [.asg (.nm 3) (.c (.str "abcdefghijklmnopqrstuvwxyz")), .asg (.nm 4) (.call 12 [(.v 0), (.v 1), (.c (.int 30))]), .asg (.nm 5) .dnewK, .for_ (.nm 6) .rg1 [(.v 2)] [.asg (.nm 7) (.b2 .ix (.v 3) (.b2 .mod (.b2 .ix (.v 4) (.b2 .mul (.c (.int 3)) (.v 6))) (.c (.int 26)))), .for_ (.nm 8) .rg1 [(.b2 .ix (.lst [(.c (.int 0)), (.c (.int 0)), (.c (.int 1)), (.c (.int 2)), (.c (.int 7))]) (.b2 .mod (.b2 .ix (.v 4) (.b2 .add (.b2 .mul (.c (.int 3)) (.v 6)) (.c (.int 1)))) (.c (.int 5))))] [.asg (.nm 7) (.b2 .add (.v 7) (.b2 .ix (.v 3) (.b2 .mod (.b2 .add (.b2 .ix (.v 4) (.b2 .add (.b2 .mul (.c (.int 3)) (.v 6)) (.c (.int 2)))) (.b2 .mul (.c (.int 5)) (.v 8))) (.c (.int 26)))))], .ite (.b2 .inn (.v 7) (.tup [(.c (.str "and")), (.c (.str "or")), (.c (.str "not"))])) [.asg (.nm 7) (.b2 .add (.v 7) (.c (.str "x")))] [], .stoD (.v 5) (.v 7) (.c (.bl true))], .ret (.f1 .sorted (.f1 .dkeys (.v 5)))]
def ir__law_tree : List S :=
  [.asg (.nm 4) (.call 12 [(.v 0), (.v 1), (.c (.int 60))]), .asg (.nm 5) (.b2 .add (.c (.int 1)) (.b2 .mod (.b2 .ix (.v 4) (.c (.int 59))) (.v 3))), .asg (.nm 6) (.lc [7] (.nm 7) .rg1 [(.v 5)] [] (.tup [(.b2 .ix (.v 2) (.b2 .mod (.b2 .ix (.v 4) (.b2 .add (.c (.int 30)) (.v 7))) (.f1 .len (.v 2)))), (.lst [])])), .for_ (.nm 7) .rg2 [(.c (.int 1)), (.v 5)] [.ex (.me .list .append (.b2 .ix (.b2 .ix (.v 6) (.fn .max2 [(.c (.int 0)), (.b2 .sub (.b2 .sub (.v 7) (.c (.int 1))) (.b2 .mod (.b2 .ix (.v 4) (.v 7)) (.b2 .add (.c (.int 1)) (.b2 .mod (.b2 .ix (.v 4) (.c (.int 58))) (.c (.int 5))))))])) (.c (.int 1))) [(.b2 .ix (.v 6) (.v 7))])], .ret (.b2 .ix (.v 6) (.c (.int 0)))]
def ir__law_copy : List S :=
  [.ret (.tup [(.b2 .ix (.v 0) (.c (.int 0))), (.lc [1] (.nm 1) .sq [(.b2 .ix (.v 0) (.c (.int 1)))] [] (.call 15 [(.v 1)]))])]
def ir__law_nodes : List S :=
  [.asg (.nm 2) (.lst [(.tup [(.v 1), (.v 0)])]), .for_ (.nm 3) .rg1 [(.f1 .len (.b2 .ix (.v 0) (.c (.int 1))))] [.asg (.nm 2) (.b2 .add (.v 2) (.call 16 [(.b2 .ix (.b2 .ix (.v 0) (.c (.int 1))) (.v 3)), (.b2 .add (.v 1) (.tup [(.v 3)]))]))], .ret (.v 2)]
def ir__law_at : List S :=
  [.for_ (.nm 2) .sq [(.v 1)] [.asg (.nm 0) (.b2 .ix (.b2 .ix (.v 0) (.c (.int 1))) (.v 2))], .ret (.v 0)]
def ir__law_put : List S :=
  [.ite (.b2 .eq (.v 1) (.tup [])) [.ret (.v 2)] [], .asg (.nm 3) (.b2 .ix (.v 1) (.c (.int 0))), .ret (.tup [(.b2 .ix (.v 0) (.c (.int 0))), (.b2 .add (.b2 .add (.sl false true (.b2 .ix (.v 0) (.c (.int 1))) (.c .non) (.v 3)) (.lst [(.call 18 [(.b2 .ix (.b2 .ix (.v 0) (.c (.int 1))) (.v 3)), (.sl true false (.v 1) (.c (.int 1)) (.c .non)), (.v 2)])])) (.sl true false (.b2 .ix (.v 0) (.c (.int 1))) (.b2 .add (.v 3) (.c (.int 1))) (.c .non)))])]
def ir__law_due : List S :=
  [.ite (.b2 .eq (.v 0) (.v 1)) [.ret (.c .non)] [], .asg (.nm 2) (.lc [3] (.nm 3) .sq [(.call 16 [(.v 1), (.tup [])])] [] (.b2 .ix (.v 3) (.c (.int 0)))), .asg (.nm 4) (.tup []), .for_ (.tp [(.nm 5), (.nm 6)]) .sq [(.call 16 [(.v 0), (.tup [])])] [.ite (.and (.b2 .inn (.v 5) (.v 2)) (.and (.b2 .gt (.f1 .len (.v 5)) (.f1 .len (.v 4))) (.b2 .eq (.call 18 [(.v 0), (.v 5), (.call 17 [(.v 1), (.v 5)])]) (.v 1)))) [.asg (.nm 4) (.v 5)] []], .ret (.tup [(.v 4), (.call 17 [(.v 0), (.v 4)]), (.call 17 [(.v 1), (.v 4)])])]
def ir_law : List S :=
  [.asg (.nm 1) (.call 13 [(.v 0), (.c (.int 0)), (.c (.int 4))]), .asg (.tp [.nm 2, .nm 3]) (.tup [(.call 14 [(.v 0), (.c (.int 1)), (.v 1), (.c (.int 14))]), (.call 14 [(.v 0), (.c (.int 2)), (.v 1), (.c (.int 4))])]), .asg (.nm 4) (.call 12 [(.v 0), (.c (.int 3)), (.c (.int 30))]), .asg (.nm 5) (.call 16 [(.v 2), (.tup [])]), .asg (.nm 6) (.lst [(.v 2), (.v 3), (.call 14 [(.v 0), (.c (.int 4)), (.v 1), (.c (.int 14))]), (.tup [(.b2 .ix (.v 2) (.c (.int 0))), (.b2 .add (.b2 .ix (.v 2) (.c (.int 1))) (.lst [(.v 3)]))]), (.tup [(.b2 .ix (.v 2) (.c (.int 0))), (.sl true false (.b2 .ix (.v 2) (.c (.int 1))) (.c (.int 1)) (.c .non))]), (.tup [(.b2 .ix (.v 2) (.c (.int 0))), (.f1 .rev (.b2 .ix (.v 2) (.c (.int 1))))])]), .for_ (.nm 7) .rg1 [(.c (.int 5))] [.asg (.tp [(.nm 8), (.nm 9)]) (.b2 .ix (.v 5) (.b2 .mod (.b2 .ix (.v 4) (.v 7)) (.f1 .len (.v 5)))), .asg (.tp [(.nm 10), (.nm 11)]) (.b2 .ix (.v 5) (.b2 .mod (.b2 .ix (.v 4) (.b2 .add (.c (.int 8)) (.v 7))) (.f1 .len (.v 5)))), .asg (.nm 12) (.call 18 [(.v 2), (.v 8), (.v 3)]), .asg (.nm 6) (.b2 .add (.v 6) (.lst [(.v 12), (.call 18 [(.v 2), (.v 8), (.tup [(.c (.str "zzz")), (.b2 .ix (.v 9) (.c (.int 1)))])]), (.call 18 [(.v 2), (.v 8), (.tup [(.b2 .ix (.v 9) (.c (.int 0))), (.b2 .add (.b2 .ix (.v 9) (.c (.int 1))) (.lst [(.v 3)]))])]), (.call 18 [(.v 2), (.v 8), (.tup [(.b2 .ix (.v 9) (.c (.int 0))), (.sl true false (.b2 .ix (.v 9) (.c (.int 1))) (.c (.int 1)) (.c .non))])])])), .ite (.and (.b2 .ne (.sl false true (.v 10) (.c .non) (.f1 .len (.v 8))) (.v 8)) (.b2 .ne (.sl false true (.v 8) (.c .non) (.f1 .len (.v 10))) (.v 10))) [.ex (.me .list .append (.v 6) [(.call 18 [(.v 12), (.v 10), (.tup [(.b2 .ix (.v 11) (.c (.int 0))), (.b2 .add (.b2 .ix (.v 11) (.c (.int 1))) (.lst [(.v 3)]))])])])] []], .asg (.nm 13) (.call 15 [(.v 2)]), .for_ (.nm 14) .sq [(.v 6)] [.asg (.nm 15) (.call 19 [(.v 2), (.v 14)]), .asg (.nm 16) (.call 11 [(.v 13), (.call 15 [(.v 14)])]), .ite (.b2 .ne (.v 16) (.v 15)) [.ret (.c (.bl false))] [], .ite (.f1 .notN (.v 16)) [.ite (.or (.not (.f1 (.isi .tuple) (.v 16))) (.or (.b2 .ne (.call 9 [(.v 13), (.b2 .ix (.v 16) (.c (.int 0))), (.b2 .ix (.v 16) (.c (.int 2)))]) (.v 14)) (.b2 .ne (.call 9 [(.v 14), (.b2 .ix (.v 16) (.c (.int 0))), (.b2 .ix (.v 16) (.c (.int 1)))]) (.v 2)))) [.ret (.c (.bl false))] [], .ex (.me .list .append (.b2 .ix (.b2 .ix (.v 16) (.c (.int 1))) (.c (.int 1))) [(.c .non)]), .ex (.me .list .append (.b2 .ix (.b2 .ix (.v 16) (.c (.int 2))) (.c (.int 1))) [(.c .non)])] [], .asg (.nm 17) (.call 11 [(.v 14), (.v 2)]), .ite (.or (.and (.f1 .isN (.v 15)) (.f1 .notN (.v 17))) (.and (.f1 .notN (.v 15)) (.b2 .ne (.v 17) (.tup [(.b2 .ix (.v 15) (.c (.int 0))), (.b2 .ix (.v 15) (.c (.int 2))), (.b2 .ix (.v 15) (.c (.int 1)))])))) [.ret (.c (.bl false))] [], .ite (.or (.b2 .ne (.v 13) (.v 2)) (.b2 .ne (.call 11 [(.v 13), (.v 14)]) (.v 15))) [.ret (.c (.bl false))] []], .ret (.and (.b2 .eq (.call 11 [(.tup [(.c (.str "a")), (.lst [])]), (.tup [(.c (.str "b")), (.lst [])])]) (.tup [(.tup []), (.tup [(.c (.str "a")), (.lst [])]), (.tup [(.c (.str "b")), (.lst [])])])) (.b2 .eq (.call 11 [(.tup [(.c (.str "a")), (.lst [(.tup [(.c (.str "b")), (.lst [])]), (.tup [(.c (.str "b")), (.lst [])])])]), (.tup [(.c (.str "a")), (.lst [(.tup [(.c (.str "b")), (.lst [])])])])]) (.tup [(.tup []), (.tup [(.c (.str "a")), (.lst [(.tup [(.c (.str "b")), (.lst [])]), (.tup [(.c (.str "b")), (.lst [])])])]), (.tup [(.c (.str "a")), (.lst [(.tup [(.c (.str "b")), (.lst [])])])])])))]
/-- the defs, one call deep each -/
noncomputable def stepF (Φ : Ora) : Ora := fun i ws => match i with
  | 0 => runD Φ ir_is_whole 1 ws
  | 1 => runD Φ ir_is_place_form 2 ws
  | 2 => runD Φ ir_children_back 4 ws
  | 3 => runD Φ ir_all_nodes 5 ws
  | 4 => runD Φ ir_find_node 4 ws
  | 5 => runD Φ ir_with_node 8 ws
  | 6 => runD Φ ir_fresh 7 ws
  | 7 => runD Φ ir_is_place 2 ws
  | 8 => runD Φ ir_check_place 2 ws
  | 9 => runD Φ ir_replaced 3 ws
  | 10 => runD Φ ir_one_differs 5 ws
  | 11 => runD Φ ir_difference 6 ws
  | 12 => runD Φ ir__law_numbers 7 ws
  | 13 => runD Φ ir__law_labels 9 ws
  | 14 => runD Φ ir__law_tree 8 ws
  | 15 => runD Φ ir__law_copy 2 ws
  | 16 => runD Φ ir__law_nodes 4 ws
  | 17 => runD Φ ir__law_at 3 ws
  | 18 => runD Φ ir__law_put 4 ws
  | 19 => runD Φ ir__law_due 7 ws
  | 20 => runD Φ ir_law 18 ws
  | _ => stuck
noncomputable def Phi : Nat → Ora
  | 0 => fun _ _ => stuck
  | n + 1 => stepF (Phi n)
end Lw
set_option maxHeartbeats 4000000
namespace Lw
open PySem PySem.Spec PyProof.Rows L2 Bi
def top (i : Nat) : Stmt := PySem.Challenge.pw_treesasked_k69_differences_of_trees.main.body.getD i (.Pass ⟨0, 0, 0, 0⟩)
abbrev st_is_whole : Stmt := top 4
abbrev st_is_place_form : Stmt := top 5
abbrev st_children_back : Stmt := top 7
abbrev st_all_nodes : Stmt := top 8
abbrev st_find_node : Stmt := top 9
abbrev st_with_node : Stmt := top 10
abbrev st_fresh : Stmt := top 11
abbrev st_is_place : Stmt := top 13
abbrev st_check_place : Stmt := top 14
abbrev st_replaced : Stmt := top 15
abbrev st_one_differs : Stmt := top 17
abbrev st_difference : Stmt := top 18
abbrev st__law_numbers : Stmt := top 20
abbrev st__law_labels : Stmt := top 21
abbrev st__law_tree : Stmt := top 22
abbrev st__law_copy : Stmt := top 23
abbrev st__law_nodes : Stmt := top 24
abbrev st__law_at : Stmt := top 25
abbrev st__law_put : Stmt := top 26
abbrev st__law_due : Stmt := top 27
abbrev st_law : Stmt := top 28
/-- what the top has left besides the defs -/
structure Txt (K : PySem.W.Frag) (mg : Str → Option Value) : Prop where
  m_isinstance : mg "isinstance" = none
  m_int : mg "int" = none
  m_bool : mg "bool" = none
  m_tuple : mg "tuple" = none
  m_all : mg "all" = none
  m_range : mg "range" = none
  m_len : mg "len" = none
  m_enumerate : mg "enumerate" = none
  m_sorted : mg "sorted" = none
  m_list : mg "list" = none
  m_max : mg "max" = none
/-- each def stands where its name tells -/
structure Facts (K : PySem.W.Frag) (mg : Str → Option Value) : Prop where
  f_is_whole : ∃ f fd, Fun K "is_whole" "is_whole" st_is_whole f fd ∧ mg "is_whole" = some (.ref f) ∧ Binds K fd ["value"] []
  f_is_place_form : ∃ f fd, Fun K "is_place_form" "is_place_form" st_is_place_form f fd ∧ mg "is_place_form" = some (.ref f) ∧ Binds K fd ["value"] []
  f_children_back : ∃ f fd, Fun K "children_back" "children_back" st_children_back f fd ∧ mg "children_back" = some (.ref f) ∧ Binds K fd ["place", "node"] []
  f_all_nodes : ∃ f fd, Fun K "all_nodes" "all_nodes" st_all_nodes f fd ∧ mg "all_nodes" = some (.ref f) ∧ Binds K fd ["tree"] []
  f_find_node : ∃ f fd, Fun K "find_node" "find_node" st_find_node f fd ∧ mg "find_node" = some (.ref f) ∧ Binds K fd ["tree", "place"] []
  f_with_node : ∃ f fd, Fun K "with_node" "with_node" st_with_node f fd ∧ mg "with_node" = some (.ref f) ∧ Binds K fd ["tree", "place", "node"] []
  f_fresh : ∃ f fd, Fun K "fresh" "fresh" st_fresh f fd ∧ mg "fresh" = some (.ref f) ∧ Binds K fd ["tree"] []
  f_is_place : ∃ f fd, Fun K "is_place" "is_place" st_is_place f fd ∧ mg "is_place" = some (.ref f) ∧ Binds K fd ["tree", "value"] []
  f_check_place : ∃ f fd, Fun K "check_place" "check_place" st_check_place f fd ∧ mg "check_place" = some (.ref f) ∧ Binds K fd ["tree", "value"] []
  f_replaced : ∃ f fd, Fun K "replaced" "replaced" st_replaced f fd ∧ mg "replaced" = some (.ref f) ∧ Binds K fd ["tree", "place", "node"] []
  f_one_differs : ∃ f fd, Fun K "one_differs" "one_differs" st_one_differs f fd ∧ mg "one_differs" = some (.ref f) ∧ Binds K fd ["node", "other"] []
  f_difference : ∃ f fd, Fun K "difference" "difference" st_difference f fd ∧ mg "difference" = some (.ref f) ∧ Binds K fd ["tree", "other"] []
  f__law_numbers : ∃ f fd, Fun K "_law_numbers" "_law_numbers" st__law_numbers f fd ∧ mg "_law_numbers" = some (.ref f) ∧ Binds K fd ["script", "at", "many"] []
  f__law_labels : ∃ f fd, Fun K "_law_labels" "_law_labels" st__law_labels f fd ∧ mg "_law_labels" = some (.ref f) ∧ Binds K fd ["script", "at", "many"] []
  f__law_tree : ∃ f fd, Fun K "_law_tree" "_law_tree" st__law_tree f fd ∧ mg "_law_tree" = some (.ref f) ∧ Binds K fd ["script", "at", "labels", "most"] []
  f__law_copy : ∃ f fd, Fun K "_law_copy" "_law_copy" st__law_copy f fd ∧ mg "_law_copy" = some (.ref f) ∧ Binds K fd ["tree"] []
  f__law_nodes : ∃ f fd, Fun K "_law_nodes" "_law_nodes" st__law_nodes f fd ∧ mg "_law_nodes" = some (.ref f) ∧ Binds K fd ["tree", "place"] []
  f__law_at : ∃ f fd, Fun K "_law_at" "_law_at" st__law_at f fd ∧ mg "_law_at" = some (.ref f) ∧ Binds K fd ["tree", "place"] []
  f__law_put : ∃ f fd, Fun K "_law_put" "_law_put" st__law_put f fd ∧ mg "_law_put" = some (.ref f) ∧ Binds K fd ["tree", "place", "node"] []
  f__law_due : ∃ f fd, Fun K "_law_due" "_law_due" st__law_due f fd ∧ mg "_law_due" = some (.ref f) ∧ Binds K fd ["tree", "other"] []
  f_law : ∃ f fd, Fun K "law" "law" st_law f fd ∧ mg "law" = some (.ref f) ∧ Binds K fd ["script"] []
section
variable {P : Program} {w : World} {K : PySem.W.Frag} {mg : Str → Option Value} {base : Heap} {k : Nat} {Φ : Ora}
structure Tab (P : Program) (w : World) (K : PySem.W.Frag) (mg : Str → Option Value) (base : Heap) (k : Nat) (Φ : Ora) : Prop where
  e_is_whole : Ent P w K mg base k Φ 0 1 "is_whole" ["value"]
  e_is_place_form : Ent P w K mg base k Φ 1 1 "is_place_form" ["value"]
  e_children_back : Ent P w K mg base k Φ 2 2 "children_back" ["place", "node"]
  e_all_nodes : Ent P w K mg base k Φ 3 1 "all_nodes" ["tree"]
  e_find_node : Ent P w K mg base k Φ 4 2 "find_node" ["tree", "place"]
  e_with_node : Ent P w K mg base k Φ 5 3 "with_node" ["tree", "place", "node"]
  e_fresh : Ent P w K mg base k Φ 6 1 "fresh" ["tree"]
  e_is_place : Ent P w K mg base k Φ 7 2 "is_place" ["tree", "value"]
  e_check_place : Ent P w K mg base k Φ 8 2 "check_place" ["tree", "value"]
  e_replaced : Ent P w K mg base k Φ 9 3 "replaced" ["tree", "place", "node"]
  e_one_differs : Ent P w K mg base k Φ 10 2 "one_differs" ["node", "other"]
  e_difference : Ent P w K mg base k Φ 11 2 "difference" ["tree", "other"]
  e__law_numbers : Ent P w K mg base k Φ 12 3 "_law_numbers" ["script", "at", "many"]
  e__law_labels : Ent P w K mg base k Φ 13 3 "_law_labels" ["script", "at", "many"]
  e__law_tree : Ent P w K mg base k Φ 14 4 "_law_tree" ["script", "at", "labels", "most"]
  e__law_copy : Ent P w K mg base k Φ 15 1 "_law_copy" ["tree"]
  e__law_nodes : Ent P w K mg base k Φ 16 2 "_law_nodes" ["tree", "place"]
  e__law_at : Ent P w K mg base k Φ 17 2 "_law_at" ["tree", "place"]
  e__law_put : Ent P w K mg base k Φ 18 3 "_law_put" ["tree", "place", "node"]
  e__law_due : Ent P w K mg base k Φ 19 2 "_law_due" ["tree", "other"]
  e_law : Ent P w K mg base k Φ 20 1 "law" ["script"]
theorem sc_is_whole : FnScope ["value"] ["value"] (defScope st_is_whole) := ⟨rfl, rfl, rfl, by decide +kernel, rfl, by decide +kernel, by decide +kernel⟩
theorem ok_is_whole {f : Addr} {fd : FuncData} (F : Fun K "is_whole" "is_whole" st_is_whole f fd) (T : Txt K mg) (E : Tab P w K mg base k Φ) : FnOk P w K mg base CX0 (k + 1) f fd ["value"] (spB K cls0 1 (runD Φ ir_is_whole 1)) :=
  def_ok F sc_is_whole rfl fun cdv A outer s H Z hr => by
    have hu : (A.deeper (envOfC "is_whole" (defScope st_is_whole) s.heap.objs.size f cdv)).units + 65 < cLine := by have := hr.un; omega
    exact (ss_cons (s_ret (s_and (s_isi .int rfl (by decide +kernel) (by decide) (by decide) (s_v 0) T.m_isinstance T.m_int) (s_one (s_not (s_isi .bool rfl (by decide +kernel) (by decide) (by decide) (s_v 0) T.m_isinstance T.m_bool))))) ss_nil)
theorem sc_is_place_form : FnScope ["value", "index"] ["value"] (defScope st_is_place_form) := ⟨rfl, rfl, rfl, by decide +kernel, rfl, by decide +kernel, by decide +kernel⟩
theorem ok_is_place_form {f : Addr} {fd : FuncData} (F : Fun K "is_place_form" "is_place_form" st_is_place_form f fd) (T : Txt K mg) (E : Tab P w K mg base k Φ) : FnOk P w K mg base CX0 (k + 1) f fd ["value"] (spB K cls0 1 (runD Φ ir_is_place_form 2)) :=
  def_ok F sc_is_place_form rfl fun cdv A outer s H Z hr => by
    have hu : (A.deeper (envOfC "is_place_form" (defScope st_is_place_form) s.heap.objs.size f cdv)).units + 65 < cLine := by have := hr.un; omega
    exact (ss_cons (s_ret (s_and (s_isi .tuple rfl (by decide +kernel) (by decide) (by decide) (s_v 0) T.m_isinstance T.m_tuple) (s_one (s_all rfl (s_lc (Z0 := Z) (own := [("index", 1)]) rfl sc_is_place_form.nd (i_sq (s_v 0)) (blkOk_by (N := ["value", "index"]) (sc := defScope st_is_place_form) (by decide +kernel)) (fun _ _ _ _ _ => (g_nm (i := 1) sc_is_place_form.nd rfl (by first | exact Or.inl rfl | exact Or.inr rfl))) (by decide) (fun _ _ _ _ _ => ts_nil) (fun _ _ _ _ _ => (s_and (s_callE E.e_is_whole hr rfl (s_cons (s_v 1) s_nil)) (s_one (s_ge (s_v 1) s_int))))) T.m_all)))) ss_nil)
theorem sc_children_back : FnScope ["place", "node", "children", "index"] ["place", "node"] (defScope st_children_back) := ⟨rfl, rfl, rfl, by decide +kernel, rfl, by decide +kernel, by decide +kernel⟩
theorem ok_children_back {f : Addr} {fd : FuncData} (F : Fun K "children_back" "children_back" st_children_back f fd) (T : Txt K mg) (E : Tab P w K mg base k Φ) : FnOk P w K mg base CX0 (k + 1) f fd ["place", "node"] (spB K cls0 2 (runD Φ ir_children_back 4)) :=
  def_ok F sc_children_back rfl fun cdv A outer s H Z hr => by
    have hu : (A.deeper (envOfC "children_back" (defScope st_children_back) s.heap.objs.size f cdv)).units + 65 < cLine := by have := hr.un; omega
    exact (ss_cons (s_asg (s_ix (s_v 1) s_int) (g_nm (i := 2) sc_children_back.nd rfl (by first | exact Or.inl rfl | exact Or.inr rfl))) (ss_cons (s_ret (s_lc (Z0 := Z) (own := [("index", 3)]) rfl sc_children_back.nd (i_rg3 (s_sub (s_len (s_v 2) T.m_len) s_int) (s_neg s_int) (s_neg s_int) T.m_range) (blkOk_by (N := ["place", "node", "children", "index"]) (sc := defScope st_children_back) (by decide +kernel)) (fun _ _ _ _ _ => (g_nm (i := 3) sc_children_back.nd rfl (by first | exact Or.inl rfl | exact Or.inr rfl))) (by decide) (fun _ _ _ _ _ => ts_nil) (fun _ _ _ _ _ => (s_tup (s_cons (s_add (s_v 0) (s_tup (s_cons (s_v 3) s_nil))) (s_cons (s_ix (s_v 2) (s_v 3)) s_nil)))))) ss_nil))
theorem sc_all_nodes : FnScope ["tree", "found", "waiting", "place", "node"] ["tree"] (defScope st_all_nodes) := ⟨rfl, rfl, rfl, by decide +kernel, rfl, by decide +kernel, by decide +kernel⟩
theorem ok_all_nodes {f : Addr} {fd : FuncData} (F : Fun K "all_nodes" "all_nodes" st_all_nodes f fd) (T : Txt K mg) (E : Tab P w K mg base k Φ) : FnOk P w K mg base CX0 (k + 1) f fd ["tree"] (spB K cls0 1 (runD Φ ir_all_nodes 5)) :=
  def_ok F sc_all_nodes rfl fun cdv A outer s H Z hr => by
    have hu : (A.deeper (envOfC "all_nodes" (defScope st_all_nodes) s.heap.objs.size f cdv)).units + 65 < cLine := by have := hr.un; omega
    exact (ss_cons (s_asg (s_lst s_nil) (g_nm (i := 1) sc_all_nodes.nd rfl (by first | exact Or.inl rfl | exact Or.inr rfl))) (ss_cons (s_asg (s_lst (s_cons (s_tup (s_cons (s_tup s_nil) (s_cons (s_v 0) s_nil))) s_nil)) (g_nm (i := 2) sc_all_nodes.nd rfl (by first | exact Or.inl rfl | exact Or.inr rfl))) (ss_cons (s_while PassesOwn.never (st_of (s_v 2)) (ss_cons (s_asg (s_pop (s_v 2)) (g_tp (n := 2) rfl (gs_cons (g_nm (i := 3) sc_all_nodes.nd rfl (by first | exact Or.inl rfl | exact Or.inr rfl)) (gs_cons (g_nm (i := 4) sc_all_nodes.nd rfl (by first | exact Or.inl rfl | exact Or.inr rfl)) gs_nil)) rfl)) (ss_cons (s_expr (s_append (s_v 1) (s_tup (s_cons (s_v 3) (s_cons (s_v 4) s_nil))))) (ss_cons (s_expr (s_extend (s_v 2) (s_callE E.e_children_back hr rfl (s_cons (s_v 3) (s_cons (s_v 4) s_nil))))) ss_nil)))) (ss_cons (s_ret (s_v 1)) ss_nil))))
theorem sc_find_node : FnScope ["tree", "place", "node", "index"] ["tree", "place"] (defScope st_find_node) := ⟨rfl, rfl, rfl, by decide +kernel, rfl, by decide +kernel, by decide +kernel⟩
theorem ok_find_node {f : Addr} {fd : FuncData} (F : Fun K "find_node" "find_node" st_find_node f fd) (T : Txt K mg) (E : Tab P w K mg base k Φ) : FnOk P w K mg base CX0 (k + 1) f fd ["tree", "place"] (spB K cls0 2 (runD Φ ir_find_node 4)) :=
  def_ok F sc_find_node rfl fun cdv A outer s H Z hr => by
    have hu : (A.deeper (envOfC "find_node" (defScope st_find_node) s.heap.objs.size f cdv)).units + 65 < cLine := by have := hr.un; omega
    exact (ss_cons (s_asg (s_v 0) (g_nm (i := 2) sc_find_node.nd rfl (by first | exact Or.inl rfl | exact Or.inr rfl))) (ss_cons (s_for PassesOwn.never rfl (i_sq (s_v 1)) (g_nm (i := 3) sc_find_node.nd rfl (by first | exact Or.inl rfl | exact Or.inr rfl)) (ss_cons (s_if (st_ge (s_v 3) (s_len (s_ix (s_v 2) s_int) T.m_len)) (ss_cons (s_ret s_non) ss_nil) ss_nil) (ss_cons (s_asg (s_ix (s_ix (s_v 2) s_int) (s_v 3)) (g_nm (i := 2) sc_find_node.nd rfl (by first | exact Or.inl rfl | exact Or.inr rfl))) ss_nil))) (ss_cons (s_ret (s_v 2)) ss_nil)))
theorem sc_with_node : FnScope ["tree", "place", "node", "found", "size", "label", "children", "index"] ["tree", "place", "node"] (defScope st_with_node) := ⟨rfl, rfl, rfl, by decide +kernel, rfl, by decide +kernel, by decide +kernel⟩
theorem ok_with_node {f : Addr} {fd : FuncData} (F : Fun K "with_node" "with_node" st_with_node f fd) (T : Txt K mg) (E : Tab P w K mg base k Φ) : FnOk P w K mg base CX0 (k + 1) f fd ["tree", "place", "node"] (spB K cls0 3 (runD Φ ir_with_node 8)) :=
  def_ok F sc_with_node rfl fun cdv A outer s H Z hr => by
    have hu : (A.deeper (envOfC "with_node" (defScope st_with_node) s.heap.objs.size f cdv)).units + 65 < cLine := by have := hr.un; omega
    exact (ss_cons (s_asg (s_v 2) (g_nm (i := 3) sc_with_node.nd rfl (by first | exact Or.inl rfl | exact Or.inr rfl))) (ss_cons (s_for PassesOwn.never rfl (i_rg3 (s_sub (s_len (s_v 1) T.m_len) s_int) (s_neg s_int) (s_neg s_int) T.m_range) (g_nm (i := 4) sc_with_node.nd rfl (by first | exact Or.inl rfl | exact Or.inr rfl)) (ss_cons (s_asg (s_callE E.e_find_node hr rfl (s_cons (s_v 0) (s_cons (s_sl (s_v 1) s_pNone (s_pSome (s_v 4))) s_nil))) (g_tp (n := 2) rfl (gs_cons (g_nm (i := 5) sc_with_node.nd rfl (by first | exact Or.inl rfl | exact Or.inr rfl)) (gs_cons (g_nm (i := 6) sc_with_node.nd rfl (by first | exact Or.inl rfl | exact Or.inr rfl)) gs_nil)) rfl)) (ss_cons (s_asg (s_ix (s_v 1) (s_v 4)) (g_nm (i := 7) sc_with_node.nd rfl (by first | exact Or.inl rfl | exact Or.inr rfl))) (ss_cons (s_asg (s_tup (s_cons (s_v 5) (s_cons (s_add (s_add (s_sl (s_v 6) s_pNone (s_pSome (s_v 7))) (s_lst (s_cons (s_v 3) s_nil))) (s_sl (s_v 6) (s_pSome (s_add (s_v 7) s_int)) s_pNone)) s_nil))) (g_nm (i := 3) sc_with_node.nd rfl (by first | exact Or.inl rfl | exact Or.inr rfl))) ss_nil)))) (ss_cons (s_ret (s_v 3)) ss_nil)))
theorem sc_fresh : FnScope ["tree", "found", "place", "node", "label", "children", "index"] ["tree"] (defScope st_fresh) := ⟨rfl, rfl, rfl, by decide +kernel, rfl, by decide +kernel, by decide +kernel⟩
theorem ok_fresh {f : Addr} {fd : FuncData} (F : Fun K "fresh" "fresh" st_fresh f fd) (T : Txt K mg) (E : Tab P w K mg base k Φ) : FnOk P w K mg base CX0 (k + 1) f fd ["tree"] (spB K cls0 1 (runD Φ ir_fresh 7)) :=
  def_ok F sc_fresh rfl fun cdv A outer s H Z hr => by
    have hu : (A.deeper (envOfC "fresh" (defScope st_fresh) s.heap.objs.size f cdv)).units + 65 < cLine := by have := hr.un; omega
    exact (ss_cons (s_asg s_dnewT (g_nm (i := 1) sc_fresh.nd rfl (by first | exact Or.inl rfl | exact Or.inr rfl))) (ss_cons (s_for PassesOwn.never rfl (i_sq (s_revL (s_callE E.e_all_nodes hr rfl (s_cons (s_v 0) s_nil)))) (g_tp (n := 2) rfl (gs_cons (g_nm (i := 2) sc_fresh.nd rfl (by first | exact Or.inl rfl | exact Or.inr rfl)) (gs_cons (g_nm (i := 3) sc_fresh.nd rfl (by first | exact Or.inl rfl | exact Or.inr rfl)) gs_nil)) rfl) (ss_cons (s_asg (s_v 3) (g_tp (n := 2) rfl (gs_cons (g_nm (i := 4) sc_fresh.nd rfl (by first | exact Or.inl rfl | exact Or.inr rfl)) (gs_cons (g_nm (i := 5) sc_fresh.nd rfl (by first | exact Or.inl rfl | exact Or.inr rfl)) gs_nil)) rfl)) (ss_cons (s_stoD hu (s_v 1) (s_v 2) (s_tup (s_cons (s_v 4) (s_cons (s_lc (Z0 := Z) (own := [("index", 6)]) rfl sc_fresh.nd (i_rg1 (s_len (s_v 5) T.m_len) T.m_range) (blkOk_by (N := ["tree", "found", "place", "node", "label", "children", "index"]) (sc := defScope st_fresh) (by decide +kernel)) (fun _ _ _ _ _ => (g_nm (i := 6) sc_fresh.nd rfl (by first | exact Or.inl rfl | exact Or.inr rfl))) (by decide) (fun _ _ _ _ _ => ts_nil) (fun _ _ _ _ _ => (s_dix hu (s_v 1) (s_add (s_v 2) (s_tup (s_cons (s_v 6) s_nil))) (fun _ _ => rfl)))) s_nil)))) ss_nil))) (ss_cons (s_ret (s_dix hu (s_v 1) (s_tup s_nil) (fun _ _ => rfl))) ss_nil)))
theorem sc_is_place : FnScope ["tree", "value"] ["tree", "value"] (defScope st_is_place) := ⟨rfl, rfl, rfl, by decide +kernel, rfl, by decide +kernel, by decide +kernel⟩
theorem ok_is_place {f : Addr} {fd : FuncData} (F : Fun K "is_place" "is_place" st_is_place f fd) (T : Txt K mg) (E : Tab P w K mg base k Φ) : FnOk P w K mg base CX0 (k + 1) f fd ["tree", "value"] (spB K cls0 2 (runD Φ ir_is_place 2)) :=
  def_ok F sc_is_place rfl fun cdv A outer s H Z hr => by
    have hu : (A.deeper (envOfC "is_place" (defScope st_is_place) s.heap.objs.size f cdv)).units + 65 < cLine := by have := hr.un; omega
    exact (ss_cons (s_ret (s_and (s_callE E.e_is_place_form hr rfl (s_cons (s_v 1) s_nil)) (s_one (s_notN (s_callE E.e_find_node hr rfl (s_cons (s_v 0) (s_cons (s_v 1) s_nil))))))) ss_nil)
theorem sc_check_place : FnScope ["tree", "value"] ["tree", "value"] (defScope st_check_place) := ⟨rfl, rfl, rfl, by decide +kernel, rfl, by decide +kernel, by decide +kernel⟩
theorem ok_check_place {f : Addr} {fd : FuncData} (F : Fun K "check_place" "check_place" st_check_place f fd) (T : Txt K mg) (E : Tab P w K mg base k Φ) : FnOk P w K mg base CX0 (k + 1) f fd ["tree", "value"] (spB K cls0 2 (runD Φ ir_check_place 2)) :=
  def_ok F sc_check_place rfl fun cdv A outer s H Z hr => by
    have hu : (A.deeper (envOfC "check_place" (defScope st_check_place) s.heap.objs.size f cdv)).units + 65 < cLine := by have := hr.un; omega
    exact (ss_cons (s_if (st_not (st_of (s_callE E.e_is_place hr rfl (s_cons (s_v 0) (s_cons (s_v 1) s_nil))))) (ss_cons s_never ss_nil) ss_nil) ss_nil)
theorem sc_replaced : FnScope ["tree", "place", "node"] ["tree", "place", "node"] (defScope st_replaced) := ⟨rfl, rfl, rfl, by decide +kernel, rfl, by decide +kernel, by decide +kernel⟩
theorem ok_replaced {f : Addr} {fd : FuncData} (F : Fun K "replaced" "replaced" st_replaced f fd) (T : Txt K mg) (E : Tab P w K mg base k Φ) : FnOk P w K mg base CX0 (k + 1) f fd ["tree", "place", "node"] (spB K cls0 3 (runD Φ ir_replaced 3)) :=
  def_ok F sc_replaced rfl fun cdv A outer s H Z hr => by
    have hu : (A.deeper (envOfC "replaced" (defScope st_replaced) s.heap.objs.size f cdv)).units + 65 < cLine := by have := hr.un; omega
    exact (ss_cons (s_expr (s_callE E.e_check_place hr rfl (s_cons (s_v 0) (s_cons (s_v 1) s_nil)))) (ss_cons (s_ret (s_callE E.e_fresh hr rfl (s_cons (s_callE E.e_with_node hr rfl (s_cons (s_v 0) (s_cons (s_v 1) (s_cons (s_v 2) s_nil)))) s_nil))) ss_nil))
theorem sc_one_differs : FnScope ["node", "other", "differing", "index", "child"] ["node", "other"] (defScope st_one_differs) := ⟨rfl, rfl, rfl, by decide +kernel, rfl, by decide +kernel, by decide +kernel⟩
theorem ok_one_differs {f : Addr} {fd : FuncData} (F : Fun K "one_differs" "one_differs" st_one_differs f fd) (T : Txt K mg) (E : Tab P w K mg base k Φ) : FnOk P w K mg base CX0 (k + 1) f fd ["node", "other"] (spB K cls0 2 (runD Φ ir_one_differs 5)) :=
  def_ok F sc_one_differs rfl fun cdv A outer s H Z hr => by
    have hu : (A.deeper (envOfC "one_differs" (defScope st_one_differs) s.heap.objs.size f cdv)).units + 65 < cLine := by have := hr.un; omega
    exact (ss_cons (s_if (st_pw (sw_or (st_ne hu (s_ix (s_v 0) s_int) (s_ix (s_v 1) s_int)) (sw_or1 (st_ne hu (s_len (s_ix (s_v 0) s_int) T.m_len) (s_len (s_ix (s_v 1) s_int) T.m_len))))) (ss_cons (s_ret s_non) ss_nil) ss_nil) (ss_cons (s_asgLc (Z0 := Z) (own := [("index", 3), ("child", 4)]) rfl sc_one_differs.nd (i := 2) rfl rfl (sw_true rfl rfl rfl (by decide +kernel)) (i_en (s_ix (s_v 0) s_int) T.m_enumerate) (blkOk_by (N := ["node", "other", "differing", "index", "child"]) (sc := defScope st_one_differs) (by decide +kernel)) (fun _ _ _ _ _ => (g_tp (n := 2) rfl (gs_cons (g_nm (i := 3) sc_one_differs.nd rfl (by first | exact Or.inl rfl | exact Or.inr rfl)) (gs_cons (g_nm (i := 4) sc_one_differs.nd rfl (by first | exact Or.inl rfl | exact Or.inr rfl)) gs_nil)) rfl)) (by decide) (fun _ _ _ _ _ => (ts_one (st_ne hu (s_v 4) (s_ix (s_ix (s_v 1) s_int) (s_v 3))))) (fun _ _ _ _ _ => (s_v 3))) (ss_cons (s_ret (s_ite (st_eq hu (s_len (s_v 2) T.m_len) s_int) (s_ix (s_v 2) s_int) s_non)) ss_nil)))
theorem sc_difference : FnScope ["tree", "other", "place", "one", "two", "index"] ["tree", "other"] (defScope st_difference) := ⟨rfl, rfl, rfl, by decide +kernel, rfl, by decide +kernel, by decide +kernel⟩
theorem ok_difference {f : Addr} {fd : FuncData} (F : Fun K "difference" "difference" st_difference f fd) (T : Txt K mg) (E : Tab P w K mg base k Φ) : FnOk P w K mg base CX0 (k + 1) f fd ["tree", "other"] (spB K cls0 2 (runD Φ ir_difference 6)) :=
  def_ok F sc_difference rfl fun cdv A outer s H Z hr => by
    have hu : (A.deeper (envOfC "difference" (defScope st_difference) s.heap.objs.size f cdv)).units + 65 < cLine := by have := hr.un; omega
    exact (ss_cons (s_if (st_eq hu (s_v 0) (s_v 1)) (ss_cons (s_ret s_non) ss_nil) ss_nil) (ss_cons (s_asg (s_tup s_nil) (g_nm (i := 2) sc_difference.nd rfl (by first | exact Or.inl rfl | exact Or.inr rfl))) (ss_cons (s_par (i := 3) (j := 4) rfl sc_difference.nd rfl rfl (by decide) rfl rfl (s_cons (s_v 0) (s_cons (s_v 1) s_nil)) (by rfl)) (ss_cons (s_whw (i := 5) PassesOwn.never sc_difference.nd rfl (by first | exact Or.inl rfl | exact Or.inr rfl) (s_callE E.e_one_differs hr rfl (s_cons (s_v 3) (s_cons (s_v 4) s_nil))) (ss_cons (s_asg (s_add (s_v 2) (s_tup (s_cons (s_v 5) s_nil))) (g_nm (i := 2) sc_difference.nd rfl (by first | exact Or.inl rfl | exact Or.inr rfl))) (ss_cons (s_asg (s_ix (s_ix (s_v 3) s_int) (s_v 5)) (g_nm (i := 3) sc_difference.nd rfl (by first | exact Or.inl rfl | exact Or.inr rfl))) (ss_cons (s_asg (s_ix (s_ix (s_v 4) s_int) (s_v 5)) (g_nm (i := 4) sc_difference.nd rfl (by first | exact Or.inl rfl | exact Or.inr rfl))) ss_nil)))) (ss_cons (s_ret (s_tup (s_cons (s_v 2) (s_cons (s_callE E.e_fresh hr rfl (s_cons (s_v 3) s_nil)) (s_cons (s_callE E.e_fresh hr rfl (s_cons (s_v 4) s_nil)) s_nil))))) ss_nil)))))
theorem sc__law_numbers : FnScope ["script", "at", "many", "cell", "numbers", "k", "mixed"] ["script", "at", "many"] (defScope st__law_numbers) := ⟨rfl, rfl, rfl, by decide +kernel, rfl, by decide +kernel, by decide +kernel⟩
theorem ok__law_numbers {f : Addr} {fd : FuncData} (F : Fun K "_law_numbers" "_law_numbers" st__law_numbers f fd) (T : Txt K mg) (E : Tab P w K mg base k Φ) : FnOk P w K mg base CX0 (k + 1) f fd ["script", "at", "many"] (spB K cls0 3 (runD Φ ir__law_numbers 7)) :=
  def_ok F sc__law_numbers rfl fun cdv A outer s H Z hr => by
    have hu : (A.deeper (envOfC "_law_numbers" (defScope st__law_numbers) s.heap.objs.size f cdv)).units + 65 < cLine := by have := hr.un; omega
    exact (ss_cons (s_asg (s_mul s_int (s_add (s_v 1) s_int)) (g_nm (i := 3) sc__law_numbers.nd rfl (by first | exact Or.inl rfl | exact Or.inr rfl))) (ss_cons (s_if (st_lt (s_v 1) (s_len (s_v 0) T.m_len)) (ss_cons (s_asg (s_intc (s_ix (s_v 0) (s_v 1)) T.m_int) (g_nm (i := 3) sc__law_numbers.nd rfl (by first | exact Or.inl rfl | exact Or.inr rfl))) ss_nil) ss_nil) (ss_cons (s_if (st_lt (s_v 3) s_int) (ss_cons (s_asg (s_sub s_int (s_mul s_int (s_v 3))) (g_nm (i := 3) sc__law_numbers.nd rfl (by first | exact Or.inl rfl | exact Or.inr rfl))) ss_nil) ss_nil) (ss_cons (s_asg (s_lst s_nil) (g_nm (i := 4) sc__law_numbers.nd rfl (by first | exact Or.inl rfl | exact Or.inr rfl))) (ss_cons (s_for PassesOwn.never rfl (i_rg1 (s_v 2) T.m_range) (g_nm (i := 5) sc__law_numbers.nd rfl (by first | exact Or.inl rfl | exact Or.inr rfl)) (ss_cons (s_if (st_ge (s_v 3) (s_pow s_int s_int)) (ss_cons (s_expr (s_append (s_v 4) (s_mod (s_v 3) s_int))) (ss_cons (s_asg (s_fdiv (s_v 3) s_int) (g_nm (i := 3) sc__law_numbers.nd rfl (by first | exact Or.inl rfl | exact Or.inr rfl))) ss_nil)) (ss_cons (s_asg (s_mod (s_add (s_add (s_mul (s_v 3) s_int) (s_mul (s_add (s_v 5) s_int) s_int)) (s_mul (s_v 1) s_int)) s_int) (g_nm (i := 6) sc__law_numbers.nd rfl (by first | exact Or.inl rfl | exact Or.inr rfl))) (ss_cons (s_asg (s_mod (s_add (s_mul (s_v 6) (s_v 6)) (s_mul s_int (s_add (s_v 5) s_int))) s_int) (g_nm (i := 6) sc__law_numbers.nd rfl (by first | exact Or.inl rfl | exact Or.inr rfl))) (ss_cons (s_expr (s_append (s_v 4) (s_mod (s_fdiv (s_v 6) s_int) s_int))) ss_nil)))) ss_nil)) (ss_cons (s_ret (s_v 4)) ss_nil))))))
theorem sc__law_labels : FnScope ["script", "at", "many", "letters", "numbers", "found", "j", "word", "turn"] ["script", "at", "many"] (defScope st__law_labels) := ⟨rfl, rfl, rfl, by decide +kernel, rfl, by decide +kernel, by decide +kernel⟩
theorem ok__law_labels {f : Addr} {fd : FuncData} (F : Fun K "_law_labels" "_law_labels" st__law_labels f fd) (T : Txt K mg) (E : Tab P w K mg base k Φ) : FnOk P w K mg base CX0 (k + 1) f fd ["script", "at", "many"] (spB K cls0 3 (runD Φ ir__law_labels 9)) :=
  def_ok F sc__law_labels rfl fun cdv A outer s H Z hr => by
    have hu : (A.deeper (envOfC "_law_labels" (defScope st__law_labels) s.heap.objs.size f cdv)).units + 65 < cLine := by have := hr.un; omega
    exact (ss_cons (s_asg s_str (g_nm (i := 3) sc__law_labels.nd rfl (by first | exact Or.inl rfl | exact Or.inr rfl))) (ss_cons (s_asg (s_callE E.e__law_numbers hr rfl (s_cons (s_v 0) (s_cons (s_v 1) (s_cons s_int s_nil)))) (g_nm (i := 4) sc__law_labels.nd rfl (by first | exact Or.inl rfl | exact Or.inr rfl))) (ss_cons (s_asg s_dnewK (g_nm (i := 5) sc__law_labels.nd rfl (by first | exact Or.inl rfl | exact Or.inr rfl))) (ss_cons (s_for PassesOwn.never rfl (i_rg1 (s_v 2) T.m_range) (g_nm (i := 6) sc__law_labels.nd rfl (by first | exact Or.inl rfl | exact Or.inr rfl)) (ss_cons (s_asg (s_ix (s_v 3) (s_mod (s_ix (s_v 4) (s_mul s_int (s_v 6))) s_int)) (g_nm (i := 7) sc__law_labels.nd rfl (by first | exact Or.inl rfl | exact Or.inr rfl))) (ss_cons (s_for PassesOwn.never rfl (i_rg1 (s_ix (s_lst (s_cons s_int (s_cons s_int (s_cons s_int (s_cons s_int (s_cons s_int s_nil)))))) (s_mod (s_ix (s_v 4) (s_add (s_mul s_int (s_v 6)) s_int)) s_int)) T.m_range) (g_nm (i := 8) sc__law_labels.nd rfl (by first | exact Or.inl rfl | exact Or.inr rfl)) (ss_cons (s_asg (s_add (s_v 7) (s_ix (s_v 3) (s_mod (s_add (s_ix (s_v 4) (s_add (s_mul s_int (s_v 6)) s_int)) (s_mul s_int (s_v 8))) s_int))) (g_nm (i := 7) sc__law_labels.nd rfl (by first | exact Or.inl rfl | exact Or.inr rfl))) ss_nil)) (ss_cons (s_if (st_in hu (s_v 7) (s_tup (s_cons s_str (s_cons s_str (s_cons s_str s_nil))))) (ss_cons (s_asg (s_add (s_v 7) s_str) (g_nm (i := 7) sc__law_labels.nd rfl (by first | exact Or.inl rfl | exact Or.inr rfl))) ss_nil) ss_nil) (ss_cons (s_stoD hu (s_v 5) (s_v 7) s_bl) ss_nil))))) (ss_cons (s_ret (s_sorted (s_dkeys rfl (s_v 5) T.m_list) T.m_sorted)) ss_nil)))))
theorem sc__law_tree : FnScope ["script", "at", "labels", "most", "numbers", "count", "nodes", "k"] ["script", "at", "labels", "most"] (defScope st__law_tree) := ⟨rfl, rfl, rfl, by decide +kernel, rfl, by decide +kernel, by decide +kernel⟩
theorem ok__law_tree {f : Addr} {fd : FuncData} (F : Fun K "_law_tree" "_law_tree" st__law_tree f fd) (T : Txt K mg) (E : Tab P w K mg base k Φ) : FnOk P w K mg base CX0 (k + 1) f fd ["script", "at", "labels", "most"] (spB K cls0 4 (runD Φ ir__law_tree 8)) :=
  def_ok F sc__law_tree rfl fun cdv A outer s H Z hr => by
    have hu : (A.deeper (envOfC "_law_tree" (defScope st__law_tree) s.heap.objs.size f cdv)).units + 65 < cLine := by have := hr.un; omega
    exact (ss_cons (s_asg (s_callE E.e__law_numbers hr rfl (s_cons (s_v 0) (s_cons (s_v 1) (s_cons s_int s_nil)))) (g_nm (i := 4) sc__law_tree.nd rfl (by first | exact Or.inl rfl | exact Or.inr rfl))) (ss_cons (s_asg (s_add s_int (s_mod (s_ix (s_v 4) s_int) (s_v 3))) (g_nm (i := 5) sc__law_tree.nd rfl (by first | exact Or.inl rfl | exact Or.inr rfl))) (ss_cons (s_asgLc (Z0 := Z) (own := [("k", 7)]) rfl sc__law_tree.nd (i := 6) rfl rfl (sw_true rfl rfl rfl (by decide +kernel)) (i_rg1 (s_v 5) T.m_range) (blkOk_by (N := ["script", "at", "labels", "most", "numbers", "count", "nodes", "k"]) (sc := defScope st__law_tree) (by decide +kernel)) (fun _ _ _ _ _ => (g_nm (i := 7) sc__law_tree.nd rfl (by first | exact Or.inl rfl | exact Or.inr rfl))) (by decide) (fun _ _ _ _ _ => ts_nil) (fun _ _ _ _ _ => (s_tup (s_cons (s_ix (s_v 2) (s_mod (s_ix (s_v 4) (s_add s_int (s_v 7))) (s_len (s_v 2) T.m_len))) (s_cons (s_lst s_nil) s_nil))))) (ss_cons (s_for PassesOwn.never rfl (i_rg2 s_int (s_v 5) T.m_range) (g_nm (i := 7) sc__law_tree.nd rfl (by first | exact Or.inl rfl | exact Or.inr rfl)) (ss_cons (s_expr (s_append (s_ix (s_ix (s_v 6) (s_max2 rfl s_int (s_sub (s_sub (s_v 7) s_int) (s_mod (s_ix (s_v 4) (s_v 7)) (s_add s_int (s_mod (s_ix (s_v 4) s_int) s_int)))) T.m_max)) s_int) (s_ix (s_v 6) (s_v 7)))) ss_nil)) (ss_cons (s_ret (s_ix (s_v 6) s_int)) ss_nil)))))
theorem sc__law_copy : FnScope ["tree", "child"] ["tree"] (defScope st__law_copy) := ⟨rfl, rfl, rfl, by decide +kernel, rfl, by decide +kernel, by decide +kernel⟩
theorem ok__law_copy {f : Addr} {fd : FuncData} (F : Fun K "_law_copy" "_law_copy" st__law_copy f fd) (T : Txt K mg) (E : Tab P w K mg base k Φ) : FnOk P w K mg base CX0 (k + 1) f fd ["tree"] (spB K cls0 1 (runD Φ ir__law_copy 2)) :=
  def_ok F sc__law_copy rfl fun cdv A outer s H Z hr => by
    have hu : (A.deeper (envOfC "_law_copy" (defScope st__law_copy) s.heap.objs.size f cdv)).units + 65 < cLine := by have := hr.un; omega
    exact (ss_cons (s_ret (s_tup (s_cons (s_ix (s_v 0) s_int) (s_cons (s_lc (Z0 := Z) (own := [("child", 1)]) rfl sc__law_copy.nd (i_sq (s_ix (s_v 0) s_int)) (blkOk_by (N := ["tree", "child"]) (sc := defScope st__law_copy) (by decide +kernel)) (fun _ _ _ _ _ => (g_nm (i := 1) sc__law_copy.nd rfl (by first | exact Or.inl rfl | exact Or.inr rfl))) (by decide) (fun _ _ _ _ _ => ts_nil) (fun _ _ _ _ _ => (s_callE E.e__law_copy hr rfl (s_cons (s_v 1) s_nil)))) s_nil)))) ss_nil)
theorem sc__law_nodes : FnScope ["tree", "place", "found", "k"] ["tree", "place"] (defScope st__law_nodes) := ⟨rfl, rfl, rfl, by decide +kernel, rfl, by decide +kernel, by decide +kernel⟩
theorem ok__law_nodes {f : Addr} {fd : FuncData} (F : Fun K "_law_nodes" "_law_nodes" st__law_nodes f fd) (T : Txt K mg) (E : Tab P w K mg base k Φ) : FnOk P w K mg base CX0 (k + 1) f fd ["tree", "place"] (spB K cls0 2 (runD Φ ir__law_nodes 4)) :=
  def_ok F sc__law_nodes rfl fun cdv A outer s H Z hr => by
    have hu : (A.deeper (envOfC "_law_nodes" (defScope st__law_nodes) s.heap.objs.size f cdv)).units + 65 < cLine := by have := hr.un; omega
    exact (ss_cons (s_asg (s_lst (s_cons (s_tup (s_cons (s_v 1) (s_cons (s_v 0) s_nil))) s_nil)) (g_nm (i := 2) sc__law_nodes.nd rfl (by first | exact Or.inl rfl | exact Or.inr rfl))) (ss_cons (s_for PassesOwn.never rfl (i_rg1 (s_len (s_ix (s_v 0) s_int) T.m_len) T.m_range) (g_nm (i := 3) sc__law_nodes.nd rfl (by first | exact Or.inl rfl | exact Or.inr rfl)) (ss_cons (s_asg (s_add (s_v 2) (s_callE E.e__law_nodes hr rfl (s_cons (s_ix (s_ix (s_v 0) s_int) (s_v 3)) (s_cons (s_add (s_v 1) (s_tup (s_cons (s_v 3) s_nil))) s_nil)))) (g_nm (i := 2) sc__law_nodes.nd rfl (by first | exact Or.inl rfl | exact Or.inr rfl))) ss_nil)) (ss_cons (s_ret (s_v 2)) ss_nil)))
theorem sc__law_at : FnScope ["tree", "place", "k"] ["tree", "place"] (defScope st__law_at) := ⟨rfl, rfl, rfl, by decide +kernel, rfl, by decide +kernel, by decide +kernel⟩
theorem ok__law_at {f : Addr} {fd : FuncData} (F : Fun K "_law_at" "_law_at" st__law_at f fd) (T : Txt K mg) (E : Tab P w K mg base k Φ) : FnOk P w K mg base CX0 (k + 1) f fd ["tree", "place"] (spB K cls0 2 (runD Φ ir__law_at 3)) :=
  def_ok F sc__law_at rfl fun cdv A outer s H Z hr => by
    have hu : (A.deeper (envOfC "_law_at" (defScope st__law_at) s.heap.objs.size f cdv)).units + 65 < cLine := by have := hr.un; omega
    exact (ss_cons (s_for PassesOwn.never rfl (i_sq (s_v 1)) (g_nm (i := 2) sc__law_at.nd rfl (by first | exact Or.inl rfl | exact Or.inr rfl)) (ss_cons (s_asg (s_ix (s_ix (s_v 0) s_int) (s_v 2)) (g_nm (i := 0) sc__law_at.nd rfl (by first | exact Or.inl rfl | exact Or.inr rfl))) ss_nil)) (ss_cons (s_ret (s_v 0)) ss_nil))
theorem sc__law_put : FnScope ["tree", "place", "node", "k"] ["tree", "place", "node"] (defScope st__law_put) := ⟨rfl, rfl, rfl, by decide +kernel, rfl, by decide +kernel, by decide +kernel⟩
theorem ok__law_put {f : Addr} {fd : FuncData} (F : Fun K "_law_put" "_law_put" st__law_put f fd) (T : Txt K mg) (E : Tab P w K mg base k Φ) : FnOk P w K mg base CX0 (k + 1) f fd ["tree", "place", "node"] (spB K cls0 3 (runD Φ ir__law_put 4)) :=
  def_ok F sc__law_put rfl fun cdv A outer s H Z hr => by
    have hu : (A.deeper (envOfC "_law_put" (defScope st__law_put) s.heap.objs.size f cdv)).units + 65 < cLine := by have := hr.un; omega
    exact (ss_cons (s_if (st_eq hu (s_v 1) (s_tup s_nil)) (ss_cons (s_ret (s_v 2)) ss_nil) ss_nil) (ss_cons (s_asg (s_ix (s_v 1) s_int) (g_nm (i := 3) sc__law_put.nd rfl (by first | exact Or.inl rfl | exact Or.inr rfl))) (ss_cons (s_ret (s_tup (s_cons (s_ix (s_v 0) s_int) (s_cons (s_add (s_add (s_sl (s_ix (s_v 0) s_int) s_pNone (s_pSome (s_v 3))) (s_lst (s_cons (s_callE E.e__law_put hr rfl (s_cons (s_ix (s_ix (s_v 0) s_int) (s_v 3)) (s_cons (s_sl (s_v 1) (s_pSome s_int) s_pNone) (s_cons (s_v 2) s_nil)))) s_nil))) (s_sl (s_ix (s_v 0) s_int) (s_pSome (s_add (s_v 3) s_int)) s_pNone)) s_nil)))) ss_nil)))
theorem sc__law_due : FnScope ["tree", "other", "others", "pair", "found", "place", "node"] ["tree", "other"] (defScope st__law_due) := ⟨rfl, rfl, rfl, by decide +kernel, rfl, by decide +kernel, by decide +kernel⟩
theorem ok__law_due {f : Addr} {fd : FuncData} (F : Fun K "_law_due" "_law_due" st__law_due f fd) (T : Txt K mg) (E : Tab P w K mg base k Φ) : FnOk P w K mg base CX0 (k + 1) f fd ["tree", "other"] (spB K cls0 2 (runD Φ ir__law_due 7)) :=
  def_ok F sc__law_due rfl fun cdv A outer s H Z hr => by
    have hu : (A.deeper (envOfC "_law_due" (defScope st__law_due) s.heap.objs.size f cdv)).units + 65 < cLine := by have := hr.un; omega
    exact (ss_cons (s_if (st_eq hu (s_v 0) (s_v 1)) (ss_cons (s_ret s_non) ss_nil) ss_nil) (ss_cons (s_asgLc (Z0 := Z) (own := [("pair", 3)]) rfl sc__law_due.nd (i := 2) rfl rfl (sw_true rfl rfl rfl (by decide +kernel)) (i_sq (s_callE E.e__law_nodes hr rfl (s_cons (s_v 1) (s_cons (s_tup s_nil) s_nil)))) (blkOk_by (N := ["tree", "other", "others", "pair", "found", "place", "node"]) (sc := defScope st__law_due) (by decide +kernel)) (fun _ _ _ _ _ => (g_nm (i := 3) sc__law_due.nd rfl (by first | exact Or.inl rfl | exact Or.inr rfl))) (by decide) (fun _ _ _ _ _ => ts_nil) (fun _ _ _ _ _ => (s_ix (s_v 3) s_int))) (ss_cons (s_asg (s_tup s_nil) (g_nm (i := 4) sc__law_due.nd rfl (by first | exact Or.inl rfl | exact Or.inr rfl))) (ss_cons (s_for PassesOwn.never rfl (i_sq (s_callE E.e__law_nodes hr rfl (s_cons (s_v 0) (s_cons (s_tup s_nil) s_nil)))) (g_tp (n := 2) rfl (gs_cons (g_nm (i := 5) sc__law_due.nd rfl (by first | exact Or.inl rfl | exact Or.inr rfl)) (gs_cons (g_nm (i := 6) sc__law_due.nd rfl (by first | exact Or.inl rfl | exact Or.inr rfl)) gs_nil)) rfl) (ss_cons (s_if (st_pw (sw_and (st_in hu (s_v 5) (s_v 2)) (sw_and (st_gt (s_len (s_v 5) T.m_len) (s_len (s_v 4) T.m_len)) (sw_and1 (st_eq hu (s_callE E.e__law_put hr rfl (s_cons (s_v 0) (s_cons (s_v 5) (s_cons (s_callE E.e__law_at hr rfl (s_cons (s_v 1) (s_cons (s_v 5) s_nil))) s_nil)))) (s_v 1)))))) (ss_cons (s_asg (s_v 5) (g_nm (i := 4) sc__law_due.nd rfl (by first | exact Or.inl rfl | exact Or.inr rfl))) ss_nil) ss_nil) ss_nil)) (ss_cons (s_ret (s_tup (s_cons (s_v 4) (s_cons (s_callE E.e__law_at hr rfl (s_cons (s_v 0) (s_cons (s_v 4) s_nil))) (s_cons (s_callE E.e__law_at hr rfl (s_cons (s_v 1) (s_cons (s_v 4) s_nil))) s_nil))))) ss_nil)))))
theorem sc_law : FnScope ["script", "labels", "tree", "small", "numbers", "nodes", "others", "k", "place", "node", "beside", "own", "one", "given", "other", "due", "told", "back"] ["script"] (defScope st_law) := ⟨rfl, rfl, rfl, by decide +kernel, rfl, by decide +kernel, by decide +kernel⟩
theorem ok_law {f : Addr} {fd : FuncData} (F : Fun K "law" "law" st_law f fd) (T : Txt K mg) (E : Tab P w K mg base k Φ) : FnOk P w K mg base CX0 (k + 1) f fd ["script"] (spB K cls0 1 (runD Φ ir_law 18)) :=
  def_ok F sc_law rfl fun cdv A outer s H Z hr => by
    have hu : (A.deeper (envOfC "law" (defScope st_law) s.heap.objs.size f cdv)).units + 65 < cLine := by have := hr.un; omega
    exact (ss_cons (s_asg (s_callE E.e__law_labels hr rfl (s_cons (s_v 0) (s_cons s_int (s_cons s_int s_nil)))) (g_nm (i := 1) sc_law.nd rfl (by first | exact Or.inl rfl | exact Or.inr rfl))) (ss_cons (s_par (i := 2) (j := 3) rfl sc_law.nd rfl rfl (by decide) rfl rfl (s_cons (s_callE E.e__law_tree hr rfl (s_cons (s_v 0) (s_cons s_int (s_cons (s_v 1) (s_cons s_int s_nil))))) (s_cons (s_callE E.e__law_tree hr rfl (s_cons (s_v 0) (s_cons s_int (s_cons (s_v 1) (s_cons s_int s_nil))))) s_nil)) (by rfl)) (ss_cons (s_asg (s_callE E.e__law_numbers hr rfl (s_cons (s_v 0) (s_cons s_int (s_cons s_int s_nil)))) (g_nm (i := 4) sc_law.nd rfl (by first | exact Or.inl rfl | exact Or.inr rfl))) (ss_cons (s_asg (s_callE E.e__law_nodes hr rfl (s_cons (s_v 2) (s_cons (s_tup s_nil) s_nil))) (g_nm (i := 5) sc_law.nd rfl (by first | exact Or.inl rfl | exact Or.inr rfl))) (ss_cons (s_asg (s_lst (s_cons (s_v 2) (s_cons (s_v 3) (s_cons (s_callE E.e__law_tree hr rfl (s_cons (s_v 0) (s_cons s_int (s_cons (s_v 1) (s_cons s_int s_nil))))) (s_cons (s_tup (s_cons (s_ix (s_v 2) s_int) (s_cons (s_add (s_ix (s_v 2) s_int) (s_lst (s_cons (s_v 3) s_nil))) s_nil))) (s_cons (s_tup (s_cons (s_ix (s_v 2) s_int) (s_cons (s_sl (s_ix (s_v 2) s_int) (s_pSome s_int) s_pNone) s_nil))) (s_cons (s_tup (s_cons (s_ix (s_v 2) s_int) (s_cons (s_revL (s_ix (s_v 2) s_int)) s_nil))) s_nil))))))) (g_nm (i := 6) sc_law.nd rfl (by first | exact Or.inl rfl | exact Or.inr rfl))) (ss_cons (s_for PassesOwn.never rfl (i_rg1 s_int T.m_range) (g_nm (i := 7) sc_law.nd rfl (by first | exact Or.inl rfl | exact Or.inr rfl)) (ss_cons (s_asg (s_ix (s_v 5) (s_mod (s_ix (s_v 4) (s_v 7)) (s_len (s_v 5) T.m_len))) (g_tp (n := 2) rfl (gs_cons (g_nm (i := 8) sc_law.nd rfl (by first | exact Or.inl rfl | exact Or.inr rfl)) (gs_cons (g_nm (i := 9) sc_law.nd rfl (by first | exact Or.inl rfl | exact Or.inr rfl)) gs_nil)) rfl)) (ss_cons (s_asg (s_ix (s_v 5) (s_mod (s_ix (s_v 4) (s_add s_int (s_v 7))) (s_len (s_v 5) T.m_len))) (g_tp (n := 2) rfl (gs_cons (g_nm (i := 10) sc_law.nd rfl (by first | exact Or.inl rfl | exact Or.inr rfl)) (gs_cons (g_nm (i := 11) sc_law.nd rfl (by first | exact Or.inl rfl | exact Or.inr rfl)) gs_nil)) rfl)) (ss_cons (s_asg (s_callE E.e__law_put hr rfl (s_cons (s_v 2) (s_cons (s_v 8) (s_cons (s_v 3) s_nil)))) (g_nm (i := 12) sc_law.nd rfl (by first | exact Or.inl rfl | exact Or.inr rfl))) (ss_cons (s_asg (s_add (s_v 6) (s_lst (s_cons (s_v 12) (s_cons (s_callE E.e__law_put hr rfl (s_cons (s_v 2) (s_cons (s_v 8) (s_cons (s_tup (s_cons s_str (s_cons (s_ix (s_v 9) s_int) s_nil))) s_nil)))) (s_cons (s_callE E.e__law_put hr rfl (s_cons (s_v 2) (s_cons (s_v 8) (s_cons (s_tup (s_cons (s_ix (s_v 9) s_int) (s_cons (s_add (s_ix (s_v 9) s_int) (s_lst (s_cons (s_v 3) s_nil))) s_nil))) s_nil)))) (s_cons (s_callE E.e__law_put hr rfl (s_cons (s_v 2) (s_cons (s_v 8) (s_cons (s_tup (s_cons (s_ix (s_v 9) s_int) (s_cons (s_sl (s_ix (s_v 9) s_int) (s_pSome s_int) s_pNone) s_nil))) s_nil)))) s_nil)))))) (g_nm (i := 6) sc_law.nd rfl (by first | exact Or.inl rfl | exact Or.inr rfl))) (ss_cons (s_if (st_pw (sw_and (st_ne hu (s_sl (s_v 10) s_pNone (s_pSome (s_len (s_v 8) T.m_len))) (s_v 8)) (sw_and1 (st_ne hu (s_sl (s_v 8) s_pNone (s_pSome (s_len (s_v 10) T.m_len))) (s_v 10))))) (ss_cons (s_expr (s_append (s_v 6) (s_callE E.e__law_put hr rfl (s_cons (s_v 12) (s_cons (s_v 10) (s_cons (s_tup (s_cons (s_ix (s_v 11) s_int) (s_cons (s_add (s_ix (s_v 11) s_int) (s_lst (s_cons (s_v 3) s_nil))) s_nil))) s_nil)))))) ss_nil) ss_nil) ss_nil)))))) (ss_cons (s_asg (s_callE E.e__law_copy hr rfl (s_cons (s_v 2) s_nil)) (g_nm (i := 13) sc_law.nd rfl (by first | exact Or.inl rfl | exact Or.inr rfl))) (ss_cons (s_for PassesOwn.never rfl (i_sq (s_v 6)) (g_nm (i := 14) sc_law.nd rfl (by first | exact Or.inl rfl | exact Or.inr rfl)) (ss_cons (s_asg (s_callE E.e__law_due hr rfl (s_cons (s_v 2) (s_cons (s_v 14) s_nil))) (g_nm (i := 15) sc_law.nd rfl (by first | exact Or.inl rfl | exact Or.inr rfl))) (ss_cons (s_asg (s_callE E.e_difference hr rfl (s_cons (s_v 13) (s_cons (s_callE E.e__law_copy hr rfl (s_cons (s_v 14) s_nil)) s_nil))) (g_nm (i := 16) sc_law.nd rfl (by first | exact Or.inl rfl | exact Or.inr rfl))) (ss_cons (s_if (st_ne hu (s_v 16) (s_v 15)) (ss_cons (s_ret s_bl) ss_nil) ss_nil) (ss_cons (s_if (st_notN (s_v 16)) (ss_cons (s_if (st_pw (sw_or (st_not (st_of (s_isi .tuple rfl (by decide +kernel) (by decide) (by decide) (s_v 16) T.m_isinstance T.m_tuple))) (sw_or (st_ne hu (s_callE E.e_replaced hr rfl (s_cons (s_v 13) (s_cons (s_ix (s_v 16) s_int) (s_cons (s_ix (s_v 16) s_int) s_nil)))) (s_v 14)) (sw_or1 (st_ne hu (s_callE E.e_replaced hr rfl (s_cons (s_v 14) (s_cons (s_ix (s_v 16) s_int) (s_cons (s_ix (s_v 16) s_int) s_nil)))) (s_v 2)))))) (ss_cons (s_ret s_bl) ss_nil) ss_nil) (ss_cons (s_expr (s_append (s_ix (s_ix (s_v 16) s_int) s_int) s_non)) (ss_cons (s_expr (s_append (s_ix (s_ix (s_v 16) s_int) s_int) s_non)) ss_nil))) ss_nil) (ss_cons (s_asg (s_callE E.e_difference hr rfl (s_cons (s_v 14) (s_cons (s_v 2) s_nil))) (g_nm (i := 17) sc_law.nd rfl (by first | exact Or.inl rfl | exact Or.inr rfl))) (ss_cons (s_if (st_pw (sw_or (st_pw (sw_and (st_isN (s_v 15)) (sw_and1 (st_notN (s_v 17))))) (sw_or1 (st_pw (sw_and (st_notN (s_v 15)) (sw_and1 (st_ne hu (s_v 17) (s_tup (s_cons (s_ix (s_v 15) s_int) (s_cons (s_ix (s_v 15) s_int) (s_cons (s_ix (s_v 15) s_int) s_nil))))))))))) (ss_cons (s_ret s_bl) ss_nil) ss_nil) (ss_cons (s_if (st_pw (sw_or (st_ne hu (s_v 13) (s_v 2)) (sw_or1 (st_ne hu (s_callE E.e_difference hr rfl (s_cons (s_v 13) (s_cons (s_v 14) s_nil))) (s_v 15))))) (ss_cons (s_ret s_bl) ss_nil) ss_nil) ss_nil)))))))) (ss_cons (s_ret (s_and (s_eq hu (s_callE E.e_difference hr rfl (s_cons (s_tup (s_cons s_str (s_cons (s_lst s_nil) s_nil))) (s_cons (s_tup (s_cons s_str (s_cons (s_lst s_nil) s_nil))) s_nil))) (s_tup (s_cons (s_tup s_nil) (s_cons (s_tup (s_cons s_str (s_cons (s_lst s_nil) s_nil))) (s_cons (s_tup (s_cons s_str (s_cons (s_lst s_nil) s_nil))) s_nil))))) (s_one (s_eq hu (s_callE E.e_difference hr rfl (s_cons (s_tup (s_cons s_str (s_cons (s_lst (s_cons (s_tup (s_cons s_str (s_cons (s_lst s_nil) s_nil))) (s_cons (s_tup (s_cons s_str (s_cons (s_lst s_nil) s_nil))) s_nil))) s_nil))) (s_cons (s_tup (s_cons s_str (s_cons (s_lst (s_cons (s_tup (s_cons s_str (s_cons (s_lst s_nil) s_nil))) s_nil)) s_nil))) s_nil))) (s_tup (s_cons (s_tup s_nil) (s_cons (s_tup (s_cons s_str (s_cons (s_lst (s_cons (s_tup (s_cons s_str (s_cons (s_lst s_nil) s_nil))) (s_cons (s_tup (s_cons s_str (s_cons (s_lst s_nil) s_nil))) s_nil))) s_nil))) (s_cons (s_tup (s_cons s_str (s_cons (s_lst (s_cons (s_tup (s_cons s_str (s_cons (s_lst s_nil) s_nil))) s_nil)) s_nil))) s_nil)))))))) ss_nil)))))))))
theorem tab_step (C : Facts K mg) (T : Txt K mg) (E : Tab P w K mg base k Φ) : Tab P w K mg base (k + 1) (stepF Φ) where
  e_is_whole := let ⟨f, fd, F, m, b⟩ := C.f_is_whole; ⟨f, fd, ok_is_whole F T E, m, F.kp, b⟩
  e_is_place_form := let ⟨f, fd, F, m, b⟩ := C.f_is_place_form; ⟨f, fd, ok_is_place_form F T E, m, F.kp, b⟩
  e_children_back := let ⟨f, fd, F, m, b⟩ := C.f_children_back; ⟨f, fd, ok_children_back F T E, m, F.kp, b⟩
  e_all_nodes := let ⟨f, fd, F, m, b⟩ := C.f_all_nodes; ⟨f, fd, ok_all_nodes F T E, m, F.kp, b⟩
  e_find_node := let ⟨f, fd, F, m, b⟩ := C.f_find_node; ⟨f, fd, ok_find_node F T E, m, F.kp, b⟩
  e_with_node := let ⟨f, fd, F, m, b⟩ := C.f_with_node; ⟨f, fd, ok_with_node F T E, m, F.kp, b⟩
  e_fresh := let ⟨f, fd, F, m, b⟩ := C.f_fresh; ⟨f, fd, ok_fresh F T E, m, F.kp, b⟩
  e_is_place := let ⟨f, fd, F, m, b⟩ := C.f_is_place; ⟨f, fd, ok_is_place F T E, m, F.kp, b⟩
  e_check_place := let ⟨f, fd, F, m, b⟩ := C.f_check_place; ⟨f, fd, ok_check_place F T E, m, F.kp, b⟩
  e_replaced := let ⟨f, fd, F, m, b⟩ := C.f_replaced; ⟨f, fd, ok_replaced F T E, m, F.kp, b⟩
  e_one_differs := let ⟨f, fd, F, m, b⟩ := C.f_one_differs; ⟨f, fd, ok_one_differs F T E, m, F.kp, b⟩
  e_difference := let ⟨f, fd, F, m, b⟩ := C.f_difference; ⟨f, fd, ok_difference F T E, m, F.kp, b⟩
  e__law_numbers := let ⟨f, fd, F, m, b⟩ := C.f__law_numbers; ⟨f, fd, ok__law_numbers F T E, m, F.kp, b⟩
  e__law_labels := let ⟨f, fd, F, m, b⟩ := C.f__law_labels; ⟨f, fd, ok__law_labels F T E, m, F.kp, b⟩
  e__law_tree := let ⟨f, fd, F, m, b⟩ := C.f__law_tree; ⟨f, fd, ok__law_tree F T E, m, F.kp, b⟩
  e__law_copy := let ⟨f, fd, F, m, b⟩ := C.f__law_copy; ⟨f, fd, ok__law_copy F T E, m, F.kp, b⟩
  e__law_nodes := let ⟨f, fd, F, m, b⟩ := C.f__law_nodes; ⟨f, fd, ok__law_nodes F T E, m, F.kp, b⟩
  e__law_at := let ⟨f, fd, F, m, b⟩ := C.f__law_at; ⟨f, fd, ok__law_at F T E, m, F.kp, b⟩
  e__law_put := let ⟨f, fd, F, m, b⟩ := C.f__law_put; ⟨f, fd, ok__law_put F T E, m, F.kp, b⟩
  e__law_due := let ⟨f, fd, F, m, b⟩ := C.f__law_due; ⟨f, fd, ok__law_due F T E, m, F.kp, b⟩
  e_law := let ⟨f, fd, F, m, b⟩ := C.f_law; ⟨f, fd, ok_law F T E, m, F.kp, b⟩
theorem tab_zero (C : Facts K mg) : Tab P w K mg base 0 (Phi 0) where
  e_is_whole := let ⟨f, fd, F, m, b⟩ := C.f_is_whole; ⟨f, fd, fnok_zero, m, F.kp, b⟩
  e_is_place_form := let ⟨f, fd, F, m, b⟩ := C.f_is_place_form; ⟨f, fd, fnok_zero, m, F.kp, b⟩
  e_children_back := let ⟨f, fd, F, m, b⟩ := C.f_children_back; ⟨f, fd, fnok_zero, m, F.kp, b⟩
  e_all_nodes := let ⟨f, fd, F, m, b⟩ := C.f_all_nodes; ⟨f, fd, fnok_zero, m, F.kp, b⟩
  e_find_node := let ⟨f, fd, F, m, b⟩ := C.f_find_node; ⟨f, fd, fnok_zero, m, F.kp, b⟩
  e_with_node := let ⟨f, fd, F, m, b⟩ := C.f_with_node; ⟨f, fd, fnok_zero, m, F.kp, b⟩
  e_fresh := let ⟨f, fd, F, m, b⟩ := C.f_fresh; ⟨f, fd, fnok_zero, m, F.kp, b⟩
  e_is_place := let ⟨f, fd, F, m, b⟩ := C.f_is_place; ⟨f, fd, fnok_zero, m, F.kp, b⟩
  e_check_place := let ⟨f, fd, F, m, b⟩ := C.f_check_place; ⟨f, fd, fnok_zero, m, F.kp, b⟩
  e_replaced := let ⟨f, fd, F, m, b⟩ := C.f_replaced; ⟨f, fd, fnok_zero, m, F.kp, b⟩
  e_one_differs := let ⟨f, fd, F, m, b⟩ := C.f_one_differs; ⟨f, fd, fnok_zero, m, F.kp, b⟩
  e_difference := let ⟨f, fd, F, m, b⟩ := C.f_difference; ⟨f, fd, fnok_zero, m, F.kp, b⟩
  e__law_numbers := let ⟨f, fd, F, m, b⟩ := C.f__law_numbers; ⟨f, fd, fnok_zero, m, F.kp, b⟩
  e__law_labels := let ⟨f, fd, F, m, b⟩ := C.f__law_labels; ⟨f, fd, fnok_zero, m, F.kp, b⟩
  e__law_tree := let ⟨f, fd, F, m, b⟩ := C.f__law_tree; ⟨f, fd, fnok_zero, m, F.kp, b⟩
  e__law_copy := let ⟨f, fd, F, m, b⟩ := C.f__law_copy; ⟨f, fd, fnok_zero, m, F.kp, b⟩
  e__law_nodes := let ⟨f, fd, F, m, b⟩ := C.f__law_nodes; ⟨f, fd, fnok_zero, m, F.kp, b⟩
  e__law_at := let ⟨f, fd, F, m, b⟩ := C.f__law_at; ⟨f, fd, fnok_zero, m, F.kp, b⟩
  e__law_put := let ⟨f, fd, F, m, b⟩ := C.f__law_put; ⟨f, fd, fnok_zero, m, F.kp, b⟩
  e__law_due := let ⟨f, fd, F, m, b⟩ := C.f__law_due; ⟨f, fd, fnok_zero, m, F.kp, b⟩
  e_law := let ⟨f, fd, F, m, b⟩ := C.f_law; ⟨f, fd, fnok_zero, m, F.kp, b⟩
theorem tab (C : Facts K mg) (T : Txt K mg) : ∀ n, Tab P w K mg base n (Phi n)
  | 0 => tab_zero C
  | n + 1 => tab_step C T (tab C T n)
end
end Lw
set_option maxHeartbeats 4000000
/-! trees, by their places in the store -/
namespace Lw
open PySem L2 Bi

/-- a plain tree -/
inductive Tr where
  | nd (l : Str) (ch : List Tr)
/-- a tree whose lists stand in the store -/
inductive LT where
  | nd (l : Str) (c : Nat) (ch : List LT)
def LT.w : LT → W
  | .nd l c _ => .tup [.str l, .loc c]
def LT.c : LT → Nat
  | .nd _ c _ => c
def LT.l : LT → Str
  | .nd l _ _ => l
def LT.ch : LT → List LT
  | .nd _ _ ch => ch
def Tr.l : Tr → Str
  | .nd l _ => l
def Tr.ch : Tr → List Tr
  | .nd _ ch => ch
mutual
def LT.er : LT → Tr
  | .nd l _ ch => .nd l (LT.erL ch)
def LT.erL : List LT → List Tr
  | [] => []
  | t :: ts => t.er :: LT.erL ts
end
theorem erL_map : ∀ ts : List LT, LT.erL ts = ts.map LT.er
  | [] => rfl
  | t :: ts => by rw [LT.erL, erL_map ts]; rfl
theorem er_nd (l : Str) (c : Nat) (ch : List LT) : (LT.nd l c ch).er = .nd l (ch.map LT.er) := by rw [LT.er, erL_map]
/-- structural induction -/
theorem LT.ind {P : LT → Prop} (h : ∀ l c ch, (∀ t ∈ ch, P t) → P (.nd l c ch)) : ∀ t, P t
  | .nd l c ch => h l c ch (go ch)
where go : ∀ (ts : List LT), ∀ t ∈ ts, P t
  | [], t, hm => by cases hm
  | a :: ts, t, hm => by
    rcases List.mem_cons.mp hm with e | hm
    · rw [e]; exact LT.ind h a
    · exact go ts t hm
theorem Tr.ind {P : Tr → Prop} (h : ∀ l ch, (∀ t ∈ ch, P t) → P (.nd l ch)) : ∀ t, P t
  | .nd l ch => h l ch (go ch)
where go : ∀ (ts : List Tr), ∀ t ∈ ts, P t
  | [], t, hm => by cases hm
  | a :: ts, t, hm => by
    rcases List.mem_cons.mp hm with e | hm
    · rw [e]; exact Tr.ind h a
    · exact go ts t hm
inductive In (h : Store) : LT → Prop where
  | nd {l : Str} {c : Nat} {ch : List LT} : h[c]? = some (.lst (ch.map LT.w)) → (∀ t ∈ ch, In h t) → In h (.nd l c ch)
theorem In.at_ {h : Store} {l : Str} {c : Nat} {ch : List LT} (i : In h (.nd l c ch)) : h[c]? = some (.lst (ch.map LT.w)) := by cases i; assumption
theorem In.kid {h : Store} {l : Str} {c : Nat} {ch : List LT} (i : In h (.nd l c ch)) : ∀ t ∈ ch, In h t := by cases i; assumption
/-- what stood stands -/
def Ext (h h' : Store) : Prop := ∀ (i : Nat) (o : O), h[i]? = some o → h'[i]? = some o
theorem Ext.refl {h : Store} : Ext h h := fun _ _ e => e
theorem Ext.trans {h h1 h2 : Store} (a : Ext h h1) (b : Ext h1 h2) : Ext h h2 := fun i o e => b i o (a i o e)
theorem Ext.app {h : Store} {g : List O} : Ext h (h ++ g) := fun i o e => by
  rw [List.getElem?_append_left (List.getElem?_eq_some_iff.mp e).1]; exact e
theorem Ext.len {h h' : Store} (e : Ext h h') : h.length ≤ h'.length := by
  rcases Nat.eq_zero_or_pos h.length with z | z
  · omega
  · have q := e (h.length - 1) _ (List.getElem?_eq_getElem (by omega))
    have := (List.getElem?_eq_some_iff.mp q).1
    omega
/-- a new thing is changed -/
theorem Ext.set {h h' : Store} (e : Ext h h') {c : Nat} {o : O} (hc : h.length ≤ c) : Ext h (h'.set c o) := fun i x q => by
  have hi := (List.getElem?_eq_some_iff.mp q).1
  rw [List.getElem?_set_ne (by omega)]
  exact e i x q
theorem In.ext {h h' : Store} (e : Ext h h') : ∀ {t : LT}, In h t → In h' t := by
  intro t
  refine LT.ind (P := fun t => In h t → In h' t) (fun l c ch ih i => ?_) t
  exact .nd (e _ _ i.at_) fun t ht => ih t ht (i.kid t ht)

/-! ### data -/
mutual
def Tr.dat : Tr → PyData
  | .nd l ch => .tuple [.str l, .list (Tr.datL ch)]
def Tr.datL : List Tr → List PyData
  | [] => []
  | t :: ts => t.dat :: Tr.datL ts
end
theorem datL_map : ∀ ts : List Tr, Tr.datL ts = ts.map Tr.dat
  | [] => rfl
  | t :: ts => by rw [Tr.datL, datL_map ts]; rfl
mutual
def Tr.lev : Tr → Nat
  | .nd _ ch => Tr.levL ch + 1
def Tr.levL : List Tr → Nat
  | [] => 0
  | t :: ts => max t.lev (Tr.levL ts)
end
theorem lev_mem : ∀ {ts : List Tr} {t : Tr}, t ∈ ts → t.lev ≤ Tr.levL ts
  | a :: ts, t, h => by
    rw [Tr.levL]
    rcases List.mem_cons.mp h with e | h
    · rw [e]; omega
    · have := lev_mem h; omega
theorem levL_le {n : Nat} : ∀ {ts : List Tr}, (∀ t ∈ ts, t.lev ≤ n) → Tr.levL ts ≤ n
  | [], _ => by rw [Tr.levL]; omega
  | a :: ts, h => by
    rw [Tr.levL]
    have h1 := h a List.mem_cons_self
    have h2 := levL_le fun t ht => h t (List.mem_cons_of_mem _ ht)
    omega
mutual
def Tr.siz : Tr → Nat
  | .nd _ ch => Tr.sizL ch + 1
def Tr.sizL : List Tr → Nat
  | [] => 0
  | t :: ts => t.siz + Tr.sizL ts
end
theorem siz_pos (t : Tr) : 0 < t.siz := by cases t; rw [Tr.siz]; omega
theorem siz_mem : ∀ {ts : List Tr} {t : Tr}, t ∈ ts → t.siz ≤ Tr.sizL ts
  | a :: ts, t, h => by
    rw [Tr.sizL]
    rcases List.mem_cons.mp h with e | h
    · rw [e]; omega
    · have := siz_mem h; omega
theorem len_sizL : ∀ ts : List Tr, ts.length ≤ Tr.sizL ts
  | [] => Nat.le_refl _
  | t :: ts => by
    have := len_sizL ts
    have := siz_pos t
    rw [Tr.sizL, List.length_cons]; omega
theorem lev_siz : ∀ t : Tr, t.lev ≤ t.siz := by
  refine Tr.ind fun l ch ih => ?_
  rw [Tr.lev, Tr.siz]
  have : Tr.levL ch ≤ Tr.sizL ch := levL_le fun t ht => Nat.le_trans (ih t ht) (siz_mem ht)
  omega
theorem sizL_app : ∀ a b : List Tr, Tr.sizL (a ++ b) = Tr.sizL a + Tr.sizL b
  | [], b => by rw [List.nil_append, Tr.sizL]; omega
  | t :: a, b => by rw [List.cons_append, Tr.sizL, Tr.sizL, sizL_app a b]; omega
/-! all labels are texts that can be laid -/
mutual
def Tr.good : Tr → Bool
  | .nd l ch => PyData.strOk l && Tr.goodL ch
def Tr.goodL : List Tr → Bool
  | [] => true
  | t :: ts => t.good && Tr.goodL ts
end
theorem good_mem : ∀ {ts : List Tr}, Tr.goodL ts = true ↔ ∀ t ∈ ts, t.good = true
  | [] => by simp [Tr.goodL]
  | a :: ts => by
    rw [Tr.goodL, Bool.and_eq_true, good_mem (ts := ts)]
    simp
theorem good_nd {l : Str} {ch : List Tr} : (Tr.nd l ch).good = true ↔ PyData.strOk l = true ∧ ∀ t ∈ ch, t.good = true := by
  rw [Tr.good, Bool.and_eq_true, good_mem]
theorem dat_depth : ∀ t : Tr, t.dat.depth = 2 * t.lev := by
  refine Tr.ind fun l ch ih => ?_
  rw [Tr.dat, Tr.lev]
  have : ∀ ts : List Tr, (∀ t ∈ ts, t.dat.depth = 2 * t.lev) → PyData.depthAll (Tr.datL ts) = 2 * Tr.levL ts := by
    intro ts
    induction ts with
    | nil => intro _; rfl
    | cons a ts ih2 =>
      intro h
      rw [Tr.datL, Tr.levL, PyData.depthAll, h a List.mem_cons_self, ih2 fun t ht => h t (List.mem_cons_of_mem _ ht)]
      omega
  have e := this ch ih
  simp only [PyData.depth, PyData.depthAll, e]
  omega
theorem dat_lay : ∀ t : Tr, t.good = true → t.dat.canLay0 = true := by
  refine Tr.ind fun l ch ih h => ?_
  rw [Tr.dat]
  obtain ⟨h1, h2⟩ := good_nd.mp h
  have : ∀ ts : List Tr, (∀ t ∈ ts, t.dat.canLay0 = true) → PyData.canLayAll0 (Tr.datL ts) = true := by
    intro ts
    induction ts with
    | nil => intro _; rfl
    | cons a ts ih2 =>
      intro h
      rw [Tr.datL, PyData.canLayAll0, h a List.mem_cons_self, ih2 fun t ht => h t (List.mem_cons_of_mem _ ht)]; rfl
  have e := this ch fun t ht => ih t ht (h2 t ht)
  simp only [PyData.canLay0, PyData.canLayAll0, h1, e, Bool.and_self]
theorem dat_shaped {t : Tr} (h : t.good = true) (hl : t.lev ≤ 32) : SeqAt.shaped t.dat = true := by
  unfold SeqAt.shaped
  rw [dat_lay t h, dat_depth, Bool.true_and]
  exact decide_eq_true (by omega)
theorem eqv_dat : ∀ s t : Tr, PyData.eqv s.dat t.dat = true ↔ s = t := by
  refine Tr.ind fun l ch ih t => ?_
  cases t with
  | nd l' ch' =>
    have all : ∀ (a b : List Tr), (∀ s ∈ a, ∀ t, PyData.eqv s.dat t.dat = true ↔ s = t) → (PyData.eqvAll (Tr.datL a) (Tr.datL b) = true ↔ a = b) := by
      intro a
      induction a with
      | nil => intro b _; cases b <;> simp [Tr.datL, PyData.eqvAll]
      | cons x a iha =>
        intro b h
        cases b with
        | nil => simp [Tr.datL, PyData.eqvAll]
        | cons y b =>
          rw [Tr.datL, Tr.datL, PyData.eqvAll, Bool.and_eq_true, h x List.mem_cons_self y, iha b fun s hs => h s (List.mem_cons_of_mem _ hs)]
          simp
    have e := all ch ch' ih
    rw [Tr.dat, Tr.dat]
    simp only [PyData.eqv, PyData.eqvAll, Bool.and_true, Bool.and_eq_true, beq_iff_eq, e, Tr.nd.injEq]
theorem mapM_w {h : Store} {n : Nat} : ∀ {ts : List LT}, (∀ t ∈ ts, toD n h t.w = some t.er.dat) → (ts.map LT.w).mapM (toD n h) = some (ts.map fun t => t.er.dat)
  | [], _ => rfl
  | t :: ts, q => by
    rw [List.map_cons, List.mapM_cons, q t List.mem_cons_self, mapM_w fun s hs => q s (List.mem_cons_of_mem _ hs)]
    rfl
theorem toD_in {h : Store} : ∀ (t : LT) (n : Nat), In h t → 2 * t.er.lev ≤ n → toD n h t.w = some t.er.dat := by
  refine LT.ind fun l c ch ih n i hn => ?_
  rw [er_nd, Tr.lev] at hn
  obtain ⟨m, rfl⟩ : ∃ m, n = m + 2 := ⟨n - 2, by omega⟩
  have kids : ∀ t ∈ ch, toD m h t.w = some t.er.dat := fun t ht => ih t ht m (i.kid t ht) (by
    have := lev_mem (ts := ch.map LT.er) (List.mem_map_of_mem ht)
    omega)
  have e1 : toD (m + 1) h (.loc c) = some (.list (ch.map fun t => t.er.dat)) := by
    show (match h[c]? with | some (.lst xs) => (xs.mapM (toD m h)).map PyData.list | _ => none) = _
    rw [i.at_]
    show ((ch.map LT.w).mapM (toD m h)).map PyData.list = _
    rw [mapM_w kids]; rfl
  show (([W.str l, W.loc c] : List W).mapM (toD (m + 1) h)).map PyData.tuple = _
  rw [List.mapM_cons, List.mapM_cons, e1, er_nd, Tr.dat, datL_map, List.map_map]
  rfl
theorem shD_in {h : Store} {t : LT} (i : In h t) (hg : t.er.good = true) (hl : t.er.lev ≤ 32) : shD h t.w = some t.er.dat := by
  unfold shD
  rw [toD_in t 70 i (by omega)]
  show (if SeqAt.shaped t.er.dat = true then some t.er.dat else none) = _
  rw [if_pos (dat_shaped hg hl)]

/-! ### places -/
abbrev plW (p : List Nat) : List W := p.map fun (k : Nat) => W.int (k : Int)
def plD (p : List Nat) : List PyData := p.map fun (k : Nat) => PyData.int (k : Int)
theorem toD_pl {h : Store} {n : Nat} (p : List Nat) : toD (n + 2) h (.tup (plW p)) = some (.tuple (plD p)) := by
  show ((plW p).mapM (toD (n + 1) h)).map PyData.tuple = _
  have : (plW p).mapM (toD (n + 1) h) = some (plD p) := by
    induction p with
    | nil => rfl
    | cons k p ih =>
      show ((W.int (k : Int)) :: plW p).mapM (toD (n + 1) h) = _
      rw [List.mapM_cons, ih]; rfl
  rw [this]; rfl
theorem plD_depth (p : List Nat) : PyData.depthAll (plD p) = 0 := by
  induction p with
  | nil => rfl
  | cons k p ih => show max (PyData.depth (.int _)) (PyData.depthAll (plD p)) = 0; rw [ih]; rfl
theorem plD_lay (p : List Nat) : PyData.canLayAll0 (plD p) = true := by
  induction p with
  | nil => rfl
  | cons k p ih => show (PyData.canLay0 (.int _) && PyData.canLayAll0 (plD p)) = true; rw [ih]; rfl
theorem pl_shaped (p : List Nat) : SeqAt.shaped (.tuple (plD p)) = true := by
  unfold SeqAt.shaped
  simp only [PyData.canLay0, PyData.depth, plD_lay, plD_depth, Bool.true_and]
  exact decide_eq_true (by omega)
theorem shD_pl {h : Store} (p : List Nat) : shD h (.tup (plW p)) = some (.tuple (plD p)) := by
  unfold shD
  rw [toD_pl]
  show (if SeqAt.shaped _ = true then _ else none) = _
  rw [if_pos (pl_shaped p)]
theorem eqvAll_pl : ∀ p q : List Nat, PyData.eqvAll (plD p) (plD q) = true ↔ p = q
  | [], [] => by simp [plD, PyData.eqvAll]
  | [], _ :: _ => by simp [plD, PyData.eqvAll]
  | _ :: _, [] => by simp [plD, PyData.eqvAll]
  | a :: p, b :: q => by
    have ih := eqvAll_pl p q
    show (PyData.eqv (.int (a : Int)) (.int (b : Int)) && PyData.eqvAll (plD p) (plD q)) = true ↔ _
    rw [Bool.and_eq_true, ih]
    simp only [PyData.eqv, beq_iff_eq, List.cons.injEq]
    exact ⟨fun h => ⟨by omega, h.2⟩, fun h => ⟨by omega, h.2⟩⟩
theorem eqv_pl (p q : List Nat) : PyData.eqv (.tuple (plD p)) (.tuple (plD q)) = true ↔ p = q := by
  simp only [PyData.eqv]; exact eqvAll_pl p q
theorem bool_iff {a b : Bool} (h : a = true ↔ b = true) : a = b := by cases a <;> cases b <;> simp_all
end Lw
set_option maxHeartbeats 4000000
namespace Lw
open PySem L2 Bi
local macro_rules | `(tactic| walk_at "op") => `(tactic| first
  | (with_reducible show op2 _ _ _ _ = _; first | rfl | (show _ = _; simp only [op2, bnd, chk, Bi.ret, ofO]; rfl))
  | (with_reducible show op1 _ _ _ = _; rfl)
  | (with_reducible show truth _ _ = _; rfl)
  | (with_reducible show setT _ _ _ = _; rfl))
local macro_rules | `(tactic| walk_at "go") => `(tactic| repeat' first
  | exact e_v rfl | exact e_c | exact es_nil | exact p_no | exact t_nil | exact b_nil | exact e_dnewK | exact e_dnewT
  | with_reducible refine es_cons ?_ ?_ | with_reducible refine e_tup ?_ ?_ | with_reducible refine e_lst ?_ ?_ | with_reducible refine e_b2 ?_ ?_ ?_ | with_reducible refine e_f1 ?_ ?_ | with_reducible refine e_fn ?_ ?_ | with_reducible refine e_me ?_ ?_ ?_ ?_ | with_reducible refine e_sl ?_ ?_ ?_ ?_ | with_reducible refine p_yes ?_ | with_reducible refine e_not ?_ ?_ | with_reducible refine e_call ?_ ?_ | with_reducible refine t_one ?_ ?_
  | with_reducible refine x_asg ?_ ?_ | with_reducible refine x_ret ?_ | with_reducible refine x_ex ?_ | with_reducible refine x_stoD ?_ ?_ ?_ ?_
  | walk_at "op")
/-- a comprehension whose turns leave the store as it is -/
theorem c_list {ck : Option (Nat × List W)} {f : W → M (Option W)} {h : Store} (st : stands ck h) : ∀ {ws out acc : List W}, out.length = ws.length → (∀ (k : Nat) (w y : W), ws[k]? = some w → out[k]? = some y → f w h = some (.ok (some y), h)) → acc.length + ws.length ≤ sizeLine → compM ck f ws acc h = some (.ok (acc ++ out), h)
  | [], [], acc, _, _, hz => by rw [List.append_nil]; exact c_nil st hz
  | [], _ :: _, _, hl, _, _ => by simp at hl
  | _ :: _, [], _, hl, _, _ => by simp at hl
  | w :: ws, y :: out, acc, hl, hf, hz => by
    refine c_cons st (hf 0 w y rfl rfl) ?_
    rw [c_list st (by simpa using hl) (fun k v z h1 h2 => hf (k + 1) v z (by simpa using h1) (by simpa using h2)) (by rw [List.length_append, List.length_singleton]; rw [List.length_cons] at hz; omega)]
    rw [List.append_assoc]; rfl
theorem szl {n : Nat} (h : n ≤ 16000000) : n ≤ sizeLine := by rw [sizeLine_eq]; omega
theorem szw {xs : List W} (h : Nat.ble xs.length 1000 = true) : xs.length ≤ sizeLine := szl (Nat.le_trans (Nat.le_of_ble_eq_true h) (by omega))
theorem o_cat {xs ys : List W} {h : Store} (hz : xs.length + ys.length ≤ sizeLine) : op2 .add (.tup xs) (.tup ys) h = some (.ok (.tup (xs ++ ys)), h) := by
  show chk _ _ h = _
  unfold chk; rw [if_pos hz]; rfl
theorem rg3_get {i j : Int} {k : Nat} {w : W} (e : ((List.range (i - j).toNat).map fun (k : Nat) => W.int (i + (k : Int) * (-1)))[k]? = some w) : k < (i - j).toNat ∧ w = .int (i - k) := by
  rw [List.getElem?_map] at e
  obtain ⟨m, hm, rfl⟩ := Option.map_eq_some_iff.mp e
  obtain ⟨h1, h2⟩ := List.getElem?_eq_some_iff.mp hm
  simp at h1 h2
  subst h2
  exact ⟨by omega, by congr 1; omega⟩
theorem rg2_get {i j : Int} {k : Nat} {w : W} (e : ((List.range (j - i).toNat).map fun (k : Nat) => W.int (i + (k : Int)))[k]? = some w) : k < (j - i).toNat ∧ w = .int (i + k) := by
  rw [List.getElem?_map] at e
  obtain ⟨m, hm, rfl⟩ := Option.map_eq_some_iff.mp e
  obtain ⟨h1, h2⟩ := List.getElem?_eq_some_iff.mp hm
  simp at h1 h2
  subst h2
  exact ⟨by omega, rfl⟩
theorem rg1_get {n k : Nat} {w : W} (e : ((List.range n).map fun (k : Nat) => W.int (0 + (k : Int)))[k]? = some w) : k < n ∧ w = .int k := by
  rw [List.getElem?_map] at e
  obtain ⟨m, hm, rfl⟩ := Option.map_eq_some_iff.mp e
  obtain ⟨h1, h2⟩ := List.getElem?_eq_some_iff.mp hm
  simp at h1 h2
  subst h2
  exact ⟨by omega, by congr 1; omega⟩
theorem i_rg3 {i j : Int} {h : Store} (a : -(2 ^ 62) ≤ i) (b : i < 2 ^ 62) (c : -(2 ^ 62) ≤ j) (d : j < 2 ^ 62) : items .rg3 [.int i, .int j, .int (-1)] h = some (.ok ((List.range (i - j).toNat).map fun (k : Nat) => .int (i + (k : Int) * (-1)), none), h) := by
  show chk _ _ h = _
  unfold chk; rw [if_pos ⟨rfl, a, b, c, d⟩]; rfl
theorem i_rg2 {i j : Int} {h : Store} (a : -(2 ^ 62) ≤ i) (b : i < 2 ^ 62) (c : -(2 ^ 62) ≤ j) (d : j < 2 ^ 62) : items .rg2 [.int i, .int j] h = some (.ok ((List.range (j - i).toNat).map fun (k : Nat) => .int (i + (k : Int)), none), h) := by
  show chk _ _ h = _
  unfold chk; rw [if_pos ⟨a, b, c, d⟩]; rfl
theorem i_rg1 {n : Nat} {h : Store} (b : (n : Int) < 2 ^ 62) : items .rg1 [.int n] h = some (.ok ((List.range n).map fun (k : Nat) => .int (0 + (k : Int)), none), h) := by
  show chk _ _ h = _
  unfold chk; rw [if_pos ⟨by omega, b⟩]; rfl
theorem i_lst {c : Nat} {xs : List W} {h : Store} (e : h[c]? = some (.lst xs)) : items .sq [.loc c] h = some (.ok (xs, some (c, xs)), h) := by
  show (lstAt h c).map _ = _
  unfold lstAt; rw [e]; rfl
theorem o_len {h : Store} {c : Nat} {xs : List W} (e : h[c]? = some (.lst xs)) : op1 .len (.loc c) h = some (.ok (.int xs.length), h) := by
  show (lstAt h c).map _ = _
  unfold lstAt; rw [e]; rfl
theorem o_ix {h : Store} {c : Nat} {xs : List W} {i : Int} {w : W} (e : h[c]? = some (.lst xs)) (q : atI xs i = some w) : op2 .ix (.loc c) (.int i) h = some (.ok w, h) := by
  show (match lstAt h c with | some xs => ofO (atI xs i) h | none => none) = _
  unfold lstAt; rw [e]
  show ofO (atI xs i) h = _
  rw [q]; rfl
/-- a node and its place -/
def pairW (q : List Nat × LT) : W := .tup [.tup (plW q.1), q.2.w]
def kids (p : List Nat) : Nat → List LT → List (List Nat × LT)
  | _, [] => []
  | i, t :: ts => (p ++ [i], t) :: kids p (i + 1) ts
theorem pairW_snoc (p : List Nat) (j : Nat) (t : LT) : pairW (p ++ [j], t) = .tup [.tup (plW p ++ [.int (j : Int)]), t.w] := by
  unfold pairW plW; rw [List.map_append]; rfl
theorem kids_len (p : List Nat) : ∀ (i : Nat) (ts : List LT), (kids p i ts).length = ts.length
  | _, [] => rfl
  | i, t :: ts => by rw [kids, List.length_cons, List.length_cons, kids_len p (i + 1) ts]
theorem kids_get (p : List Nat) : ∀ (i j : Nat) (ts : List LT), (kids p i ts)[j]? = ts[j]?.map fun t => (p ++ [i + j], t)
  | _, _, [] => by simp [kids]
  | i, 0, t :: ts => by simp [kids]
  | i, j + 1, t :: ts => by
    rw [kids, List.getElem?_cons_succ, List.getElem?_cons_succ, kids_get p (i + 1) j ts, show i + 1 + j = i + (j + 1) by omega]
theorem kids_mem {p : List Nat} : ∀ {i : Nat} {ts : List LT} {q : List Nat × LT}, q ∈ kids p i ts → q.2 ∈ ts
  | _, [], _, h => by cases h
  | i, t :: ts, q, h => by
    rw [kids] at h
    rcases List.mem_cons.mp h with e | h
    · rw [e]; exact List.mem_cons_self
    · exact List.mem_cons_of_mem _ (kids_mem h)
theorem children_back_ok {n : Nat} {h : Store} {t : LT} {p : List Nat} (i : In h t) (hz : t.ch.length ≤ 100000) (hp : p.length ≤ 100000) :
    Phi (n + 1) 2 [.tup (plW p), t.w] h = some (.ok (.loc h.length), h ++ [.lst ((kids p 0 t.ch).map pairW).reverse]) := by
  obtain ⟨l, c, ch⟩ := t
  have hc := i.at_
  have hz : ch.length ≤ 100000 := hz
  have key : ev (Phi n) (.lc [3] (.nm 3) .rg3 [(.b2 .sub (.f1 .len (.v 2)) (.c (.int 1))), (.f1 .neg (.c (.int 1))), (.f1 .neg (.c (.int 1)))] [] (.tup [(.b2 .add (.v 0) (.tup [(.v 3)])), (.b2 .ix (.v 2) (.v 3))])) [some (.tup (plW p)), some (LT.w (.nd l c ch)), some (.loc c), none] h = some (.ok (.loc h.length), h ++ [.lst ((kids p 0 ch).map pairW).reverse]) := by
    refine e_lc (ws := [.int ((ch.map LT.w).length - 1), .int (-1), .int (-1)]) (h1 := h) ?_ (i_rg3 (by omega) (by rw [List.length_map]; omega) (by omega) (by omega)) (c_list (acc := []) (out := ((kids p 0 ch).map pairW).reverse) (show stands none h from trivial) ?_ ?_ ?_)
    · exact es_cons (e_b2 (e_f1 (e_v rfl) (o_len hc)) e_c rfl) (es_cons (e_f1 e_c rfl) (es_cons (e_f1 e_c rfl) es_nil))
    · simp [kids_len]
    · intro k w y h1 h2
      obtain ⟨hk, rfl⟩ := rg3_get h1
      rw [List.length_map] at hk
      have hk : k < ch.length := by omega
      have hlt : ch.length - 1 - k < ch.length := by omega
      have h2 : y = pairW (p ++ [ch.length - 1 - k], ch[ch.length - 1 - k]) := by
        rw [List.getElem?_reverse (by simpa [kids_len] using hk), List.length_map, kids_len, List.getElem?_map, kids_get, List.getElem?_eq_getElem hlt, Nat.zero_add] at h2
        exact (Option.some.inj h2).symm
      subst h2
      have hj : ((ch.map LT.w).length - 1 - k : Int) = ((ch.length - 1 - k : Nat) : Int) := by rw [List.length_map]; omega
      rw [hj]
      refine lcF_in (ρ' := [some (.tup (plW p)), some (LT.w (.nd l c ch)), some (.loc c), some (.int ((ch.length - 1 - k : Nat) : Int))]) rfl t_nil (h2 := h) ?_
      rw [pairW_snoc]
      exact e_tup (es_cons (e_b2 (e_v rfl) (e_tup (es_cons (e_v rfl) es_nil) (szw rfl)) (o_cat (szl (by rw [List.length_map]; show p.length + 1 ≤ _; omega)))) (es_cons (e_b2 (e_v rfl) (e_v rfl) (o_ix hc (atI_nat (by rw [List.getElem?_map, List.getElem?_eq_getElem hlt]; rfl)))) es_nil)) (szw rfl)
    · exact szl (by simp; omega)
  refine d_ret (ρ' := [some (.tup (plW p)), some (LT.w (.nd l c ch)), some (.loc c), none]) ?_
  exact b_cons (x_asg (e_b2 (e_v rfl) e_c rfl) rfl) (b_ret (x_ret key))
end Lw
set_option maxHeartbeats 4000000
namespace Lw
open PySem L2 Bi
theorem o_pop {h : Store} {c : Nat} {zs : List W} {y : W} (e : h[c]? = some (.lst (zs ++ [y]))) : opn .pop [.loc c] h = some (.ok y, h.set c (.lst zs)) := by
  show (match h[c]? with
    | some (.lst xs) => match xs[xs.length - 1]? with
      | some y => some (Rs.ok y, h.set c (.lst xs.dropLast))
      | none => none
    | _ => none) = _
  rw [e]
  simp
theorem o_app {h : Store} {c : Nat} {xs : List W} {y : W} (e : h[c]? = some (.lst xs)) (hz : xs.length < sizeLine) : opn .append [.loc c, y] h = some (.ok .non, h.set c (.lst (xs ++ [y]))) := by
  show (match h[c]? with
    | some (.lst xs) => if xs.length < sizeLine then some (Rs.ok W.non, h.set c (.lst (xs ++ [y]))) else none
    | _ => none) = _
  rw [e]
  show (if xs.length < sizeLine then _ else none) = _
  rw [if_pos hz]
theorem o_ext {h : Store} {c k : Nat} {xs ys : List W} (e : h[c]? = some (.lst xs)) (e2 : h[k]? = some (.lst ys)) (hz : xs.length + ys.length ≤ sizeLine) : opn .extend [.loc c, .loc k] h = some (.ok .non, h.set c (.lst (xs ++ ys))) := by
  show (match h[c]?, h[k]? with
    | some (.lst xs), some (.lst ys) => if xs.length + ys.length ≤ sizeLine then some (Rs.ok W.non, h.set c (.lst (xs ++ ys))) else none
    | _, _ => none) = _
  rw [e, e2]
  show (if xs.length + ys.length ≤ sizeLine then _ else none) = _
  rw [if_pos hz]
theorem k_lst {h : Store} {c : Nat} {xs : List W} (e : h[c]? = some (.lst xs)) : kind .list (.loc c) h = some (.ok (), h) := by
  show (match h[c]? with | some (.lst _) => some (Rs.ok (), h) | _ => none) = _
  rw [e]
theorem t_lst {h : Store} {c : Nat} {xs : List W} (e : h[c]? = some (.lst xs)) : truth (.loc c) h = some (.ok (!xs.isEmpty), h) := by
  show (match h[c]? with
    | some (.lst xs) => some (Rs.ok (!xs.isEmpty), h)
    | some (.dk kvs) => some (Rs.ok (!kvs.isEmpty), h)
    | _ => none) = _
  rw [e]
theorem lt_of {h : Store} {c : Nat} {o : O} (e : h[c]? = some o) : c < h.length := (List.getElem?_eq_some_iff.mp e).1
theorem set_at {h : Store} {c : Nat} {o : O} (hl : c < h.length) : (h.set c o)[c]? = some o := List.getElem?_set_self hl
theorem set_ne' {h : Store} {c d : Nat} {o : O} (n : c ≠ d) : (h.set c o)[d]? = h[d]? := List.getElem?_set_ne n
theorem app_lt {h g : Store} {c : Nat} {o : O} (e : h[c]? = some o) : (h ++ g)[c]? = some o := Ext.app c o e
theorem app_new {h : Store} {o : O} : (h ++ [o])[h.length]? = some o := by rw [List.getElem?_append_right (Nat.le_refl _)]; simp

mutual
def LT.nodes (p : List Nat) : LT → List (List Nat × LT)
  | .nd l c ch => (p, .nd l c ch) :: nodesL p 0 ch
def nodesL (p : List Nat) (i : Nat) : List LT → List (List Nat × LT)
  | [] => []
  | t :: ts => t.nodes (p ++ [i]) ++ nodesL p (i + 1) ts
end
def sizQ (qs : List (List Nat × LT)) : Nat := Tr.sizL (qs.map fun q => q.2.er)
def flat (qs : List (List Nat × LT)) : List (List Nat × LT) := qs.flatMap fun q => q.2.nodes q.1
theorem flat_kids (p : List Nat) : ∀ (i : Nat) (ts : List LT), flat (kids p i ts) = nodesL p i ts
  | i, [] => by rw [kids, nodesL]; rfl
  | i, t :: ts => by
    rw [kids, nodesL, ← flat_kids p (i + 1) ts]
    unfold flat
    rw [List.flatMap_cons]
theorem flat_app (a b : List (List Nat × LT)) : flat (a ++ b) = flat a ++ flat b := by unfold flat; rw [List.flatMap_append]
theorem sizQ_kids (p : List Nat) : ∀ (i : Nat) (ts : List LT), sizQ (kids p i ts) = Tr.sizL (ts.map LT.er)
  | i, [] => rfl
  | i, t :: ts => by
    have ih := sizQ_kids p (i + 1) ts
    unfold sizQ at ih ⊢
    rw [kids, List.map_cons, List.map_cons, Tr.sizL, Tr.sizL, ih]
theorem er_ch (t : LT) : t.er = .nd t.l (t.ch.map LT.er) := by cases t; rw [er_nd]; rfl
theorem kids_lev {p : List Nat} {i : Nat} {ts : List LT} {q : List Nat × LT} (h : q ∈ kids p i ts) : q.1.length = p.length + 1 ∧ q.2.er.lev ≤ Tr.levL (ts.map LT.er) := by
  refine ⟨?_, lev_mem (List.mem_map_of_mem (kids_mem h))⟩
  have key : ∀ (i : Nat) (ts : List LT), q ∈ kids p i ts → q.1.length = p.length + 1 := by
    intro i ts
    induction ts generalizing i with
    | nil => intro h; cases h
    | cons t ts ih =>
      intro h
      rw [kids] at h
      rcases List.mem_cons.mp h with e | h
      · rw [e]; simp
      · exact ih _ h
  exact key i ts h
noncomputable abbrev allT (n : Nat) : Bi.Env → M (Bi.Env × Bool) := fun ρ => bnd (ev (Phi n) (.v 2) ρ) fun x => bnd (truth x) fun c => Bi.ret (ρ, c)
noncomputable abbrev allB (n : Nat) : Bi.Env → M (Fl × Bi.Env) := fun ρ => exs (Phi n) [.asg (.tp [(.nm 3), (.nm 4)]) (.me .list .pop (.v 2) []), .ex (.me .list .append (.v 1) [(.tup [(.v 3), (.v 4)])]), .ex (.me .list .extend (.v 2) [(.call 2 [(.v 3), (.v 4)])])] ρ
theorem all_loop (n : Nat) {f w : Nat} (hfw : f ≠ w) (tw : W) {h0 : Store} (hf0 : h0.length ≤ f) (hw0 : h0.length ≤ w) : ∀ (m : Nat) (qs : List (List Nat × LT)) (fnd : List W) (h : Store) (x3 x4 : Option W), sizQ qs ≤ m → Ext h0 h → (∀ q ∈ qs, In h0 q.2) → (∀ q ∈ qs, q.1.length + q.2.er.lev ≤ 50000) →
    h[f]? = some (.lst fnd) → h[w]? = some (.lst (qs.map pairW).reverse) → fnd.length + sizQ qs ≤ 50000 → ∃ h' x3' x4', whM (allT (n + 1)) (allB (n + 1)) [some tw, some (.loc f), some (.loc w), x3, x4] h = some (.ok (.nx, [some tw, some (.loc f), some (.loc w), x3', x4']), h') ∧ Ext h0 h' ∧ h'[f]? = some (.lst (fnd ++ (flat qs).map pairW)) := by
  intro m
  induction m with
  | zero =>
    intro qs fnd h x3 x4 hm hE hI hp hf hw hz
    cases qs with
    | nil =>
      refine ⟨h, x3, x4, wh_stop (wt (e_v rfl) (t_lst hw)), hE, ?_⟩
      rw [hf]; simp [flat]
    | cons q qs =>
      unfold sizQ at hm
      rw [List.map_cons, Tr.sizL] at hm
      have := siz_pos q.2.er
      omega
  | succ m ih =>
    intro qs fnd h x3 x4 hm hE hI hp hf hw hz
    cases qs with
    | nil =>
      refine ⟨h, x3, x4, wh_stop (wt (e_v rfl) (t_lst hw)), hE, ?_⟩
      rw [hf]; simp [flat]
    | cons q qs =>
      obtain ⟨p, t⟩ := q
      have hIt := hI _ List.mem_cons_self
      have hpt := hp _ List.mem_cons_self
      have hsz : sizQ ((p, t) :: qs) = t.er.siz + sizQ qs := by unfold sizQ; rw [List.map_cons, Tr.sizL]
      have hsiz : t.er.siz = Tr.sizL (t.ch.map LT.er) + 1 := by rw [er_ch, Tr.siz]
      have hlev : t.er.lev = Tr.levL (t.ch.map LT.er) + 1 := by rw [er_ch, Tr.lev]
      have hchl : t.ch.length ≤ Tr.sizL (t.ch.map LT.er) := by have := len_sizL (t.ch.map LT.er); rwa [List.length_map] at this
      rw [List.map_cons, List.reverse_cons] at hw
      -- the stores of a turn
      have lf := lt_of hf
      have lw := lt_of hw
      let h1 := h.set w (.lst (qs.map pairW).reverse)
      let h2 := h1.set f (.lst (fnd ++ [pairW (p, t)]))
      let h3 := h2 ++ [.lst ((kids p 0 t.ch).map pairW).reverse]
      let h4 := h3.set w (.lst ((qs.map pairW).reverse ++ ((kids p 0 t.ch).map pairW).reverse))
      have w1 : h1[w]? = some (.lst (qs.map pairW).reverse) := set_at lw
      have f1 : h1[f]? = some (.lst fnd) := by show (h.set w _)[f]? = _; rw [set_ne' hfw.symm]; exact hf
      have l1 : h1.length = h.length := List.length_set
      have w2 : h2[w]? = some (.lst (qs.map pairW).reverse) := by show (h1.set f _)[w]? = _; rw [set_ne' hfw]; exact w1
      have f2 : h2[f]? = some (.lst (fnd ++ [pairW (p, t)])) := set_at (by rw [l1]; exact lf)
      have E2 : Ext h0 h2 := (hE.set hw0).set hf0
      have w3 : h3[w]? = some (.lst (qs.map pairW).reverse) := app_lt w2
      have f3 : h3[f]? = some (.lst (fnd ++ [pairW (p, t)])) := app_lt f2
      have E3 : Ext h0 h3 := E2.trans Ext.app
      have f4 : h4[f]? = some (.lst (fnd ++ [pairW (p, t)])) := by show (h3.set w _)[f]? = _; rw [set_ne' hfw.symm]; exact f3
      have w4 : h4[w]? = some (.lst ((kids p 0 t.ch ++ qs).map pairW).reverse) := by
        rw [List.map_append, List.reverse_append]
        exact set_at (lt_of w3)
      have E4 : Ext h0 h4 := E3.set hw0
      have hq : sizQ (kids p 0 t.ch ++ qs) = Tr.sizL (t.ch.map LT.er) + sizQ qs := by
        rw [← sizQ_kids p 0 t.ch]
        unfold sizQ
        rw [List.map_append, sizL_app]
      obtain ⟨h', x3', x4', e, E', r⟩ := ih (kids p 0 t.ch ++ qs) (fnd ++ [pairW (p, t)]) h4 (some (.tup (plW p))) (some t.w) (by omega) E4
        (fun q hq => by
          rcases List.mem_append.mp hq with hq | hq
          · cases t with
            | nd l c ch => exact hIt.kid _ (kids_mem hq)
          · exact hI _ (List.mem_cons_of_mem _ hq))
        (fun q hq => by
          rcases List.mem_append.mp hq with hq | hq
          · have := kids_lev hq
            have hpt : p.length + t.er.lev ≤ 50000 := hpt
            omega
          · exact hp _ (List.mem_cons_of_mem _ hq)) f4 w4 (by rw [List.length_append, List.length_singleton]; omega)
      have hqn : sizQ qs ≥ qs.length := by
        have := len_sizL (qs.map fun q => q.2.er)
        rw [List.length_map] at this
        exact this
      refine ⟨h', x3', x4', wh_turn (h1 := h) (h2 := h4) (wt (e_v rfl) (by rw [t_lst hw]; simp)) ?_ e, E', ?_⟩
      · refine b_cons (h1 := h1) (x_asg (w := pairW (p, t)) (e_me (e_v rfl) (k_lst hw) es_nil (o_pop hw)) rfl) ?_
        refine b_cons (h1 := h2) (x_ex (e_me (e_v rfl) (k_lst f1) (es_cons (e_tup (es_cons (e_v rfl) (es_cons (e_v rfl) es_nil)) (szw rfl)) es_nil) (o_app f1 (Nat.lt_of_lt_of_le (by omega : fnd.length < 50001) (szl (by omega)))))) ?_
        refine b_cons (h1 := h4) (x_ex (e_me (e_v rfl) (k_lst w2) (es_cons (e_call (es_cons (e_v rfl) (es_cons (e_v rfl) es_nil)) (children_back_ok (n := n) (t := t) (p := p) (hIt.ext E2) (by omega) (by have hpt : p.length + t.er.lev ≤ 50000 := hpt; omega))) es_nil) (o_ext w3 app_new (szl (by simp [kids_len]; omega))))) ?_
        exact b_nil
      · rw [r, flat_app, flat_kids]
        have : t.nodes p = (p, t) :: nodesL p 0 t.ch := by cases t; rw [LT.nodes]; rfl
        unfold flat at *
        rw [List.flatMap_cons, this]
        simp
theorem all_nodes_ok {n : Nat} {h : Store} {t : LT} (i : In h t) (hz : t.er.siz ≤ 40000) : ∃ h', Phi (n + 2) 3 [t.w] h = some (.ok (.loc h.length), h') ∧ Ext h h' ∧ h'[h.length]? = some (.lst ((t.nodes []).map pairW)) := by
  have hl := lev_siz t.er
  obtain ⟨h', x3, x4, e, E, r⟩ := all_loop n (f := h.length) (w := h.length + 1) (by omega) t.w (h0 := h) (Nat.le_refl _) (by omega) (sizQ [([], t)]) [([], t)] [] (h ++ [.lst []] ++ [.lst [pairW ([], t)]]) none none (Nat.le_refl _) (Ext.app.trans Ext.app)
    (fun q hq => by rw [List.mem_singleton.mp hq]; exact i) (fun q hq => by rw [List.mem_singleton.mp hq]; show 0 + t.er.lev ≤ _; omega) (app_lt app_new) (by rw [show h.length + 1 = (h ++ [O.lst []]).length by simp]; exact app_new) (by unfold sizQ; show 0 + (t.er.siz + 0) ≤ _; omega)
  refine ⟨h', d_ret (ρ' := [some t.w, some (.loc h.length), some (.loc (h.length + 1)), x3, x4]) ?_, E, by rw [r]; simp [flat]⟩
  refine b_cons (h1 := h ++ [.lst []]) (x_asg (e_lst es_nil (szw rfl)) rfl) ?_
  refine b_cons (h1 := h ++ [.lst []] ++ [.lst [pairW ([], t)]]) (x_asg (w := .loc (h ++ [O.lst []]).length) (e_lst (es_cons (e_tup (es_cons (e_tup es_nil (szw rfl)) (es_cons (e_v rfl) es_nil)) (szw rfl)) es_nil) (szw rfl)) rfl) ?_
  refine b_cons (ρ' := [some t.w, some (.loc h.length), some (.loc (h.length + 1)), x3, x4]) (h1 := h') ?_ (b_ret (x_ret (e_v rfl)))
  rw [ex]
  have hlen : (h ++ [O.lst []]).length = h.length + 1 := by simp
  simp only [hlen]
  exact e
end Lw
set_option maxHeartbeats 4000000
namespace Lw
open PySem L2 Bi
/-- all its lists are new -/
inductive New (n : Nat) : LT → Prop where
  | nd {l : Str} {c : Nat} {ch : List LT} : n ≤ c → (∀ t ∈ ch, New n t) → New n (.nd l c ch)
theorem New.mono {n m : Nat} (h : m ≤ n) : ∀ {t : LT}, New n t → New m t := by
  intro t
  refine LT.ind (P := fun t => New n t → New m t) (fun l c ch ih q => ?_) t
  cases q with
  | nd a b => exact .nd (by omega) fun t ht => ih t ht (b t ht)
theorem In.setD {h : Store} {d : Nat} {o : O} {kvs : List (List Key × W)} (hd : h[d]? = some (.dt kvs)) : ∀ {t : LT}, In h t → In (h.set d o) t := by
  intro t
  refine LT.ind (P := fun t => In h t → In (h.set d o) t) (fun l c ch ih i => ?_) t
  refine .nd ?_ fun t ht => ih t ht (i.kid t ht)
  have hne : d ≠ c := fun z => by
    subst z
    have := i.at_
    rw [hd] at this; cases this
  rw [set_ne' hne]; exact i.at_
abbrev plK (p : List Nat) : List Key := p.map fun (k : Nat) => (Sum.inl (k : Int) : Key)
theorem keysW_pl : ∀ p : List Nat, keysW (plW p) = some (plK p)
  | [] => rfl
  | k :: p => by
    show ((keyW (.int (k : Int))).bind fun q => (keysW (plW p)).map fun ks => q :: ks) = _
    rw [keysW_pl p]; rfl
theorem plK_inj : ∀ {p q : List Nat}, plK p = plK q → p = q
  | [], [], _ => rfl
  | [], _ :: _, h => by cases h
  | _ :: _, [], h => by cases h
  | a :: p, b :: q, h => by
    have h : (Sum.inl (a : Int) : Key) :: plK p = (Sum.inl (b : Int) : Key) :: plK q := h
    injection h with h1 h2
    injection h1 with h1
    rw [plK_inj h2, show a = b by omega]
theorem getA_nil {κ : Type} [DecidableEq κ] (k : κ) : getA ([] : List (κ × W)) k = none := rfl
theorem getA_cons {κ : Type} [DecidableEq κ] (p : κ × W) (r : List (κ × W)) (k : κ) : getA (p :: r) k = if p.1 = k then some p.2 else getA r k := by
  unfold getA
  rw [List.find?_cons]
  by_cases h : p.1 = k
  · rw [if_pos h, decide_eq_true h]; rfl
  · rw [if_neg h, decide_eq_false h]
theorem getA_any {κ : Type} [DecidableEq κ] (k : κ) : ∀ kvs : List (κ × W), (kvs.any fun kv => decide (kv.1 = k)) = (getA kvs k).isSome
  | [] => rfl
  | p :: r => by
    rw [List.any_cons, getA_cons, getA_any k r]
    by_cases h : p.1 = k
    · rw [if_pos h, decide_eq_true h]; rfl
    · rw [if_neg h, decide_eq_false h]; rfl
theorem getA_map {κ : Type} [DecidableEq κ] (k j : κ) (w : W) : ∀ kvs : List (κ × W), getA (kvs.map fun kv => if kv.1 = k then (kv.1, w) else kv) j = (getA kvs j).map fun x => if j = k then w else x
  | [] => rfl
  | p :: r => by
    rw [List.map_cons, getA_cons, getA_cons, getA_map k j w r]
    by_cases h : p.1 = k
    · rw [if_pos h]
      by_cases hj : p.1 = j
      · rw [if_pos hj, if_pos hj, Option.map_some, if_pos (hj.symm.trans h)]
      · rw [if_neg hj, if_neg hj]
    · rw [if_neg h]
      by_cases hj : p.1 = j
      · rw [if_pos hj, if_pos hj, Option.map_some, if_neg (fun z => h (hj.trans z))]
      · rw [if_neg hj, if_neg hj]
theorem getA_snoc {κ : Type} [DecidableEq κ] (k j : κ) (w : W) : ∀ kvs : List (κ × W), getA kvs k = none → getA (kvs ++ [(k, w)]) j = if j = k then some w else getA kvs j
  | [], _ => by
    rw [List.nil_append, getA_cons]
    by_cases h : k = j
    · rw [if_pos h, if_pos h.symm]
    · rw [if_neg h, if_neg (fun z => h z.symm)]
  | p :: r, hn => by
    rw [getA_cons] at hn
    by_cases hp : p.1 = k
    · rw [if_pos hp] at hn; cases hn
    · rw [if_neg hp] at hn
      rw [List.cons_append, getA_cons, getA_cons, getA_snoc k j w r hn]
      by_cases hj : p.1 = j
      · rw [if_pos hj, if_pos hj, if_neg (fun z => hp (hj.trans z))]
      · rw [if_neg hj, if_neg hj]
theorem getA_put {κ : Type} [DecidableEq κ] (kvs : List (κ × W)) (k j : κ) (w : W) : getA (putA kvs k w) j = if j = k then some w else getA kvs j := by
  unfold putA
  by_cases ha : (kvs.any fun kv => decide (kv.1 = k)) = true
  · rw [if_pos ha, getA_map]
    rw [getA_any] at ha
    obtain ⟨x, hx⟩ := Option.isSome_iff_exists.mp ha
    by_cases hj : j = k
    · rw [if_pos hj, hj, hx, Option.map_some, if_pos rfl]
    · rw [if_neg hj]
      cases getA kvs j with
      | none => rfl
      | some y => rw [Option.map_some, if_neg hj]
  · rw [if_neg ha]
    refine getA_snoc k j w kvs ?_
    rw [getA_any] at ha
    cases q : getA kvs k with
    | none => rfl
    | some x => rw [q] at ha; exact (ha rfl).elim
theorem putA_len {κ : Type} [DecidableEq κ] (kvs : List (κ × W)) (k : κ) (w : W) : (putA kvs k w).length ≤ kvs.length + 1 := by
  unfold putA
  split
  · rw [List.length_map]; omega
  · simp
/-- the children of a node stand behind it -/
def KidsIn : List (List Nat × LT) → Prop
  | [] => True
  | q :: L => (∀ (i : Nat) (c : LT), q.2.ch[i]? = some c → (q.1 ++ [i], c) ∈ L) ∧ KidsIn L
theorem KidsIn.app : ∀ {a b : List (List Nat × LT)}, KidsIn a → KidsIn b → KidsIn (a ++ b)
  | [], _, _, h => h
  | q :: a, b, h, h2 => ⟨fun i c e => List.mem_append_left _ (h.1 i c e), KidsIn.app h.2 h2⟩
theorem KidsIn.right : ∀ {a b : List (List Nat × LT)}, KidsIn (a ++ b) → KidsIn b
  | [], _, h => h
  | q :: a, b, h => KidsIn.right (a := a) h.2
theorem nodes_head (t : LT) (p : List Nat) : ∃ r, t.nodes p = (p, t) :: r := by cases t; exact ⟨_, by rw [LT.nodes]⟩
theorem nodesL_kid {p : List Nat} : ∀ {i j : Nat} {ts : List LT} {c : LT}, ts[j]? = some c → (p ++ [i + j], c) ∈ nodesL p i ts
  | _, _, [], _, h => by simp at h
  | i, 0, t :: ts, c, h => by
    cases h
    obtain ⟨r, e⟩ := nodes_head t (p ++ [i])
    rw [nodesL, e]
    exact List.mem_append_left _ List.mem_cons_self
  | i, j + 1, t :: ts, c, h => by
    rw [nodesL, show i + (j + 1) = i + 1 + j by omega]
    exact List.mem_append_right _ (nodesL_kid (by simpa using h))
theorem nodes_kids : ∀ (t : LT) (p : List Nat), KidsIn (t.nodes p) := by
  refine LT.ind fun l c ch ih p => ?_
  rw [LT.nodes]
  refine ⟨fun i x e => ?_, ?_⟩
  · have := nodesL_kid (p := p) (i := 0) e
    rwa [Nat.zero_add] at this
  · have : ∀ (ts : List LT) (i : Nat), (∀ t ∈ ts, ∀ p, KidsIn (t.nodes p)) → KidsIn (nodesL p i ts) := by
      intro ts
      induction ts with
      | nil => intro i _; rw [nodesL]; trivial
      | cons a ts ih2 =>
        intro i h
        rw [nodesL]
        exact (h a List.mem_cons_self _).app (ih2 _ fun t ht => h t (List.mem_cons_of_mem _ ht))
    exact this ch 0 ih
theorem nodes_len : ∀ (t : LT) (p : List Nat), (t.nodes p).length = t.er.siz := by
  refine LT.ind fun l c ch ih p => ?_
  rw [LT.nodes, er_nd, Tr.siz, List.length_cons]
  have : ∀ (ts : List LT) (i : Nat), (∀ t ∈ ts, ∀ p, (t.nodes p).length = t.er.siz) → (nodesL p i ts).length = Tr.sizL (ts.map LT.er) := by
    intro ts
    induction ts with
    | nil => intro i _; rw [nodesL]; rfl
    | cons a ts ih2 =>
      intro i h
      rw [nodesL, List.length_append, List.map_cons, Tr.sizL, h a List.mem_cons_self, ih2 _ fun t ht => h t (List.mem_cons_of_mem _ ht)]
  rw [this ch 0 ih]
/-- each node's tree stands, its place is as long as its depth -/
theorem nodes_mem {h : Store} : ∀ (t : LT) (p : List Nat), In h t → ∀ q ∈ t.nodes p, In h q.2 ∧ q.1.length + q.2.er.lev ≤ p.length + t.er.lev ∧ q.2.er.siz ≤ t.er.siz := by
  refine LT.ind fun l c ch ih p i q hq => ?_
  rw [LT.nodes] at hq
  rcases List.mem_cons.mp hq with e | hq
  · rw [e]; exact ⟨i, Nat.le_refl _, Nat.le_refl _⟩
  · have : ∀ (ts : List LT) (j : Nat), (∀ t ∈ ts, t ∈ ch) → q ∈ nodesL p j ts → In h q.2 ∧ q.1.length + q.2.er.lev ≤ p.length + (LT.nd l c ch).er.lev ∧ q.2.er.siz ≤ (LT.nd l c ch).er.siz := by
      intro ts
      induction ts with
      | nil => intro j _ h; rw [nodesL] at h; cases h
      | cons a ts ih2 =>
        intro j hs hq
        rw [nodesL] at hq
        rcases List.mem_append.mp hq with hq | hq
        · have ha := hs a List.mem_cons_self
          obtain ⟨q1, q2, q3⟩ := ih a ha _ (i.kid a ha) q hq
          have hlev := lev_mem (ts := ch.map LT.er) (List.mem_map_of_mem ha)
          have hsiz := siz_mem (ts := ch.map LT.er) (List.mem_map_of_mem ha)
          rw [List.length_append, List.length_singleton] at q2
          rw [er_nd, Tr.lev, Tr.siz]
          exact ⟨q1, by omega, by omega⟩
        · exact ih2 _ (fun t ht => hs t (List.mem_cons_of_mem _ ht)) hq
    exact this ch 0 (fun _ h => h) hq
/-- the node at a place -/
def LT.sub : List Nat → LT → Option LT
  | [], t => some t
  | i :: p, t => (t.ch[i]?).bind fun c => LT.sub p c
theorem nodes_sub : ∀ (t : LT) (p : List Nat), ∀ q ∈ t.nodes p, ∃ r, q.1 = p ++ r ∧ LT.sub r t = some q.2 := by
  refine LT.ind fun l c ch ih p q hq => ?_
  rw [LT.nodes] at hq
  rcases List.mem_cons.mp hq with e | hq
  · rw [e]; exact ⟨[], by simp, rfl⟩
  · have : ∀ (ts : List LT) (j : Nat), (∀ i x, ts[i]? = some x → ch[j + i]? = some x) → q ∈ nodesL p j ts → ∃ r, q.1 = p ++ r ∧ LT.sub r (.nd l c ch) = some q.2 := by
      intro ts
      induction ts with
      | nil => intro j _ h; rw [nodesL] at h; cases h
      | cons a ts ih2 =>
        intro j hs hq
        rw [nodesL] at hq
        rcases List.mem_append.mp hq with hq | hq
        · have ha := hs 0 a rfl
          obtain ⟨r, h1, h2⟩ := ih a (List.mem_of_getElem? ha) _ q hq
          refine ⟨j :: r, by rw [h1]; simp, ?_⟩
          show (ch[j]?).bind _ = _
          rw [show ch[j]? = some a from ha]; exact h2
        · exact ih2 (j + 1) (fun i x e => by
            have := hs (i + 1) x (by simpa using e)
            rwa [show j + 1 + i = j + (i + 1) by omega]) hq
    exact this ch 0 (fun i x e => by rwa [Nat.zero_add]) hq
/-- the dict has a copy of each of these -/
def Copies (n : Nat) (h : Store) (kvs : List (List Key × W)) (L : List (List Nat × LT)) : Prop := ∀ q ∈ L, ∃ t', getA kvs (plK q.1) = some t'.w ∧ In h t' ∧ t'.er = q.2.er ∧ New n t'
theorem o_dix {h : Store} {d : Nat} {kvs : List (List Key × W)} {p : List Nat} {w : W} (hd : h[d]? = some (.dt kvs)) (hg : getA kvs (plK p) = some w) : op2 .dix (.loc d) (.tup (plW p)) h = some (.ok w, h) := by
  show (match h[d]?.bind fun o => dget o (.tup (plW p)) with | some (some w) => some (Rs.ok w, h) | _ => none) = _
  rw [hd]
  show (match (keysW (plW p)).map (fun q => getA kvs q) with | some (some w) => some (Rs.ok w, h) | _ => none) = _
  rw [keysW_pl, Option.map_some, hg]
theorem o_put {h : Store} {d : Nat} {kvs : List (List Key × W)} {p : List Nat} {w : W} (hd : h[d]? = some (.dt kvs)) (hz : kvs.length < sizeLine) : putD (.loc d) (.tup (plW p)) w h = some (.ok (), h.set d (.dt (putA kvs (plK p) w))) := by
  show (h[d]?.bind fun o => (dput o (.tup (plW p)) w).map fun o' => (Rs.ok (), h.set d o')) = _
  rw [hd]
  show (((keysW (plW p)).bind fun q => if kvs.length < sizeLine then some (O.dt (putA kvs q w)) else none).map fun o' => (Rs.ok (), h.set d o')) = _
  rw [keysW_pl]
  show ((if kvs.length < sizeLine then some (O.dt (putA kvs (plK p) w)) else none).map fun o' => (Rs.ok (), h.set d o')) = _
  rw [if_pos hz]; rfl
noncomputable abbrev freB (n : Nat) : W → Bi.Env → M (Fl × Bi.Env) := forF (Phi n) (.tp [(.nm 2), (.nm 3)]) [.asg (.tp [(.nm 4), (.nm 5)]) (.v 3), .stoD (.v 1) (.v 2) (.tup [(.v 4), (.lc [6] (.nm 6) .rg1 [(.f1 .len (.v 5))] [] (.b2 .dix (.v 1) (.b2 .add (.v 2) (.tup [(.v 6)]))))])]
theorem fre_loop (n : Nat) {d l2 n0 : Nat} {xs : List W} {tw : W} (T0 : LT) (hdl : d ≠ l2) (hn0 : n0 ≤ d) : ∀ (todo done : List (List Nat × LT)) (h0 h : Store) (kvs : List (List Key × W)) (x2 x3 x4 x5 : Option W), h0.length = n0 → Ext h0 h → (∀ q ∈ todo, In h0 q.2 ∧ q.1.length ≤ 50000 ∧ q.2.ch.length ≤ 50000) → KidsIn (todo.reverse ++ done) → (∀ q ∈ todo.reverse ++ done, LT.sub q.1 T0 = some q.2) →
    h[d]? = some (.dt kvs) → h[l2]? = some (.lst xs) → Copies n0 h kvs done → kvs.length ≤ done.length → todo.length + done.length ≤ 50000 →
    ∃ h' kvs' x2' x3' x4' x5', forM (some (l2, xs)) (freB n) (todo.map pairW) [some tw, some (.loc d), x2, x3, x4, x5, none] h = some (.ok (.nx, [some tw, some (.loc d), x2', x3', x4', x5', none]), h') ∧ Ext h0 h' ∧ h'[d]? = some (.dt kvs') ∧ Copies n0 h' kvs' (todo.reverse ++ done) := by
  intro todo
  induction todo with
  | nil =>
    intro done h0 h kvs x2 x3 x4 x5 hl hE hI hK hS hd hx hC hk hz
    exact ⟨h, kvs, x2, x3, x4, x5, f_nil hx, hE, hd, hC⟩
  | cons q todo ih =>
    intro done h0 h kvs x2 x3 x4 x5 hl hE hI hK hS hd hx hC hk hz
    obtain ⟨p, t⟩ := q
    obtain ⟨hIt, hpl, hcl⟩ := hI _ List.mem_cons_self
    have hK' : KidsIn (todo.reverse ++ ((p, t) :: done)) := by
      rw [List.reverse_cons, List.append_assoc] at hK; exact hK
    have hS' : ∀ q ∈ todo.reverse ++ ((p, t) :: done), LT.sub q.1 T0 = some q.2 := by
      rw [List.reverse_cons, List.append_assoc] at hS; exact hS
    have hkid := (KidsIn.right hK').1
    obtain ⟨l, c, ch⟩ := t
    have hkid : ∀ (i : Nat) (x : LT), ch[i]? = some x → (p ++ [i], x) ∈ done := hkid
    have hpl : p.length ≤ 50000 := hpl
    have hcl : ch.length ≤ 50000 := hcl
    -- the copies of the children
    have hcp : ∀ i (hi : i < ch.length), ∃ t', getA kvs (plK (p ++ [i])) = some t'.w ∧ In h t' ∧ t'.er = ch[i].er ∧ New n0 t' := fun i hi => hC (p ++ [i], ch[i]) (hkid i _ (List.getElem?_eq_getElem hi))
    have hcs : ∃ cs : List LT, cs.length = ch.length ∧ (∀ (i : Nat) (t' : LT), cs[i]? = some t' → getA kvs (plK (p ++ [i])) = some t'.w) ∧ (∀ t' ∈ cs, In h t' ∧ New n0 t') ∧ cs.map LT.er = ch.map LT.er := by
      have key : ∀ k, k ≤ ch.length → ∃ cs : List LT, cs.length = k ∧ (∀ (i : Nat) (t' : LT), cs[i]? = some t' → getA kvs (plK (p ++ [i])) = some t'.w) ∧ (∀ t' ∈ cs, In h t' ∧ New n0 t') ∧ cs.map LT.er = (ch.take k).map LT.er := by
        intro k
        induction k with
        | zero => intro _; exact ⟨[], rfl, (fun i t' e => by simp at e), (fun _ h => nomatch h), rfl⟩
        | succ k ihk =>
          intro hk
          obtain ⟨cs, c1, c2, c3, c4⟩ := ihk (by omega)
          obtain ⟨t', g1, g2, g3, g4⟩ := hcp k (by omega)
          refine ⟨cs ++ [t'], by simp [c1], fun i x e => ?_, fun x hx => ?_, ?_⟩
          · by_cases hi : i < cs.length
            · rw [List.getElem?_append_left hi] at e; exact c2 i x e
            · have hi2 : i = cs.length := by
                have := (List.getElem?_eq_some_iff.mp e).1
                simp at this; omega
              subst hi2
              rw [List.getElem?_append_right (Nat.le_refl _)] at e
              simp at e
              subst e
              rw [c1]; exact g1
          · rcases List.mem_append.mp hx with hx | hx
            · exact c3 x hx
            · rw [List.mem_singleton.mp hx]; exact ⟨g2, g4⟩
          · rw [List.map_append, c4, List.take_succ_eq_append_getElem (by omega), List.map_append]
            simp [g3]
      obtain ⟨cs, c1, c2, c3, c4⟩ := key ch.length (Nat.le_refl _)
      exact ⟨cs, c1, c2, c3, by rw [c4, List.take_length]⟩
    obtain ⟨cs, c1, c2, c3, c4⟩ := hcs
    let ρ1 : Bi.Env := [some tw, some (.loc d), some (.tup (plW p)), some (LT.w (.nd l c ch)), some (.str l), some (.loc c), none]
    have hc : h[c]? = some (.lst (ch.map LT.w)) := (hIt.ext hE).at_
    have hlc : ev (Phi n) (.lc [6] (.nm 6) .rg1 [(.f1 .len (.v 5))] [] (.b2 .dix (.v 1) (.b2 .add (.v 2) (.tup [(.v 6)])))) ρ1 h = some (.ok (.loc h.length), h ++ [.lst (cs.map LT.w)]) := by
      refine e_lc (ws := [.int (ch.map LT.w).length]) (h1 := h) ?_ (i_rg1 (by rw [List.length_map]; omega)) (c_list (acc := []) (out := cs.map LT.w) (show stands none h from trivial) ?_ ?_ ?_)
      · exact es_cons (e_f1 (e_v rfl) (o_len hc)) es_nil
      · simp [c1]
      · intro k w y h1 h2
        obtain ⟨hk, rfl⟩ := rg1_get h1
        rw [List.getElem?_map] at h2
        obtain ⟨t', ht', rfl⟩ := Option.map_eq_some_iff.mp h2
        refine lcF_in (ρ' := [some tw, some (.loc d), some (.tup (plW p)), some (LT.w (.nd l c ch)), some (.str l), some (.loc c), some (.int k)]) rfl t_nil (h2 := h) ?_
        refine e_b2 (e_v rfl) (e_b2 (e_v rfl) (e_tup (es_cons (e_v rfl) es_nil) (szw rfl)) (o_cat (szl (by rw [List.length_map]; show p.length + 1 ≤ _; omega)))) ?_
        have : plW p ++ [W.int (k : Int)] = plW (p ++ [k]) := by unfold plW; rw [List.map_append]; rfl
        rw [this]
        exact o_dix hd (c2 k t' ht')
      · exact szl (by simp; omega)
    let h1 := h ++ [.lst (cs.map LT.w)]
    let T' : LT := .nd l h.length cs
    let kvs1 := putA kvs (plK p) T'.w
    let h2 := h1.set d (.dt kvs1)
    have hd1 : h1[d]? = some (.dt kvs) := app_lt hd
    have E2 : Ext h0 h2 := (hE.trans Ext.app).set (by omega)
    have hT' : In h2 T' := In.setD hd1 (.nd app_new fun t ht => (c3 t ht).1.ext Ext.app)
    have hNew : New n0 T' := .nd (by have := hE.len; omega) fun t ht => (c3 t ht).2
    have hd2 : h2[d]? = some (.dt kvs1) := set_at (lt_of hd1)
    have hx2 : h2[l2]? = some (.lst xs) := by show (h1.set d _)[l2]? = _; rw [set_ne' hdl]; exact app_lt hx
    have hC2 : Copies n0 h2 kvs1 ((p, LT.nd l c ch) :: done) := by
      intro q hq
      show ∃ t', getA (putA kvs (plK p) T'.w) (plK q.1) = _ ∧ _
      rw [getA_put]
      by_cases hpq : plK q.1 = plK p
      · rw [if_pos hpq]
        refine ⟨T', rfl, hT', ?_, hNew⟩
        rcases List.mem_cons.mp hq with e | hq
        · rw [e]; show T'.er = (LT.nd l c ch).er; rw [er_nd, er_nd, c4]
        · have s1 := hS' q (List.mem_append_right _ (List.mem_cons_of_mem _ hq))
          have s2 := hS' _ (List.mem_append_right todo.reverse List.mem_cons_self)
          rw [plK_inj hpq, show LT.sub p T0 = some (LT.nd l c ch) from s2] at s1
          rw [← Option.some.inj s1, er_nd, er_nd, c4]
      · rw [if_neg hpq]
        rcases List.mem_cons.mp hq with e | hq
        · rw [e] at hpq; exact absurd rfl hpq
        · obtain ⟨t', g1, g2, g3, g4⟩ := hC q hq
          exact ⟨t', g1, In.setD hd1 (g2.ext Ext.app), g3, g4⟩
    obtain ⟨h', kvs', y2, y3, y4, y5, e, E', d', C'⟩ := ih ((p, LT.nd l c ch) :: done) h0 h2 kvs1 (some (.tup (plW p))) (some (LT.w (.nd l c ch))) (some (.str l)) (some (.loc c)) hl E2 (fun q hq => hI q (List.mem_cons_of_mem _ hq)) hK' hS' hd2 hx2 hC2 (by have := putA_len kvs (plK p) T'.w; show (putA kvs (plK p) T'.w).length ≤ done.length + 1; omega) (by rw [List.length_cons] at hz ⊢; omega)
    refine ⟨h', kvs', y2, y3, y4, y5, f_cons (show stands (some (l2, xs)) h from hx) (forF_in (ρ' := [some tw, some (.loc d), some (.tup (plW p)), some (LT.w (.nd l c ch)), x4, x5, none]) rfl ?_) e, E', d', by rw [List.reverse_cons, List.append_assoc]; exact C'⟩
    refine b_cons (h1 := h) (x_asg (e_v rfl) rfl) (b_cons (h1 := h2) (x_stoD (e_tup (es_cons (e_v rfl) (es_cons hlc es_nil)) (szw rfl)) (e_v rfl) (e_v rfl) (o_put hd1 (Nat.lt_of_lt_of_le (by rw [List.length_cons] at hz; omega : kvs.length < 50001) (szl (by omega))))) b_nil)
theorem fresh_ok {n : Nat} {h : Store} {t : LT} (i : In h t) (hz : t.er.siz ≤ 40000) : ∃ h' t', Phi (n + 3) 6 [t.w] h = some (.ok t'.w, h') ∧ Ext h h' ∧ In h' t' ∧ t'.er = t.er ∧ New h.length t' := by
  have hl := lev_siz t.er
  obtain ⟨h1, e1, E1, r1⟩ := all_nodes_ok (n := n) (h := h ++ [.dt []]) (i.ext Ext.app) hz
  have hlen : (h ++ [O.dt []]).length = h.length + 1 := by simp
  rw [hlen] at e1 r1
  have hd1 : h1[h.length]? = some (.dt []) := E1 _ _ app_new
  have E0 : Ext h h1 := Ext.app.trans E1
  let xs : List W := ((t.nodes []).map pairW).reverse
  let h2 := h1 ++ [.lst xs]
  have hlt : h.length < h1.length := lt_of hd1
  obtain ⟨h3, kvs, y2, y3, y4, y5, e3, E3, d3, C3⟩ := fre_loop (n + 2) (d := h.length) (l2 := h1.length) (n0 := h.length) (xs := xs) (tw := t.w) t (by omega) (Nat.le_refl _) (t.nodes []).reverse [] h h2 [] none none none none rfl (E0.trans Ext.app)
    (fun q hq => by
      obtain ⟨q1, q2, q3⟩ := nodes_mem t [] i q (List.mem_reverse.mp hq)
      have := len_sizL (q.2.ch.map LT.er)
      rw [List.length_map] at this
      have hsz : q.2.er.siz = Tr.sizL (q.2.ch.map LT.er) + 1 := by rw [er_ch, Tr.siz]
      rw [List.length_nil] at q2
      exact ⟨q1, by omega, by omega⟩) (by rw [List.reverse_reverse, List.append_nil]; exact nodes_kids t [])
    (fun q hq => by
      rw [List.reverse_reverse, List.append_nil] at hq
      obtain ⟨r, h1, h2⟩ := nodes_sub t [] q hq
      rw [h1]; exact h2) (app_lt hd1) app_new (fun _ h => nomatch h) (Nat.le_refl _) (by rw [List.length_reverse, nodes_len]; simp; omega)
  rw [List.reverse_reverse, List.append_nil] at C3
  obtain ⟨t', g1, g2, g3, g4⟩ := C3 ([], t) (by obtain ⟨r, e⟩ := nodes_head t []; rw [e]; exact List.mem_cons_self)
  refine ⟨h3, t', d_ret (ρ' := [some t.w, some (.loc h.length), y2, y3, y4, y5, none]) ?_, E3, g2, g3, g4⟩
  refine b_cons (h1 := h ++ [.dt []]) (x_asg e_dnewT rfl) ?_
  refine b_cons (h1 := h3) (ρ' := [some t.w, some (.loc h.length), y2, y3, y4, y5, none]) ?_ (b_ret (x_ret (e_b2 (e_v rfl) (e_tup es_nil (szw rfl)) (o_dix (p := []) d3 g1))))
  refine x_for (ws := [.loc h1.length]) (h1 := h2) (es_cons (e_f1 (e_call (es_cons (e_v rfl) es_nil) e1) ?_) es_nil) (i_lst app_new) ?_
  · show (lstAt h1 (h.length + 1)).bind _ = _
    unfold lstAt
    rw [r1]; rfl
  · rw [show xs = (t.nodes []).reverse.map pairW by rw [List.map_reverse]] at e3 ⊢
    exact e3
end Lw
set_option maxHeartbeats 4000000
namespace Lw
open PySem L2 Bi
section
variable {Φ : Ora} {ρ ρ' : Bi.Env} {h h1 h2 : Store} {w x y z : W} {a b c : E} {p q ss : List S} {r : Option (Rs W × Store)} {rs : Option (Rs (Fl × Bi.Env) × Store)}
theorem e_and1 (ha : ev Φ a ρ h = some (.ok x, h1)) (ht : truth x h1 = some (.ok true, h1)) (hb : ev Φ b ρ h1 = r) : ev Φ (.and a b) ρ h = r := e_and ha ht (by rw [if_pos rfl]; exact hb)
theorem e_and0 (ha : ev Φ a ρ h = some (.ok x, h1)) (ht : truth x h1 = some (.ok false, h1)) : ev Φ (.and a b) ρ h = some (.ok x, h1) := e_and ha ht (by rw [if_neg (by decide)])
theorem e_or1 (ha : ev Φ a ρ h = some (.ok x, h1)) (ht : truth x h1 = some (.ok true, h1)) : ev Φ (.or a b) ρ h = some (.ok x, h1) := e_or ha ht (by rw [if_pos rfl])
theorem e_or0 (ha : ev Φ a ρ h = some (.ok x, h1)) (ht : truth x h1 = some (.ok false, h1)) (hb : ev Φ b ρ h1 = r) : ev Φ (.or a b) ρ h = r := e_or ha ht (by rw [if_neg (by decide)]; exact hb)
theorem e_ite1 (ha : ev Φ c ρ h = some (.ok x, h1)) (ht : truth x h1 = some (.ok true, h1)) (hb : ev Φ a ρ h1 = r) : ev Φ (.ite c a b) ρ h = r := e_ite ha ht (by rw [if_pos rfl]; exact hb)
theorem e_ite0 (ha : ev Φ c ρ h = some (.ok x, h1)) (ht : truth x h1 = some (.ok false, h1)) (hb : ev Φ b ρ h1 = r) : ev Φ (.ite c a b) ρ h = r := e_ite ha ht (by rw [if_neg (by decide)]; exact hb)
theorem x_ite1 (ha : ev Φ c ρ h = some (.ok x, h1)) (ht : truth x h1 = some (.ok true, h1)) (hb : exs Φ p ρ h1 = rs) : ex Φ (.ite c p q) ρ h = rs := x_ite ha ht (by rw [if_pos rfl]; exact hb)
theorem x_ite0 (ha : ev Φ c ρ h = some (.ok x, h1)) (ht : truth x h1 = some (.ok false, h1)) (hb : exs Φ q ρ h1 = rs) : ex Φ (.ite c p q) ρ h = rs := x_ite ha ht (by rw [if_neg (by decide)]; exact hb)
end
theorem bT {P : Prop} [Decidable P] {h : Store} (q : P) : truth (.bl (decide P)) h = some (.ok true, h) := by rw [decide_eq_true q]; rfl
theorem bF {P : Prop} [Decidable P] {h : Store} (q : ¬ P) : truth (.bl (decide P)) h = some (.ok false, h) := by rw [decide_eq_false q]; rfl
theorem i_tup {xs : List W} {h : Store} : items .sq [.tup xs] h = some (.ok (xs, none), h) := rfl
theorem st0 {h : Store} : stands none h := trivial
theorem kid_at {h : Store} {t : LT} (i : In h t) : h[t.c]? = some (.lst (t.ch.map LT.w)) := by cases t; exact i.at_
theorem kid_in {h : Store} {t c : LT} (i : In h t) {k : Nat} (e : t.ch[k]? = some c) : In h c := by cases t; exact i.kid c (List.mem_of_getElem? e)
theorem w_eq (t : LT) : t.w = .tup [.str t.l, .loc t.c] := by cases t; rfl
theorem o_t1 (t : LT) {h : Store} : op2 .ix t.w (.int 1) h = some (.ok (.loc t.c), h) := by cases t; rfl
theorem o_t0 (t : LT) {h : Store} : op2 .ix t.w (.int 0) h = some (.ok (.str t.l), h) := by cases t; rfl
theorem atI_kid {ch : List LT} {k : Nat} {c : LT} (e : ch[k]? = some c) : atI (ch.map LT.w) (k : Int) = some c.w := atI_nat (by rw [List.getElem?_map, e]; rfl)
theorem atI_pl {p : List Nat} {k i : Nat} (e : p[k]? = some i) : atI (plW p) (k : Int) = some (.int (i : Int)) := atI_nat (by rw [List.getElem?_map, e]; rfl)
theorem cut_to {xs : List W} {k : Nat} (hk : k ≤ xs.length) : cutW xs none (some (k : Int)) = xs.take k := by
  unfold cutW
  rw [HT.sIx_none, HT.sIx_nat, List.drop_zero, Nat.min_eq_left hk, Nat.sub_zero]
theorem cut_from {xs : List W} {k : Nat} (hk : k ≤ xs.length) : cutW xs (some (k : Int)) none = xs.drop k := by
  unfold cutW
  rw [HT.sIx_none, HT.sIx_nat, Nat.min_eq_left hk, List.take_of_length_le]
  rw [List.length_drop]; omega
theorem o_slT {xs : List W} {lo hi : Option Int} {h : Store} : slW (.tup xs) lo hi h = some (.ok (.tup (cutW xs lo hi)), h) := rfl
theorem o_slL {h : Store} {c : Nat} {xs : List W} {lo hi : Option Int} (e : h[c]? = some (.lst xs)) : slW (.loc c) lo hi h = some (.ok (.loc h.length), h ++ [.lst (cutW xs lo hi)]) := by
  show (lstAt h c).bind _ = _
  unfold lstAt; rw [e]; rfl
theorem o_catL {h : Store} {a b : Nat} {xs ys : List W} (ea : h[a]? = some (.lst xs)) (eb : h[b]? = some (.lst ys)) (hz : xs.length + ys.length ≤ sizeLine) : op2 .add (.loc a) (.loc b) h = some (.ok (.loc h.length), h ++ [.lst (xs ++ ys)]) := by
  show (match h[a]?, h[b]? with
    | some (.lst xs), some (.lst ys) => chk (xs.length + ys.length ≤ sizeLine) (alloc (.lst (xs ++ ys))) h
    | _, _ => none) = _
  rw [ea, eb]
  show chk _ _ h = _
  unfold chk; rw [if_pos hz]; rfl
theorem plW_take (p : List Nat) (k : Nat) : (plW p).take k = plW (p.take k) := by unfold plW; rw [List.map_take]
theorem plW_drop (p : List Nat) (k : Nat) : (plW p).drop k = plW (p.drop k) := by unfold plW; rw [List.map_drop]
theorem plW_len (p : List Nat) : (plW p).length = p.length := by unfold plW; rw [List.length_map]

/-! ### find_node -/
noncomputable abbrev finB (n : Nat) : W → Bi.Env → M (Fl × Bi.Env) := forF (Phi n) (.nm 3) [.ite (.b2 .ge (.v 3) (.f1 .len (.b2 .ix (.v 2) (.c (.int 1))))) [.ret (.c .non)] [], .asg (.nm 2) (.b2 .ix (.b2 .ix (.v 2) (.c (.int 1))) (.v 3))]
theorem fin_loop (n : Nat) {a b : W} {h : Store} : ∀ (p : List Nat) (t : LT) (x3 : Option W), In h t →
    (∀ t', LT.sub p t = some t' → ∃ y3, forM none (finB n) (plW p) [some a, some b, some t.w, x3] h = some (.ok (.nx, [some a, some b, some t'.w, y3]), h)) ∧
    (LT.sub p t = none → ∃ ρ, forM none (finB n) (plW p) [some a, some b, some t.w, x3] h = some (.ok (.ret .non, ρ), h)) := by
  intro p
  induction p with
  | nil =>
    intro t x3 i
    refine ⟨fun t' e => ?_, fun e => by cases e⟩
    cases e
    exact ⟨x3, f_nil st0⟩
  | cons k p ih =>
    intro t x3 i
    have e1 : ev (Phi n) (.b2 .ge (.v 3) (.f1 .len (.b2 .ix (.v 2) (.c (.int 1))))) [some a, some b, some t.w, some (.int k)] h = some (.ok (.bl (decide (((t.ch.map LT.w).length : Int) ≤ (k : Int)))), h) :=
      e_b2 (e_v rfl) (e_f1 (e_b2 (e_v rfl) e_c (o_t1 t)) (o_len (kid_at i))) rfl
    cases hk : t.ch[k]? with
    | none =>
      refine ⟨fun t' e => ?_, fun e => ?_⟩
      · have e : (t.ch[k]?).bind (fun c => LT.sub p c) = some t' := e
        rw [hk] at e; cases e
      · have hle : t.ch.length ≤ k := List.getElem?_eq_none_iff.mp hk
        refine ⟨[some a, some b, some t.w, some (.int k)], f_ret st0 (forF_in (ρ' := [some a, some b, some t.w, some (.int k)]) rfl (b_ret (x_ite e1 rfl ?_)))⟩
        rw [if_pos (decide_eq_true (by rw [List.length_map]; omega))]
        exact b_ret (x_ret e_c)
    | some c =>
      have hlt : k < t.ch.length := (List.getElem?_eq_some_iff.mp hk).1
      have step : forF (Phi n) (.nm 3) [.ite (.b2 .ge (.v 3) (.f1 .len (.b2 .ix (.v 2) (.c (.int 1))))) [.ret (.c .non)] [], .asg (.nm 2) (.b2 .ix (.b2 .ix (.v 2) (.c (.int 1))) (.v 3))] (.int k) [some a, some b, some t.w, x3] h = some (.ok (.nx, [some a, some b, some c.w, some (.int k)]), h) := by
        refine forF_in (ρ' := [some a, some b, some t.w, some (.int k)]) rfl (b_cons (ρ' := [some a, some b, some t.w, some (.int k)]) (h1 := h) (x_ite e1 rfl ?_) ?_)
        rotate_left
        · refine b_cons (ρ' := [some a, some b, some c.w, some (.int k)]) (h1 := h) (x_asg (e_b2 (e_b2 (e_v rfl) e_c (o_t1 t)) (e_v rfl) (o_ix (kid_at i) (atI_kid hk))) rfl) ?_
          exact b_nil
        rw [if_neg (by simp; omega)]
        exact b_nil
      obtain ⟨q1, q2⟩ := ih c (some (.int k)) (kid_in i hk)
      have hsub : LT.sub (k :: p) t = LT.sub p c := by
        show (t.ch[k]?).bind _ = _
        rw [hk]; rfl
      rw [hsub]
      refine ⟨fun t' e => ?_, fun e => ?_⟩
      · obtain ⟨y3, e3⟩ := q1 t' e
        exact ⟨y3, f_cons st0 step e3⟩
      · obtain ⟨ρ, e3⟩ := q2 e
        exact ⟨ρ, f_cons st0 step e3⟩
theorem find_ok {n : Nat} {h : Store} {t t' : LT} {p : List Nat} (i : In h t) (e : LT.sub p t = some t') : Phi (n + 1) 4 [t.w, .tup (plW p)] h = some (.ok t'.w, h) := by
  obtain ⟨y3, e3⟩ := (fin_loop n p t none i).1 t' e
  exact d_ret (b_cons (x_asg (e_v rfl) rfl) (b_cons (x_for (es_cons (e_v rfl) es_nil) i_tup e3) (b_ret (x_ret (e_v rfl)))))
theorem find_no {n : Nat} {h : Store} {t : LT} {p : List Nat} (i : In h t) (e : LT.sub p t = none) : Phi (n + 1) 4 [t.w, .tup (plW p)] h = some (.ok .non, h) := by
  obtain ⟨ρ, e3⟩ := (fin_loop n p t none i).2 e
  exact d_ret (b_cons (x_asg (e_v rfl) rfl) (b_ret (x_for (es_cons (e_v rfl) es_nil) i_tup e3)))
theorem sub_in {h : Store} : ∀ {p : List Nat} {t t' : LT}, In h t → LT.sub p t = some t' → In h t'
  | [], t, t', i, e => by cases e; exact i
  | k :: p, t, t', i, e => by
    have e : (t.ch[k]?).bind (fun c => LT.sub p c) = some t' := e
    cases hk : t.ch[k]? with
    | none => rw [hk] at e; cases e
    | some c => rw [hk] at e; exact sub_in (kid_in i hk) e
theorem sub_app : ∀ (p q : List Nat) (t : LT), LT.sub (p ++ q) t = (LT.sub p t).bind fun c => LT.sub q c
  | [], q, t => rfl
  | k :: p, q, t => by
    show (t.ch[k]?).bind (fun c => LT.sub (p ++ q) c) = ((t.ch[k]?).bind fun c => LT.sub p c).bind _
    cases t.ch[k]? with
    | none => rfl
    | some c => exact sub_app p q c

/-! ### is_whole, is_place_form, is_place -/
theorem whole_ok {n : Nat} {h : Store} {i : Int} : Phi (n + 1) 0 [.int i] h = some (.ok (.bl true), h) :=
by
  show runD (Phi n) ir_is_whole 1 [.int i] h = _
  refine d_ret (ρ' := [some (.int i)]) ?_
  exact (b_ret (x_ret (e_and1 (x := .bl true) (e_f1 (x := .int i) (e_v rfl) rfl) rfl (e_not (t := false) (x := .bl false) (e_f1 (x := .int i) (e_v rfl) rfl) rfl))))
theorem form_ok {n : Nat} {h : Store} {p : List Nat} (hz : p.length ≤ 100000) : ∃ h', Phi (n + 2) 1 [.tup (plW p)] h = some (.ok (.bl true), h') ∧ Ext h h' := by
  refine ⟨h ++ [.lst (p.map fun _ => W.bl true)], d_ret (ρ' := [some (.tup (plW p)), none]) (b_ret (x_ret (e_and1 (e_f1 (e_v rfl) rfl) rfl ?_))), Ext.app⟩
  refine e_f1 (e_lc (es_cons (e_v rfl) es_nil) i_tup (c_list (acc := []) (out := p.map fun _ => W.bl true) st0 (by simp) ?_ (szl (by simp; omega)))) ?_
  · intro k w y h1 h2
    rw [List.getElem?_map] at h1 h2
    obtain ⟨i, hi, rfl⟩ := Option.map_eq_some_iff.mp h1
    obtain ⟨_, _, rfl⟩ := Option.map_eq_some_iff.mp h2
    refine lcF_in (ρ' := [some (.tup (plW p)), some (.int i)]) rfl t_nil (e_and1 (e_call (es_cons (e_v rfl) es_nil) whole_ok) rfl ?_)
    refine (e_b2 (e_v rfl) e_c rfl).trans ?_
    rw [decide_eq_true (by omega : (0 : Int) ≤ (i : Int))]
  · show ((lstAt _ _).bind boolsW).map _ = _
    unfold lstAt
    rw [app_new]
    have : boolsW ([] ++ p.map fun _ => W.bl true) = some (p.map fun _ => true) := by
      rw [List.nil_append]
      induction p with
      | nil => rfl
      | cons a p ih =>
        have ih := ih (by rw [List.length_cons] at hz; omega)
        show (boolsW (p.map fun _ => W.bl true)).map _ = _
        rw [ih]; rfl
    show (boolsW ([] ++ p.map fun _ => W.bl true)).map _ = _
    rw [this]
    have : (p.map fun _ => true).all id = true := by rw [List.all_eq_true]; intro x hx; obtain ⟨_, _, rfl⟩ := List.mem_map.mp hx; rfl
    show some (Rs.ok (W.bl ((p.map fun _ => true).all id)), _) = _
    rw [this]; rfl
theorem place_ok {n : Nat} {h : Store} {t t' : LT} {p : List Nat} (i : In h t) (hz : p.length ≤ 100000) (e : LT.sub p t = some t') : ∃ h', Phi (n + 3) 7 [t.w, .tup (plW p)] h = some (.ok (.bl true), h') ∧ Ext h h' := by
  obtain ⟨h', e1, E1⟩ := form_ok (n := n) (h := h) hz
  refine ⟨h', d_ret (ρ' := [some t.w, some (.tup (plW p))]) (b_ret (x_ret (e_and1 (e_call (es_cons (e_v rfl) es_nil) e1) rfl (e_f1 (e_call (es_cons (e_v rfl) (es_cons (e_v rfl) es_nil)) (find_ok (n := n + 1) (i.ext E1) e)) ?_)))), E1⟩
  cases t'; rfl
theorem check_ok {n : Nat} {h : Store} {t t' : LT} {p : List Nat} (i : In h t) (hz : p.length ≤ 100000) (e : LT.sub p t = some t') : ∃ h', Phi (n + 4) 8 [t.w, .tup (plW p)] h = some (.ok .non, h') ∧ Ext h h' := by
  obtain ⟨h', e1, E1⟩ := place_ok (n := n) i hz e
  refine ⟨h', d_nx (ρ' := [some t.w, some (.tup (plW p))]) (b_one (x_ite0 (e_not (e_call (es_cons (e_v rfl) (es_cons (e_v rfl) es_nil)) e1) rfl) rfl b_nil)), E1⟩

/-! ### with_node, _law_put, _law_at -/
def Tr.put : List Nat → Tr → Tr → Tr
  | [], x, _ => x
  | i :: p, x, .nd l ch => match ch[i]? with
    | some c => .nd l (ch.set i (Tr.put p x c))
    | none => .nd l ch
theorem put_cons {i : Nat} {p : List Nat} {x c : Tr} {l : Str} {ch : List Tr} (e : ch[i]? = some c) : Tr.put (i :: p) x (.nd l ch) = .nd l (ch.set i (Tr.put p x c)) := by
  rw [Tr.put, e]
theorem set_parts {α : Type} {xs : List α} {k : Nat} (y : α) (hk : k < xs.length) : xs.take k ++ [y] ++ xs.drop (k + 1) = xs.set k y := by
  rw [List.set_eq_take_append_cons_drop, if_pos hk, List.append_assoc]; rfl
/-- a node with one child exchanged: five new lists -/
theorem part_ok {Φ : Ora} {ρ : Bi.Env} {h : Store} {t : LT} {k : Nat} {y : LT} {eC eK eY : E} {h1 : Store} (hi : In h t) (hk : k < t.ch.length) (hz : t.ch.length ≤ 100000)
    (hC : ∀ g, Ext h g → ev Φ eC ρ g = some (.ok (.loc t.c), g)) (hK : ∀ g, ev Φ eK ρ g = some (.ok (.int (k : Int)), g)) (hY : ev Φ eY ρ (h ++ [.lst ((t.ch.map LT.w).take k)]) = some (.ok y.w, h1)) (E1 : Ext (h ++ [.lst ((t.ch.map LT.w).take k)]) h1) (iY : In h1 y) :
    ∃ h' t', ev Φ (.b2 .add (.b2 .add (.sl false true eC (.c .non) eK) (.lst [eY])) (.sl true false eC (.b2 .add eK (.c (.int 1))) (.c .non))) ρ h = some (.ok (.loc h'.c), t') ∧ Ext h t' ∧ In t' h' ∧ h' = .nd t.l h'.c (t.ch.set k y) ∧ h.length ≤ h'.c := by
  have E0 : Ext h (h ++ [O.lst ((t.ch.map LT.w).take k)]) := Ext.app
  have E01 : Ext h h1 := E0.trans E1
  have a0 : h1[h.length]? = some (.lst ((t.ch.map LT.w).take k)) := E1 _ _ app_new
  let h2 := h1 ++ [.lst [y.w]]
  have E2 : Ext h1 h2 := Ext.app
  have a1 : h2[h1.length]? = some (.lst [y.w]) := app_new
  let h3 := h2 ++ [.lst ((t.ch.map LT.w).take k ++ [y.w])]
  have E3 : Ext h2 h3 := Ext.app
  have a3 : h3[h2.length]? = some (.lst ((t.ch.map LT.w).take k ++ [y.w])) := app_new
  let h4 := h3 ++ [.lst ((t.ch.map LT.w).drop (k + 1))]
  have E4 : Ext h3 h4 := Ext.app
  have a4 : h4[h3.length]? = some (.lst ((t.ch.map LT.w).drop (k + 1))) := app_new
  let h5 := h4 ++ [.lst (((t.ch.map LT.w).take k ++ [y.w]) ++ (t.ch.map LT.w).drop (k + 1))]
  have hkw : k < (t.ch.map LT.w).length := by rw [List.length_map]; exact hk
  have Eall : Ext h h5 := (((E01.trans E2).trans E3).trans E4).trans Ext.app
  have kc : ∀ g, Ext h g → g[t.c]? = some (.lst (t.ch.map LT.w)) := fun g E => kid_at (hi.ext E)
  refine ⟨.nd t.l h4.length (t.ch.set k y), h5, ?_, Eall, .nd ?_ ?_, rfl, Nat.le_trans (((E01.trans E2).trans E3).trans E4).len (Nat.le_refl _)⟩
  · refine e_b2 (h1 := h3) (e_b2 (h1 := h ++ [.lst ((t.ch.map LT.w).take k)]) (e_sl (hC h .refl) p_no (p_yes (hK h)) ?_) (e_lst (es_cons hY es_nil) (szw rfl)) (o_catL (E2 _ _ a0) a1 ?_)) (e_sl (hC h3 ((E01.trans E2).trans E3)) (p_yes (e_b2 (hK h3) e_c rfl)) p_no (o_slL (kc h3 ((E01.trans E2).trans E3)))) ?_
    · rw [o_slL (kc h .refl), cut_to (Nat.le_of_lt hkw)]
    · exact szl (by simp; omega)
    · rw [show ((k : Int) + 1) = ((k + 1 : Nat) : Int) by omega, cut_from (by omega)]
      exact o_catL (E4 _ _ a3) a4 (szl (by simp; omega))
  · show h5[h4.length]? = _
    rw [show (t.ch.set k y).map LT.w = ((t.ch.map LT.w).take k ++ [y.w]) ++ (t.ch.map LT.w).drop (k + 1) by rw [set_parts _ hkw, List.map_set]]
    exact app_new
  · intro c hc
    rcases List.mem_or_eq_of_mem_set hc with hc | rfl
    · cases t with
      | nd l c0 ch => exact (hi.kid c hc).ext Eall
    · exact iY.ext (((E2.trans E3).trans E4).trans Ext.app)
end Lw
set_option maxHeartbeats 4000000
namespace Lw
open PySem L2 Bi
def dn : Nat → List W
  | 0 => []
  | m + 1 => .int (m : Int) :: dn m
theorem dn_len : ∀ m, (dn m).length = m
  | 0 => rfl
  | m + 1 => by rw [dn, List.length_cons, dn_len m]
theorem dn_get : ∀ (m k : Nat), k < m → (dn m)[k]? = some (.int ((m : Int) - 1 - k))
  | 0, _, h => by omega
  | m + 1, 0, _ => by rw [dn, List.getElem?_cons_zero]; congr 2; omega
  | m + 1, k + 1, h => by rw [dn, List.getElem?_cons_succ, dn_get m k (by omega)]; congr 2; omega
theorem dn_eq (m : Nat) : ((List.range ((m : Int) - 1 - (-1)).toNat).map fun (k : Nat) => W.int ((m : Int) - 1 + (k : Int) * (-1))) = dn m := by
  apply List.ext_getElem?
  intro k
  by_cases hk : k < m
  · rw [dn_get m k hk, List.getElem?_map, List.getElem?_range (by omega)]
    show some (W.int _) = _
    congr 2; omega
  · have a : (dn m)[k]? = none := List.getElem?_eq_none_iff.mpr (by rw [dn_len]; omega)
    rw [a]
    exact List.getElem?_eq_none_iff.mpr (by rw [List.length_map, List.length_range]; omega)
theorem i_dn {m : Nat} {h : Store} (hm : m ≤ 1000000) : items .rg3 [.int ((m : Int) - 1), .int (-1), .int (-1)] h = some (.ok (dn m, none), h) := by
  rw [i_rg3 (by omega) (by omega) (by omega) (by omega), dn_eq]
theorem sub_lev : ∀ {p : List Nat} {t s : LT}, LT.sub p t = some s → s.er.siz ≤ t.er.siz ∧ p.length + s.er.lev ≤ t.er.lev
  | [], t, s, e => by cases e; exact ⟨Nat.le_refl _, by simp⟩
  | k :: p, t, s, e => by
    have e : (t.ch[k]?).bind (fun c => LT.sub p c) = some s := e
    cases hk : t.ch[k]? with
    | none => rw [hk] at e; cases e
    | some c =>
      rw [hk] at e
      obtain ⟨q1, q2⟩ := sub_lev (t := c) e
      have hm := List.mem_map_of_mem (f := LT.er) (List.mem_of_getElem? hk)
      have a := lev_mem hm
      have b := siz_mem hm
      have hsiz : t.er.siz = Tr.sizL (t.ch.map LT.er) + 1 := by rw [er_ch, Tr.siz]
      have hlev : t.er.lev = Tr.levL (t.ch.map LT.er) + 1 := by rw [er_ch, Tr.lev]
      rw [List.length_cons]
      exact ⟨by omega, by omega⟩
theorem ch_siz (t : LT) : t.ch.length ≤ t.er.siz := by
  have hsiz : t.er.siz = Tr.sizL (t.ch.map LT.er) + 1 := by rw [er_ch, Tr.siz]
  have := len_sizL (t.ch.map LT.er)
  rw [List.length_map] at this
  omega
/-- the node over a place -/
theorem sub_up {p : List Nat} {t s : LT} {m : Nat} (hm : m < p.length) (e : LT.sub (p.take (m + 1)) t = some s) : ∃ c, LT.sub (p.take m) t = some c ∧ c.ch[p[m]]? = some s := by
  rw [List.take_succ_eq_append_getElem hm, sub_app] at e
  cases q : LT.sub (p.take m) t with
  | none => rw [q] at e; cases e
  | some c =>
    rw [q] at e
    refine ⟨c, rfl, ?_⟩
    have e : (c.ch[p[m]]?).bind (fun c => LT.sub [] c) = some s := e
    cases r : c.ch[p[m]]? with
    | none => rw [r] at e; cases e
    | some d => rw [r] at e; exact e
noncomputable abbrev wthB (n : Nat) : W → Bi.Env → M (Fl × Bi.Env) := forF (Phi n) (.nm 4) [.asg (.tp [(.nm 5), (.nm 6)]) (.call 4 [(.v 0), (.sl false true (.v 1) (.c .non) (.v 4))]), .asg (.nm 7) (.b2 .ix (.v 1) (.v 4)), .asg (.nm 3) (.tup [(.v 5), (.b2 .add (.b2 .add (.sl false true (.v 6) (.c .non) (.v 7)) (.lst [(.v 3)])) (.sl true false (.v 6) (.b2 .add (.v 7) (.c (.int 1))) (.c .non)))])]
theorem wth_loop (n : Nat) {h : Store} {t x : LT} {p : List Nat} (i : In h t) (hz : t.er.siz ≤ 40000) : ∀ (m : Nat) (s Y : LT) (g : Store) (x4 x5 x6 x7 : Option W), m ≤ p.length → LT.sub (p.take m) t = some s → Ext h g → In g Y → Y.er = Tr.put (p.drop m) x.er s.er →
    ∃ g' T y4 y5 y6 y7, forM none (wthB (n + 1)) (dn m) [some t.w, some (.tup (plW p)), some x.w, some Y.w, x4, x5, x6, x7] g = some (.ok (.nx, [some t.w, some (.tup (plW p)), some x.w, some (LT.w T), y4, y5, y6, y7]), g') ∧ Ext h g' ∧ In g' T ∧ T.er = Tr.put p x.er t.er := by
  intro m
  induction m with
  | zero =>
    intro s Y g x4 x5 x6 x7 hm hs hE hI hY
    refine ⟨g, Y, x4, x5, x6, x7, f_nil st0, hE, hI, ?_⟩
    cases hs
    exact hY
  | succ m ih =>
    intro s Y g x4 x5 x6 x7 hm hs hE hI hY
    obtain ⟨c, hc, hk⟩ := sub_up (by omega) hs
    have ic : In g c := (sub_in i hc).ext hE
    have hlt : p[m] < c.ch.length := (List.getElem?_eq_some_iff.mp hk).1
    have hcs := (sub_lev hc).1
    have := ch_siz c
    let ρ : Bi.Env := [some t.w, some (.tup (plW p)), some x.w, some Y.w, some (.int (m : Int)), some (.str c.l), some (.loc c.c), some (.int (p[m] : Int))]
    obtain ⟨T, g', e, E, iT, eT, lT⟩ := part_ok (Φ := Phi (n + 1)) (ρ := ρ) (eC := .v 6) (eK := .v 7) (eY := .v 3) (y := Y) (h := g) (h1 := g ++ [.lst ((c.ch.map LT.w).take p[m])]) ic hlt (by omega) (fun g' _ => e_v rfl) (fun g' => e_v rfl) (e_v rfl) Ext.refl (hI.ext Ext.app)
    have eT' : T.er = Tr.put (p.drop m) x.er c.er := by
      rw [eT, er_nd, er_ch c, List.drop_eq_getElem_cons (by omega)]
      rw [put_cons (c := s.er) (by rw [List.getElem?_map, hk]; rfl), ← hY, List.map_set]
    obtain ⟨g2, T2, y4, y5, y6, y7, e2, E2, i2, er2⟩ := ih c T g' (some (.int (m : Int))) (some (.str c.l)) (some (.loc c.c)) (some (.int (p[m] : Int))) (by omega) hc (hE.trans E) iT eT'
    refine ⟨g2, T2, y4, y5, y6, y7, ?_, E2, i2, er2⟩
    rw [dn]
    refine f_cons st0 (forF_in (ρ' := [some t.w, some (.tup (plW p)), some x.w, some Y.w, some (.int (m : Int)), x5, x6, x7]) rfl ?_) e2
    refine b_cons (ρ' := [some t.w, some (.tup (plW p)), some x.w, some Y.w, some (.int (m : Int)), some (.str c.l), some (.loc c.c), x7]) (h1 := g) (x_asg (w := c.w) (e_call (ws := [t.w, .tup (plW (p.take m))]) (h1 := g) (es_cons (e_v rfl) (es_cons (e_sl (e_v rfl) p_no (p_yes (e_v rfl)) ?_) es_nil)) (find_ok (i.ext hE) hc)) ?_) ?_
    · rw [o_slT, cut_to (by rw [plW_len]; omega), plW_take]
    · rw [w_eq]; rfl
    refine b_cons (ρ' := ρ) (h1 := g) (x_asg (e_b2 (x := .tup (plW p)) (y := .int (m : Int)) (z := .int (p[m] : Int)) (e_v rfl) (e_v rfl) ?_) rfl) ?_
    · show ofO (atI (plW p) (m : Int)) g = _
      rw [atI_pl (List.getElem?_eq_getElem (by omega))]; rfl
    refine b_cons (h1 := g') (x_asg (w := T.w) (e_tup (ws := [.str c.l, .loc T.c]) (es_cons (e_v rfl) (es_cons e es_nil)) (szw rfl) |>.trans ?_) rfl) b_nil
    rw [w_eq T, show T.l = c.l by rw [eT]; rfl]
theorem with_ok {n : Nat} {h : Store} {t x s : LT} {p : List Nat} (i : In h t) (ix : In h x) (hz : t.er.siz ≤ 40000) (hs : LT.sub p t = some s) : ∃ g' T, Phi (n + 2) 5 [t.w, .tup (plW p), x.w] h = some (.ok (LT.w T), g') ∧ Ext h g' ∧ In g' T ∧ T.er = Tr.put p x.er t.er := by
  obtain ⟨g', T, y4, y5, y6, y7, e, E, iT, er⟩ := wth_loop n (x := x) (p := p) i hz p.length s x h none none none none (Nat.le_refl _) (by rw [List.take_length]; exact hs) Ext.refl ix (by rw [List.drop_length]; rfl)
  refine ⟨g', T, ?_, E, iT, er⟩
  have hl := (sub_lev hs).2
  have hl2 := lev_siz t.er
  show runD (Phi (n + 1)) ir_with_node 8 [t.w, .tup (plW p), x.w] h = _
  refine d_ret (ρ' := [some t.w, some (.tup (plW p)), some x.w, some (LT.w T), y4, y5, y6, y7]) ?_
  refine b_cons (ρ' := [some t.w, some (.tup (plW p)), some x.w, some x.w, none, none, none, none]) (h1 := h) (x_asg (e_v rfl) rfl) ?_
  refine b_cons (ρ' := [some t.w, some (.tup (plW p)), some x.w, some (LT.w T), y4, y5, y6, y7]) (h1 := g') (x_for (ws := [.int ((p.length : Int) - 1), .int (-1), .int (-1)]) (h1 := h) ?_ (i_dn (by omega)) e) (b_ret (x_ret (e_v rfl)))
  refine es_cons (e_b2 (x := .int (p.length : Int)) (h1 := h) (e_f1 (x := .tup (plW p)) (h1 := h) (e_v rfl) ?_) e_c rfl) (es_cons (e_f1 e_c rfl) (es_cons (e_f1 e_c rfl) es_nil))
  show some (Rs.ok (W.int ((plW p).length : Int)), h) = _
  rw [plW_len]
theorem put_siz : ∀ (p : List Nat) (x t : Tr), (Tr.put p x t).siz ≤ t.siz + x.siz ∧ (Tr.put p x t).lev ≤ max t.lev (p.length + x.lev) := by
  intro p
  induction p with
  | nil => intro x t; rw [Tr.put]; exact ⟨by omega, by simp only [List.length_nil]; omega⟩
  | cons k p ih =>
    intro x t
    cases t with
    | nd l ch =>
      cases hk : ch[k]? with
      | none =>
        have : Tr.put (k :: p) x (.nd l ch) = .nd l ch := by rw [Tr.put, hk]
        rw [this]; exact ⟨by omega, by omega⟩
      | some c =>
        rw [put_cons hk, Tr.siz, Tr.siz, Tr.lev, Tr.lev]
        obtain ⟨q1, q2⟩ := ih x c
        have key : ∀ (ch : List Tr) (k : Nat) (y : Tr), ch[k]? = some c → y.siz ≤ c.siz + x.siz → y.lev ≤ max c.lev (p.length + x.lev) → Tr.sizL (ch.set k y) ≤ Tr.sizL ch + x.siz ∧ Tr.levL (ch.set k y) ≤ max (Tr.levL ch) (p.length + x.lev) := by
          intro ch
          induction ch with
          | nil => intro k y h; simp at h
          | cons a ch ih2 =>
            intro k y hk h1 h2
            cases k with
            | zero =>
              cases hk
              rw [List.set_cons_zero, Tr.sizL, Tr.sizL, Tr.levL, Tr.levL]
              exact ⟨by omega, by omega⟩
            | succ k =>
              obtain ⟨r1, r2⟩ := ih2 k y (by simpa using hk) h1 h2
              rw [List.set_cons_succ, Tr.sizL, Tr.sizL, Tr.levL, Tr.levL]
              exact ⟨by omega, by omega⟩
        obtain ⟨r1, r2⟩ := key ch k _ hk q1 q2
        rw [List.length_cons]
        exact ⟨by omega, by omega⟩
theorem replaced_ok {n : Nat} {h : Store} {t x s : LT} {p : List Nat} (i : In h t) (ix : In h x) (hz : t.er.siz ≤ 20000) (hz2 : x.er.siz ≤ 20000) (hs : LT.sub p t = some s) : ∃ g' T, Phi (n + 5) 9 [t.w, .tup (plW p), x.w] h = some (.ok (LT.w T), g') ∧ Ext h g' ∧ In g' T ∧ T.er = Tr.put p x.er t.er := by
  have hl := (sub_lev hs).2
  have hl2 := lev_siz t.er
  obtain ⟨h1, e1, E1⟩ := check_ok (n := n) i (by omega) hs
  obtain ⟨h2, T, e2, E2, i2, er2⟩ := with_ok (n := n + 2) (i.ext E1) (ix.ext E1) (by omega) hs
  have hps := (put_siz p x.er t.er).1
  obtain ⟨h3, T', e3, E3, i3, er3, _⟩ := fresh_ok (n := n + 1) i2 (by rw [er2]; omega)
  refine ⟨h3, T', ?_, (E1.trans E2).trans E3, i3, er3.trans er2⟩
  show runD (Phi (n + 4)) ir_replaced 3 [t.w, .tup (plW p), x.w] h = _
  refine d_ret (ρ' := [some t.w, some (.tup (plW p)), some x.w]) ?_
  refine b_cons (ρ' := [some t.w, some (.tup (plW p)), some x.w]) (h1 := h1) (x_ex (w := .non) (e_call (es_cons (e_v rfl) (es_cons (e_v rfl) es_nil)) e1)) ?_
  exact b_ret (x_ret (e_call (es_cons (e_call (es_cons (e_v rfl) (es_cons (e_v rfl) (es_cons (e_v rfl) es_nil))) e2) es_nil) e3))
end Lw
set_option maxHeartbeats 4000000
namespace Lw
open PySem L2 Bi
theorem o_eqd {h : Store} {a b : W} {d e : PyData} (ha : shD h a = some d) (hb : shD h b = some e) : op2 .eq a b h = some (.ok (.bl (PyData.eqv d e)), h) := by
  show (match shD h a, shD h b with
    | some d, some e => some (Rs.ok (W.bl (PyData.eqv d e)), h)
    | _, _ => none) = _
  rw [ha, hb]
theorem o_ned {h : Store} {a b : W} {d e : PyData} (ha : shD h a = some d) (hb : shD h b = some e) : op2 .ne a b h = some (.ok (.bl (!PyData.eqv d e)), h) := by
  show (match shD h a, shD h b with
    | some d, some e => some (Rs.ok (W.bl (!PyData.eqv d e)), h)
    | _, _ => none) = _
  rw [ha, hb]
theorem o_eqp {h : Store} {p q : List Nat} : op2 .eq (.tup (plW p)) (.tup (plW q)) h = some (.ok (.bl (decide (p = q))), h) := by
  rw [o_eqd (shD_pl p) (shD_pl q), show PyData.eqv (.tuple (plD p)) (.tuple (plD q)) = decide (p = q) from bool_iff (by rw [eqv_pl, decide_eq_true_iff])]
theorem o_nep {h : Store} {p q : List Nat} : op2 .ne (.tup (plW p)) (.tup (plW q)) h = some (.ok (.bl (decide (p ≠ q))), h) := by
  rw [o_ned (shD_pl p) (shD_pl q), show (!PyData.eqv (.tuple (plD p)) (.tuple (plD q))) = decide (p ≠ q) from by
    rw [show PyData.eqv (.tuple (plD p)) (.tuple (plD q)) = decide (p = q) from bool_iff (by rw [eqv_pl, decide_eq_true_iff])]
    by_cases e : p = q <;> simp [e]]
/-- trees that `==` can walk -/
def Fine (t : Tr) : Prop := t.good = true ∧ t.lev ≤ 32
open Classical in
theorem o_eqt {h : Store} {s t : LT} (is : In h s) (it : In h t) (fs : Fine s.er) (ft : Fine t.er) : op2 .eq s.w t.w h = some (.ok (.bl (decide (s.er = t.er))), h) := by
  rw [o_eqd (shD_in is fs.1 fs.2) (shD_in it ft.1 ft.2), show PyData.eqv s.er.dat t.er.dat = decide (s.er = t.er) from bool_iff (by rw [eqv_dat, decide_eq_true_iff])]
open Classical in
theorem o_net {h : Store} {s t : LT} (is : In h s) (it : In h t) (fs : Fine s.er) (ft : Fine t.er) : op2 .ne s.w t.w h = some (.ok (.bl (decide (s.er ≠ t.er))), h) := by
  rw [o_ned (shD_in is fs.1 fs.2) (shD_in it ft.1 ft.2), show (!PyData.eqv s.er.dat t.er.dat) = decide (s.er ≠ t.er) from by
    rw [show PyData.eqv s.er.dat t.er.dat = decide (s.er = t.er) from bool_iff (by rw [eqv_dat, decide_eq_true_iff])]
    by_cases e : s.er = t.er <;> simp [e]]

/-! ### _law_at -/
noncomputable abbrev atB (n : Nat) : W → Bi.Env → M (Fl × Bi.Env) := forF (Phi n) (.nm 2) [.asg (.nm 0) (.b2 .ix (.b2 .ix (.v 0) (.c (.int 1))) (.v 2))]
theorem at_loop (n : Nat) {b : W} {h : Store} : ∀ (p : List Nat) (t s : LT) (x2 : Option W), In h t → LT.sub p t = some s → ∃ y2, forM none (atB n) (plW p) [some t.w, some b, x2] h = some (.ok (.nx, [some s.w, some b, y2]), h) := by
  intro p
  induction p with
  | nil => intro t s x2 i e; cases e; exact ⟨x2, f_nil st0⟩
  | cons k p ih =>
    intro t s x2 i e
    have e : (t.ch[k]?).bind (fun c => LT.sub p c) = some s := e
    cases hk : t.ch[k]? with
    | none => rw [hk] at e; cases e
    | some c =>
      rw [hk] at e
      obtain ⟨y2, e2⟩ := ih c s (some (.int k)) (kid_in i hk) e
      refine ⟨y2, f_cons (ρ' := [some c.w, some b, some (.int k)]) (h1 := h) st0 (forF_in (ρ' := [some t.w, some b, some (.int k)]) rfl ?_) e2⟩
      refine b_cons (ρ' := [some c.w, some b, some (.int k)]) (h1 := h) (x_asg (e_b2 (e_b2 (e_v rfl) e_c (o_t1 t)) (e_v rfl) (o_ix (kid_at i) (atI_kid hk))) rfl) b_nil
theorem lat_ok {n : Nat} {h : Store} {t s : LT} {p : List Nat} (i : In h t) (e : LT.sub p t = some s) : Phi (n + 1) 17 [t.w, .tup (plW p)] h = some (.ok s.w, h) := by
  obtain ⟨y2, e2⟩ := at_loop n (b := .tup (plW p)) p t s none i e
  show runD (Phi n) ir__law_at 3 [t.w, .tup (plW p)] h = _
  refine d_ret (ρ' := [some s.w, some (.tup (plW p)), y2]) ?_
  refine b_cons (ρ' := [some s.w, some (.tup (plW p)), y2]) (h1 := h) (x_for (es_cons (e_v rfl) es_nil) i_tup e2) (b_ret (x_ret (e_v rfl)))

/-! ### _law_put -/
inductive LA (P : Nat → Prop) : LT → Prop where
  | nd {l : Str} {c : Nat} {ch : List LT} : P c → (∀ t ∈ ch, LA P t) → LA P (.nd l c ch)
theorem LA.kid {P : Nat → Prop} {t c : LT} {k : Nat} (a : LA P t) (e : t.ch[k]? = some c) : LA P c := by
  cases a with
  | nd _ h => exact h c (List.mem_of_getElem? e)
theorem LA.here {P : Nat → Prop} {t : LT} (a : LA P t) : P t.c := by
  cases a with
  | nd h _ => exact h
theorem LA.kids {P : Nat → Prop} {t : LT} (a : LA P t) : ∀ c ∈ t.ch, LA P c := by
  cases a with
  | nd _ h => exact h
theorem LA.mono {P Q : Nat → Prop} (h : ∀ i, P i → Q i) : ∀ {t : LT}, LA P t → LA Q t := by
  intro t
  refine LT.ind (P := fun t => LA P t → LA Q t) (fun l c ch ih a => ?_) t
  cases a with
  | nd h1 h2 => exact .nd (h c h1) fun t ht => ih t ht (h2 t ht)
theorem In.la {h : Store} : ∀ {t : LT}, In h t → LA (fun i => i < h.length) t := by
  intro t
  refine LT.ind (P := fun t => In h t → LA (fun i => i < h.length) t) (fun l c ch ih a => ?_) t
  exact .nd (lt_of a.at_) fun t ht => ih t ht (a.kid t ht)
theorem In.setNe {h : Store} {d : Nat} {o : O} : ∀ {t : LT}, In h t → LA (fun i => i ≠ d) t → In (h.set d o) t := by
  intro t
  refine LT.ind (P := fun t => In h t → LA (fun i => i ≠ d) t → In (h.set d o) t) (fun l c ch ih i a => ?_) t
  cases a with
  | nd h1 h2 => exact .nd (by rw [set_ne' (fun z => h1 z.symm)]; exact i.at_) fun t ht => ih t ht (i.kid t ht) (h2 t ht)
theorem put_la {x : LT} : ∀ (p : List Nat) (n : Nat) (h : Store) (t s : LT), In h t → In h x → t.er.siz ≤ 40000 → LT.sub p t = some s → ∃ g' T, Phi (n + p.length + 1) 18 [t.w, .tup (plW p), x.w] h = some (.ok (LT.w T), g') ∧ Ext h g' ∧ In g' T ∧ T.er = Tr.put p x.er t.er ∧ ∀ P : Nat → Prop, (∀ i, h.length ≤ i → P i) → LA P t → LA P x → LA P T := by
  intro p
  induction p with
  | nil =>
    intro n h t s i ix hz e
    refine ⟨h, x, ?_, Ext.refl, ix, rfl, fun P _ _ h => h⟩
    show runD (Phi n) ir__law_put 4 [t.w, .tup (plW []), x.w] h = _
    refine d_ret (ρ' := [some t.w, some (.tup (plW [])), some x.w, none]) ?_
    exact b_ret (x_ite1 (e_b2 (x := .tup (plW [])) (y := .tup (plW [])) (h2 := h) (e_v rfl) (e_tup es_nil (szw rfl)) o_eqp) (bT rfl) (b_ret (x_ret (e_v rfl))))
  | cons k p ih =>
    intro n h t s i ix hz e
    have e : (t.ch[k]?).bind (fun c => LT.sub p c) = some s := e
    cases hk : t.ch[k]? with
    | none => rw [hk] at e; cases e
    | some c =>
      rw [hk] at e
      have hlt : k < t.ch.length := (List.getElem?_eq_some_iff.mp hk).1
      have hcs := siz_mem (List.mem_map_of_mem (f := LT.er) (List.mem_of_getElem? hk))
      have hsiz : t.er.siz = Tr.sizL (t.ch.map LT.er) + 1 := by rw [er_ch, Tr.siz]
      have := ch_siz t
      let h0 := h ++ [O.lst ((t.ch.map LT.w).take k)]
      obtain ⟨g1, Y, e1, E1, iY, er1, la1⟩ := ih n h0 c s ((kid_in i hk).ext Ext.app) (ix.ext Ext.app) (by omega) e
      let ρ : Bi.Env := [some t.w, some (.tup (plW (k :: p))), some x.w, some (.int (k : Int))]
      have E1' : Ext h h0 := Ext.app
      obtain ⟨T, g', e2, E2, iT, eT, lT⟩ := part_ok (Φ := Phi (n + p.length + 1)) (ρ := ρ) (eC := .b2 .ix (.v 0) (.c (.int 1))) (eK := .v 3) (eY := .call 18 [(.b2 .ix (.b2 .ix (.v 0) (.c (.int 1))) (.v 3)), (.sl true false (.v 1) (.c (.int 1)) (.c .non)), (.v 2)]) (y := Y) (h := h) (h1 := g1) (k := k) i hlt (by omega)
        (fun g _ => e_b2 (e_v rfl) e_c (o_t1 t)) (fun g => e_v rfl)
        (e_call (ws := [c.w, .tup (plW p), x.w]) (h1 := h0) (es_cons (e_b2 (h2 := h0) (e_b2 (h2 := h0) (e_v rfl) e_c (o_t1 t)) (e_v rfl) (o_ix (kid_at (i.ext E1')) (atI_kid hk))) (es_cons (h1 := h0) (e_sl (e_v rfl) (p_yes e_c) p_no (by rw [o_slT, show (1 : Int) = ((1 : Nat) : Int) from rfl, cut_from (by rw [plW_len, List.length_cons]; omega)]; rfl)) (es_cons (e_v rfl) es_nil))) e1) E1 iY
      refine ⟨g', T, ?_, E2, iT, ?_, fun P hP at_ ax => ?_⟩
      · show runD (Phi (n + p.length + 1)) ir__law_put 4 [t.w, .tup (plW (k :: p)), x.w] h = _
        refine d_ret (ρ' := ρ) ?_
        refine b_cons (ρ' := [some t.w, some (.tup (plW (k :: p))), some x.w, none]) (h1 := h) (x_ite0 (e_b2 (x := .tup (plW (k :: p))) (y := .tup (plW [])) (h2 := h) (e_v rfl) (e_tup es_nil (szw rfl)) o_eqp) (bF (by simp)) b_nil) ?_
        refine b_cons (ρ' := ρ) (h1 := h) (x_asg (e_b2 (x := .tup (plW (k :: p))) (y := .int 0) (z := .int (k : Int)) (h2 := h) (e_v rfl) e_c ?_) rfl) ?_
        · show ofO (atI (plW (k :: p)) ((0 : Nat) : Int)) h = _
          rw [atI_pl rfl]; rfl
        refine b_ret (x_ret ((e_tup (es_cons (e_b2 (e_v rfl) e_c (o_t0 t)) (es_cons e2 es_nil)) (szw rfl)).trans ?_))
        rw [w_eq T, show T.l = t.l by rw [eT]; rfl]
      · rw [eT, er_nd, er_ch t, put_cons (c := c.er) (by rw [List.getElem?_map, hk]; rfl), List.map_set, er1]
      · have aY := la1 P (fun i hi => hP i (by have : h0.length = h.length + 1 := by simp [h0]
                                               omega)) (at_.kid hk) ax
        rw [eT]
        refine .nd (hP _ lT) fun y hy => ?_
        rcases List.mem_or_eq_of_mem_set hy with hy | rfl
        · exact at_.kids y hy
        · exact aY
theorem put_ok {x : LT} (p : List Nat) (n : Nat) (h : Store) (t s : LT) (a : In h t) (b : In h x) (c : t.er.siz ≤ 40000) (d : LT.sub p t = some s) : ∃ g' T, Phi (n + p.length + 1) 18 [t.w, .tup (plW p), x.w] h = some (.ok (LT.w T), g') ∧ Ext h g' ∧ In g' T ∧ T.er = Tr.put p x.er t.er := by
  obtain ⟨g', T, e, E, i, er, _⟩ := put_la p n h t s a b c d
  exact ⟨g', T, e, E, i, er⟩

/-! ### _law_copy -/
theorem copy_loop {m c : Nat} {ch : List LT} {tw : W} {h : Store} (hc : h[c]? = some (.lst (ch.map LT.w))) (hz : ch.length ≤ 100000) (H : ∀ x ∈ ch, ∀ g, Ext h g → ∃ g' T, Phi m 15 [x.w] g = some (.ok (LT.w T), g') ∧ Ext g g' ∧ In g' T ∧ T.er = x.er ∧ New g.length T) : ∀ (todo done acc : List LT) (g : Store), ch = done ++ todo → Ext h g → acc.length = done.length → (∀ a ∈ acc, In g a ∧ New h.length a) → acc.map LT.er = done.map LT.er →
    ∃ (g' : Store) (out : List LT), compM (some (c, ch.map LT.w)) (lcF (Phi m) [1] (.nm 1) [] (.call 15 [(.v 1)]) [some tw, none]) (todo.map LT.w) (acc.map LT.w) g = some (.ok (out.map LT.w), g') ∧ Ext h g' ∧ (∀ a ∈ out, In g' a ∧ New h.length a) ∧ out.map LT.er = ch.map LT.er := by
  intro todo
  induction todo with
  | nil =>
    intro done acc g e E hl ha he
    rw [List.append_nil] at e
    subst e
    exact ⟨g, acc, c_nil (E _ _ hc) (szl (by rw [List.length_map]; omega)), E, ha, he⟩
  | cons x todo ih =>
    intro done acc g e E hl ha he
    obtain ⟨g1, T, e1, E1, i1, er1, n1⟩ := H x (by rw [e]; exact List.mem_append_right _ List.mem_cons_self) g E
    obtain ⟨g', out, e2, E2, r1, r2⟩ := ih (done ++ [x]) (acc ++ [T]) g1 (by rw [e]; simp) (E.trans E1) (by simp [hl])
      (fun a h => by
        rcases List.mem_append.mp h with h | h
        · exact ⟨(ha a h).1.ext E1, (ha a h).2⟩
        · rw [List.mem_singleton.mp h]; exact ⟨i1, n1.mono E.len⟩) (by rw [List.map_append, List.map_append, he]; simp [er1])
    refine ⟨g', out, ?_, E2, r1, r2⟩
    rw [List.map_cons]
    rw [List.map_append] at e2
    exact c_cons (E _ _ hc) (lcF_in (ρ' := [some tw, some x.w]) rfl t_nil (e_call (es_cons (e_v rfl) es_nil) e1)) e2
theorem copy_ok : ∀ (t : LT) (n : Nat) (h : Store), In h t → t.er.siz ≤ 40000 → ∃ g' T, Phi (n + t.er.lev) 15 [t.w] h = some (.ok (LT.w T), g') ∧ Ext h g' ∧ In g' T ∧ T.er = t.er ∧ New h.length T := by
  refine LT.ind fun l c ch ih n h i hz => ?_
  rw [er_nd, Tr.siz] at hz
  have hcl := len_sizL (ch.map LT.er)
  rw [List.length_map] at hcl
  obtain ⟨g', out, e, E, r1, r2⟩ := copy_loop (m := n + Tr.levL (ch.map LT.er)) (tw := LT.w (.nd l c ch)) i.at_ (by omega)
    (fun x hx g E => by
      have h1 := lev_mem (List.mem_map_of_mem (f := LT.er) hx)
      have h2 := siz_mem (List.mem_map_of_mem (f := LT.er) hx)
      have q := ih x hx (n + Tr.levL (ch.map LT.er) - x.er.lev) g ((i.kid x hx).ext E) (by omega)
      rw [Nat.sub_add_cancel (by omega)] at q
      exact q) ch [] [] h rfl Ext.refl rfl (fun _ h => nomatch h) rfl
  refine ⟨g' ++ [.lst (out.map LT.w)], .nd l g'.length out, ?_, E.trans Ext.app, .nd app_new fun t ht => (r1 t ht).1.ext Ext.app, by rw [er_nd, er_nd, r2], .nd E.len fun t ht => (r1 t ht).2⟩
  rw [er_nd, Tr.lev]
  show runD (Phi (n + Tr.levL (ch.map LT.er))) ir__law_copy 2 [LT.w (.nd l c ch)] h = _
  refine d_ret (ρ' := [some (LT.w (.nd l c ch)), none]) ?_
  refine b_ret (x_ret (e_tup (ws := [.str l, .loc g'.length]) (es_cons (e_b2 (e_v rfl) e_c (o_t0 _)) (es_cons ?_ es_nil)) (szw rfl)))
  exact e_lc (es_cons (e_b2 (e_v rfl) e_c (o_t1 _)) es_nil) (i_lst i.at_) e

/-! ### _law_nodes -/
def up : Nat → Nat → List W
  | _, 0 => []
  | j, m + 1 => .int (j : Int) :: up (j + 1) m
theorem up_len : ∀ j m, (up j m).length = m
  | _, 0 => rfl
  | j, m + 1 => by rw [up, List.length_cons, up_len (j + 1) m]
theorem up_get : ∀ (j m k : Nat), k < m → (up j m)[k]? = some (.int (((j + k : Nat)) : Int))
  | j, 0, _, h => by omega
  | j, m + 1, 0, _ => by rw [up, List.getElem?_cons_zero]; rfl
  | j, m + 1, k + 1, h => by rw [up, List.getElem?_cons_succ, up_get (j + 1) m k (by omega)]; congr 3; omega
theorem up_eq2 (j m : Nat) : ((List.range ((m : Int) - (j : Int)).toNat).map fun (k : Nat) => W.int ((j : Int) + (k : Int))) = up j (m - j) := by
  apply List.ext_getElem?
  intro k
  by_cases hk : k < m - j
  · rw [up_get j (m - j) k hk, List.getElem?_map, List.getElem?_range (by omega)]
    show some (W.int _) = _
    congr 2
  · have a : (up j (m - j))[k]? = none := List.getElem?_eq_none_iff.mpr (by rw [up_len]; omega)
    rw [a]
    exact List.getElem?_eq_none_iff.mpr (by rw [List.length_map, List.length_range]; omega)
theorem up_eq1 (m : Nat) : ((List.range m).map fun (k : Nat) => W.int (0 + (k : Int))) = up 0 m := by
  have := up_eq2 0 m
  rw [show ((m : Int) - ((0 : Nat) : Int)).toNat = m by omega] at this
  exact this
theorem i_up {m : Nat} {h : Store} (hm : m ≤ 1000000) : items .rg1 [.int (m : Int)] h = some (.ok (up 0 m, none), h) := by
  rw [i_rg1 (by omega), up_eq1]
theorem nodesL_len (p : List Nat) : ∀ (i : Nat) (ts : List LT), (nodesL p i ts).length = Tr.sizL (ts.map LT.er)
  | i, [] => by rw [nodesL]; rfl
  | i, t :: ts => by rw [nodesL, List.length_append, List.map_cons, Tr.sizL, nodes_len, nodesL_len p (i + 1) ts]
noncomputable abbrev nodB (m : Nat) : W → Bi.Env → M (Fl × Bi.Env) := forF (Phi m) (.nm 3) [.asg (.nm 2) (.b2 .add (.v 2) (.call 16 [(.b2 .ix (.b2 .ix (.v 0) (.c (.int 1))) (.v 3)), (.b2 .add (.v 1) (.tup [(.v 3)]))]))]
theorem nod_loop {m : Nat} {t : LT} {p : List Nat} {h : Store} (i : In h t) (hp : p.length ≤ 50000) (H : ∀ x ∈ t.ch, ∀ (q : List Nat) (g : Store), q.length = p.length + 1 → Ext h g → ∃ g' r, Phi m 16 [x.w, .tup (plW q)] g = some (.ok (.loc r), g') ∧ Ext g g' ∧ g'[r]? = some (.lst ((x.nodes q).map pairW))) : ∀ (todo : List LT) (j : Nat) (acc : List (List Nat × LT)) (g : Store) (r : Nat) (x3 : Option W), (∀ k x, todo[k]? = some x → t.ch[j + k]? = some x) → Ext h g → g[r]? = some (.lst (acc.map pairW)) → acc.length + Tr.sizL (todo.map LT.er) ≤ 60000 →
    ∃ g' r' y3, forM none (nodB m) (up j todo.length) [some t.w, some (.tup (plW p)), some (.loc r), x3] g = some (.ok (.nx, [some t.w, some (.tup (plW p)), some (.loc r'), y3]), g') ∧ Ext h g' ∧ g'[r']? = some (.lst ((acc ++ nodesL p j todo).map pairW)) := by
  intro todo
  induction todo with
  | nil =>
    intro j acc g r x3 hs E hr hz
    exact ⟨g, r, x3, f_nil st0, E, by rw [nodesL, List.append_nil]; exact hr⟩
  | cons x todo ih =>
    intro j acc g r x3 hs E hr hz
    have hx := hs 0 x rfl
    rw [List.map_cons, Tr.sizL] at hz
    obtain ⟨g1, r1, e1, E1, q1⟩ := H x (List.mem_of_getElem? hx) (p ++ [j]) g (by simp) E
    let g2 := g1 ++ [.lst ((acc ++ x.nodes (p ++ [j])).map pairW)]
    obtain ⟨g', r', y3, e2, E2, q2⟩ := ih (j + 1) (acc ++ x.nodes (p ++ [j])) g2 g1.length (some (.int (j : Int))) (fun k y e => by
      have := hs (k + 1) y (by simpa using e)
      rwa [show j + 1 + k = j + (k + 1) by omega]) ((E.trans E1).trans Ext.app) app_new (by rw [List.length_append, nodes_len]; omega)
    refine ⟨g', r', y3, ?_, E2, by rw [nodesL, ← List.append_assoc]; exact q2⟩
    rw [List.length_cons, up]
    refine f_cons (ρ' := [some t.w, some (.tup (plW p)), some (.loc g1.length), some (.int (j : Int))]) (h1 := g2) st0 (forF_in (ρ' := [some t.w, some (.tup (plW p)), some (.loc r), some (.int (j : Int))]) rfl ?_) e2
    refine b_cons (ρ' := [some t.w, some (.tup (plW p)), some (.loc g1.length), some (.int (j : Int))]) (h1 := g2) (x_asg (w := .loc g1.length) (e_b2 (x := .loc r) (y := .loc r1) (h1 := g) (h2 := g1) (e_v rfl) (e_call (ws := [x.w, .tup (plW (p ++ [j]))]) (h1 := g) (es_cons (h1 := g) (e_b2 (e_b2 (e_v rfl) e_c (o_t1 t)) (e_v rfl) (o_ix (kid_at (i.ext E)) (atI_kid hx))) (es_cons (h1 := g) (e_b2 (x := .tup (plW p)) (y := .tup (plW [j])) (h2 := g) (e_v rfl) (e_tup (es_cons (e_v rfl) es_nil) (szw rfl)) ?_) es_nil)) e1) ?_) rfl) b_nil
    · rw [o_cat (szl (by rw [plW_len]; simp; omega))]
      unfold plW; rw [List.map_append]
    · rw [o_catL (E1 _ _ hr) q1 (szl (by rw [List.length_map, List.length_map, nodes_len]; omega)), ← List.map_append]
theorem lnodes_ok : ∀ (t : LT) (p : List Nat) (n : Nat) (h : Store), In h t → t.er.siz ≤ 40000 → p.length + t.er.lev ≤ 50000 → ∃ g' r, Phi (n + t.er.lev) 16 [t.w, .tup (plW p)] h = some (.ok (.loc r), g') ∧ Ext h g' ∧ g'[r]? = some (.lst ((t.nodes p).map pairW)) := by
  refine LT.ind fun l c ch ih p n h i hz hp => ?_
  rw [er_nd, Tr.siz] at hz
  rw [er_nd, Tr.lev] at hp
  have hcl := len_sizL (ch.map LT.er)
  rw [List.length_map] at hcl
  let h1 := h ++ [O.lst [pairW (p, .nd l c ch)]]
  have E1 : Ext h h1 := Ext.app
  have H : ∀ x ∈ ch, ∀ (q : List Nat) (g : Store), q.length = p.length + 1 → Ext h1 g → ∃ g' r, Phi (n + Tr.levL (ch.map LT.er)) 16 [x.w, .tup (plW q)] g = some (.ok (.loc r), g') ∧ Ext g g' ∧ g'[r]? = some (.lst ((x.nodes q).map pairW)) := fun x hx q g hq E => by
      have h1 := lev_mem (List.mem_map_of_mem (f := LT.er) hx)
      have h2 := siz_mem (List.mem_map_of_mem (f := LT.er) hx)
      have r := ih x hx q (n + Tr.levL (ch.map LT.er) - x.er.lev) g ((i.kid x hx).ext (E1.trans E)) (by omega) (by omega)
      rw [Nat.sub_add_cancel (by omega)] at r
      exact r
  obtain ⟨g', r', y3, e2, E2, q2⟩ := nod_loop (m := n + Tr.levL (ch.map LT.er)) (t := .nd l c ch) (p := p) (i.ext E1) (by omega) H ch 0 [(p, .nd l c ch)] h1 h.length none (fun k x e => by rw [Nat.zero_add]; exact e) Ext.refl app_new (by simp; omega)
  refine ⟨g', r', ?_, E1.trans E2, by rw [LT.nodes]; exact q2⟩
  rw [er_nd, Tr.lev]
  show runD (Phi (n + Tr.levL (ch.map LT.er))) ir__law_nodes 4 [LT.w (.nd l c ch), .tup (plW p)] h = _
  refine d_ret (ρ' := [some (LT.w (.nd l c ch)), some (.tup (plW p)), some (.loc r'), y3]) ?_
  refine b_cons (ρ' := [some (LT.w (.nd l c ch)), some (.tup (plW p)), some (.loc h.length), none]) (h1 := h1) (x_asg (e_lst (h1 := h) (es_cons (e_tup (es_cons (e_v rfl) (es_cons (e_v rfl) es_nil)) (szw rfl)) es_nil) (szw rfl)) rfl) ?_
  refine b_cons (ρ' := [some (LT.w (.nd l c ch)), some (.tup (plW p)), some (.loc r'), y3]) (h1 := g') (x_for (ws := [.int ((ch.map LT.w).length : Nat)]) (h1 := h1) (es_cons (e_f1 (e_b2 (e_v rfl) e_c (o_t1 _)) (o_len (i.ext E1).at_)) es_nil) (i_up (by rw [List.length_map]; omega)) ?_) (b_ret (x_ret (e_v rfl)))
  rw [List.length_map]
  exact e2
end Lw
set_option maxHeartbeats 4000000
namespace Lw
open PySem L2 Bi
theorem c_filt {ck : Option (Nat × List W)} {f : W → M (Option W)} {h : Store} (st : stands ck h) : ∀ {ws : List W} {outs : List (Option W)} {acc : List W}, outs.length = ws.length → (∀ (k : Nat) (w : W) (y : Option W), ws[k]? = some w → outs[k]? = some y → f w h = some (.ok y, h)) → acc.length + ws.length ≤ sizeLine → compM ck f ws acc h = some (.ok (acc ++ outs.filterMap id), h)
  | [], [], acc, _, _, hz => by rw [List.filterMap_nil, List.append_nil]; exact c_nil st hz
  | [], _ :: _, _, hl, _, _ => by simp at hl
  | _ :: _, [], _, hl, _, _ => by simp at hl
  | w :: ws, none :: outs, acc, hl, hf, hz => by
    refine c_skip st (hf 0 w none rfl rfl) ?_
    rw [c_filt st (by simpa using hl) (fun k v z h1 h2 => hf (k + 1) v z (by simpa using h1) (by simpa using h2)) (by rw [List.length_cons] at hz; omega)]
    rfl
  | w :: ws, some y :: outs, acc, hl, hf, hz => by
    refine c_cons st (hf 0 w (some y) rfl rfl) ?_
    rw [c_filt st (by simpa using hl) (fun k v z h1 h2 => hf (k + 1) v z (by simpa using h1) (by simpa using h2)) (by rw [List.length_append, List.length_singleton]; rw [List.length_cons] at hz; omega)]
    rw [List.append_assoc]; rfl
theorem shD_int {h : Store} {i : Int} : shD h (.int i) = some (.int i) := rfl
theorem shD_non {h : Store} : shD h .non = some .none := rfl
theorem shD_str {h : Store} {l : Str} (g : PyData.strOk l = true) : shD h (.str l) = some (.str l) := by
  show (if SeqAt.shaped (.str l) = true then some (PyData.str l) else none) = _
  rw [if_pos]
  unfold SeqAt.shaped
  simp only [PyData.canLay0, PyData.depth, g, Bool.true_and]
  try exact decide_eq_true (by omega)
theorem o_nei {h : Store} {i j : Int} : op2 .ne (.int i) (.int j) h = some (.ok (.bl (decide (i ≠ j))), h) := by
  rw [o_ned shD_int shD_int]
  congr 4
  simp only [PyData.eqv]
  by_cases e : i = j <;> simp [e]
theorem o_eqi {h : Store} {i j : Int} : op2 .eq (.int i) (.int j) h = some (.ok (.bl (decide (i = j))), h) := by
  rw [o_eqd shD_int shD_int]
  congr 4
theorem o_nes {h : Store} {a b : Str} (ga : PyData.strOk a = true) (gb : PyData.strOk b = true) : op2 .ne (.str a) (.str b) h = some (.ok (.bl (decide (a ≠ b))), h) := by
  rw [o_ned (shD_str ga) (shD_str gb)]
  congr 4
  simp only [PyData.eqv]
  by_cases e : a = b <;> simp [e]
theorem fine_kid {t c : LT} {k : Nat} (f : Fine t.er) (e : t.ch[k]? = some c) : Fine c.er := by
  have hm := List.mem_map_of_mem (f := LT.er) (List.mem_of_getElem? e)
  have := lev_mem hm
  obtain ⟨h1, h2⟩ := f
  rw [er_ch] at h1 h2
  rw [Tr.lev] at h2
  exact ⟨(good_nd.mp h1).2 _ hm, by omega⟩
theorem fine_lab {t : LT} (f : Fine t.er) : PyData.strOk t.l = true := by
  have h1 := f.1
  rw [er_ch] at h1
  exact (good_nd.mp h1).1
open Classical in
/-- where two lists of children differ -/
noncomputable def chgI (a b : List Tr) : List Nat := (List.range a.length).filter fun k => decide (a[k]? ≠ b[k]?)
open Classical in
noncomputable def one (s t : Tr) : Option Nat := if s.l = t.l ∧ s.ch.length = t.ch.length then (match chgI s.ch t.ch with | [i] => some i | _ => none) else none
open Classical in
theorem chg_mem {a b : List Tr} {k : Nat} : k ∈ chgI a b ↔ k < a.length ∧ a[k]? ≠ b[k]? := by
  unfold chgI
  rw [List.mem_filter, List.mem_range, decide_eq_true_iff]
theorem filt_one {p : Nat → Bool} {i : Nat} : ∀ {n : Nat}, i < n → (∀ k, k < n → (p k = true ↔ k = i)) → (List.range n).filter p = [i]
  | 0, h, _ => by omega
  | n + 1, h, hp => by
    rw [List.range_succ, List.filter_append]
    by_cases e : i = n
    · have : (List.range n).filter p = [] := by
        rw [List.filter_eq_nil_iff]
        intro k hk q
        rw [List.mem_range] at hk
        have := (hp k (by omega)).mp q
        omega
      rw [this, List.filter_cons, if_pos ((hp n (by omega)).mpr e.symm), e]; rfl
    · rw [filt_one (by omega) (fun k hk => hp k (by omega)), List.filter_cons, if_neg (fun q => e ((hp n (by omega)).mp q).symm)]; rfl
theorem one_some {s t : Tr} {i : Nat} (e : one s t = some i) : s.l = t.l ∧ ∃ c d, s.ch[i]? = some c ∧ t.ch[i]? = some d ∧ c ≠ d ∧ s.ch.set i d = t.ch := by
  unfold one at e
  by_cases hl : s.l = t.l ∧ s.ch.length = t.ch.length
  · rw [if_pos hl] at e
    cases hc : chgI s.ch t.ch with
    | nil => rw [hc] at e; cases e
    | cons a r =>
      cases r with
      | cons b r => rw [hc] at e; cases e
      | nil =>
        rw [hc] at e
        injection e with e
        subst e
        have hm : ∀ k, k = a ↔ k < s.ch.length ∧ s.ch[k]? ≠ t.ch[k]? := fun k => by rw [← chg_mem, hc, List.mem_singleton]
        obtain ⟨h1, h2⟩ := (hm a).mp rfl
        refine ⟨hl.1, s.ch[a], t.ch[a]'(by omega), List.getElem?_eq_getElem h1, List.getElem?_eq_getElem (by omega), ?_, ?_⟩
        · intro z
          rw [List.getElem?_eq_getElem h1, List.getElem?_eq_getElem (by omega), z] at h2
          exact h2 rfl
        · apply List.ext_getElem?
          intro k
          by_cases hk : k = a
          · subst hk
            rw [List.getElem?_set_self h1, List.getElem?_eq_getElem (by omega)]
          · rw [List.getElem?_set_ne (by omega)]
            by_cases hl2 : k < s.ch.length
            · exact Classical.byContradiction fun z => hk ((hm k).mpr ⟨hl2, z⟩)
            · rw [List.getElem?_eq_none_iff.mpr (by omega), List.getElem?_eq_none_iff.mpr (by omega)]
  · rw [if_neg hl] at e; cases e
open Classical in
theorem one_of {l : Str} {ch : List Tr} {i : Nat} {c d : Tr} (hc : ch[i]? = some c) (hn : c ≠ d) : one (.nd l ch) (.nd l (ch.set i d)) = some i := by
  have hi := (List.getElem?_eq_some_iff.mp hc).1
  unfold one
  rw [if_pos ⟨rfl, by show ch.length = (ch.set i d).length; rw [List.length_set]⟩]
  have : chgI (Tr.nd l ch).ch (Tr.nd l (ch.set i d)).ch = [i] := by
    show (List.range ch.length).filter _ = _
    refine filt_one hi fun k hk => ?_
    rw [decide_eq_true_iff]
    show ch[k]? ≠ (ch.set i d)[k]? ↔ _
    by_cases e : k = i
    · subst e
      rw [List.getElem?_set_self hi, hc]
      exact ⟨fun _ => rfl, fun _ z => hn (Option.some.inj z)⟩
    · rw [List.getElem?_set_ne (by omega)]
      exact ⟨fun z => absurd rfl z, fun z => absurd z e⟩
  rw [this]
/-- the place of the difference -/
noncomputable def Dv : Nat → Tr → Tr → List Nat
  | 0, _, _ => []
  | n + 1, s, t => match one s t with
    | some i => match s.ch[i]?, t.ch[i]? with
      | some c, some d => i :: Dv n c d
      | _, _ => []
    | none => []
/-- the plain tree at a place -/
def Tr.sub : List Nat → Tr → Option Tr
  | [], t => some t
  | i :: p, t => (t.ch[i]?).bind fun c => Tr.sub p c
theorem er_sub : ∀ (p : List Nat) (t : LT), Tr.sub p t.er = (LT.sub p t).map LT.er
  | [], t => rfl
  | k :: p, t => by
    show ((t.er.ch)[k]?).bind (fun c => Tr.sub p c) = ((t.ch[k]?).bind fun c => LT.sub p c).map LT.er
    rw [er_ch]
    show ((t.ch.map LT.er)[k]?).bind (fun c => Tr.sub p c) = _
    rw [List.getElem?_map]
    cases t.ch[k]? with
    | none => rfl
    | some c => exact er_sub p c
theorem Dv_put : ∀ (n : Nat) (s t : Tr), ∃ a b, Tr.sub (Dv n s t) s = some a ∧ Tr.sub (Dv n s t) t = some b ∧ Tr.put (Dv n s t) b s = t
  | 0, s, t => ⟨s, t, rfl, rfl, by rw [Dv, Tr.put]⟩
  | n + 1, s, t => by
    cases e : one s t with
    | none => exact ⟨s, t, by rw [Dv, e]; rfl, by rw [Dv, e]; rfl, by rw [Dv, e, Tr.put]⟩
    | some i =>
      obtain ⟨hl, c, d, hc, hd, hn, hs⟩ := one_some e
      obtain ⟨a, b, h1, h2, h3⟩ := Dv_put n c d
      have hD : Dv (n + 1) s t = i :: Dv n c d := by
        rw [Dv, e]
        show (match s.ch[i]?, t.ch[i]? with
          | some c, some d => i :: Dv n c d
          | _, _ => []) = _
        rw [hc, hd]
      rw [hD]
      refine ⟨a, b, ?_, ?_, ?_⟩
      · show (s.ch[i]?).bind _ = _
        rw [hc]; exact h1
      · show (t.ch[i]?).bind _ = _
        rw [hd]; exact h2
      · cases s with
        | nd l ch =>
          cases t with
          | nd l' ch' =>
            have hl : l = l' := hl
            have hs : ch.set i d = ch' := hs
            rw [put_cons (show ch[i]? = some c from hc), h3, hs, hl]
theorem Dv_best : ∀ (n : Nat) (q : List Nat) (s t a b : Tr), s.lev ≤ n → s ≠ t → Tr.sub q s = some a → Tr.sub q t = some b → Tr.put q b s = t → ∃ r, Dv n s t = q ++ r
  | n, [], s, t, a, b, _, _, _, _, _ => ⟨_, rfl⟩
  | 0, i :: q, s, t, a, b, hn, _, _, _, _ => by cases s; rw [Tr.lev] at hn; omega
  | n + 1, i :: q, .nd l ch, t, a, b, hn, hst, ha, hb, hp => by
    have ha : (ch[i]?).bind (fun c => Tr.sub q c) = some a := ha
    have hb : (t.ch[i]?).bind (fun c => Tr.sub q c) = some b := hb
    cases hc : ch[i]? with
    | none => rw [hc] at ha; cases ha
    | some c =>
      rw [hc] at ha
      rw [put_cons hc] at hp
      have hi := (List.getElem?_eq_some_iff.mp hc).1
      have hne : c ≠ Tr.put q b c := by
        intro z
        rw [← z] at hp
        apply hst
        rw [← hp]
        congr 1
        apply List.ext_getElem?
        intro k
        by_cases e : k = i
        · subst e; rw [List.getElem?_set_self hi, hc]
        · rw [List.getElem?_set_ne (by omega)]
      have ho : one (.nd l ch) t = some i := by rw [← hp]; exact one_of hc hne
      have hd : t.ch[i]? = some (Tr.put q b c) := by rw [← hp]; exact List.getElem?_set_self hi
      rw [hd] at hb
      have hlc : c.lev ≤ n := by
        rw [Tr.lev] at hn
        have := lev_mem (List.mem_of_getElem? hc)
        omega
      obtain ⟨r, e⟩ := Dv_best n q c (Tr.put q b c) a b hlc hne ha hb rfl
      refine ⟨r, ?_⟩
      rw [Dv, ho]
      show (match ch[i]?, t.ch[i]? with
        | some c, some d => i :: Dv n c d
        | _, _ => []) = _
      rw [hc, hd]
      show i :: Dv n c _ = _
      rw [e]; rfl
end Lw
set_option maxHeartbeats 4000000
namespace Lw
open PySem L2 Bi
theorem i_en {c : Nat} {xs : List W} {h : Store} (e : h[c]? = some (.lst xs)) : items .en [.loc c] h = some (.ok ((List.range xs.length).map fun (k : Nat) => .tup [.int (0 + (k : Int)), xs.getD k .non], some (c, xs)), h) := by
  show (lstAt h c).map _ = _
  unfold lstAt; rw [e]; rfl
def oneW : Option Nat → W
  | some i => .int (i : Int)
  | none => .non
theorem er_l (t : LT) : t.er.l = t.l := by rw [er_ch]; rfl
theorem er_c (t : LT) : t.er.ch = t.ch.map LT.er := by rw [er_ch]; rfl
open Classical in
theorem one_ok {n : Nat} {h : Store} {s t : LT} (is : In h s) (it : In h t) (fs : Fine s.er) (ft : Fine t.er) (hz : s.er.siz ≤ 40000) : ∃ h', Phi (n + 1) 10 [s.w, t.w] h = some (.ok (oneW (one s.er t.er)), h') ∧ Ext h h' := by
  have cs := kid_at is
  have ct := kid_at it
  have hls : s.ch.length ≤ 40000 := Nat.le_trans (ch_siz s) hz
  let ρ : Bi.Env := [some s.w, some t.w, none, none, none]
  have eL : ev (Phi n) (.b2 .ne (.b2 .ix (.v 0) (.c (.int 0))) (.b2 .ix (.v 1) (.c (.int 0)))) ρ h = some (.ok (.bl (decide (s.l ≠ t.l))), h) :=
    e_b2 (e_b2 (e_v rfl) e_c (o_t0 s)) (e_b2 (e_v rfl) e_c (o_t0 t)) (o_nes (fine_lab fs) (fine_lab ft))
  have eN : ev (Phi n) (.b2 .ne (.f1 .len (.b2 .ix (.v 0) (.c (.int 1)))) (.f1 .len (.b2 .ix (.v 1) (.c (.int 1))))) ρ h = some (.ok (.bl (decide (((s.ch.map LT.w).length : Int) ≠ ((t.ch.map LT.w).length : Int)))), h) :=
    e_b2 (e_f1 (e_b2 (e_v rfl) e_c (o_t1 s)) (o_len cs)) (e_f1 (e_b2 (e_v rfl) e_c (o_t1 t)) (o_len ct)) o_nei
  by_cases hl : s.l = t.l
  · by_cases hn : s.ch.length = t.ch.length
    · -- the comprehension
      let f : Nat → Option W := fun k => if s.er.ch[k]? ≠ t.er.ch[k]? then some (.int (k : Int)) else none
      have hlc : ev (Phi n) (.lc [3, 4] (.tp [(.nm 3), (.nm 4)]) .en [(.b2 .ix (.v 0) (.c (.int 1)))] [(.b2 .ne (.v 4) (.b2 .ix (.b2 .ix (.v 1) (.c (.int 1))) (.v 3)))] (.v 3)) ρ h = some (.ok (.loc h.length), h ++ [.lst ([] ++ ((List.range (s.ch.map LT.w).length).map f).filterMap id)]) := by
        refine e_lc (ws := [.loc s.c]) (h1 := h) (es_cons (e_b2 (e_v rfl) e_c (o_t1 s)) es_nil) (i_en cs) (c_filt (show stands (some (s.c, s.ch.map LT.w)) h from cs) (by simp) ?_ (szl (by simp; omega)))
        intro k w y h1 h2
        rw [List.getElem?_map] at h1 h2
        obtain ⟨m, hm, rfl⟩ := Option.map_eq_some_iff.mp h1
        obtain ⟨m2, hm2, rfl⟩ := Option.map_eq_some_iff.mp h2
        rw [hm] at hm2
        cases hm2
        obtain ⟨hk, hk2⟩ := List.getElem?_eq_some_iff.mp hm
        rw [List.getElem_range] at hk2
        subst hk2
        rw [List.length_range, List.length_map] at hk
        have hk2 : k < t.ch.length := by omega
        have q1 : s.ch[k]? = some s.ch[k] := List.getElem?_eq_getElem hk
        have q2 : t.ch[k]? = some t.ch[k] := List.getElem?_eq_getElem hk2
        have hg : (s.ch.map LT.w).getD k .non = (s.ch[k]).w := by rw [List.getD_eq_getElem?_getD, List.getElem?_map, q1]; rfl
        rw [hg, Int.zero_add]
        let ρ2 : Bi.Env := [some s.w, some t.w, none, some (.int (k : Int)), some (s.ch[k]).w]
        have et : ev (Phi n) (.b2 .ne (.v 4) (.b2 .ix (.b2 .ix (.v 1) (.c (.int 1))) (.v 3))) ρ2 h = some (.ok (.bl (decide ((s.ch[k]).er ≠ (t.ch[k]).er))), h) :=
          e_b2 (e_v rfl) (e_b2 (e_b2 (e_v rfl) e_c (o_t1 t)) (e_v rfl) (o_ix ct (atI_kid q2))) (o_net (kid_in is q1) (kid_in it q2) (fine_kid fs q1) (fine_kid ft q2))
        have hf : (s.er.ch[k]? ≠ t.er.ch[k]?) ↔ (s.ch[k]).er ≠ (t.ch[k]).er := by
          rw [er_c, er_c, List.getElem?_map, List.getElem?_map, q1, q2]
          simp
        by_cases hd : (s.ch[k]).er ≠ (t.ch[k]).er
        · show _ = some (Rs.ok (if s.er.ch[k]? ≠ t.er.ch[k]? then some (W.int (k : Int)) else none), h)
          rw [if_pos (hf.mpr hd)]
          exact lcF_in (ρ' := ρ2) rfl (t_one et (bT hd)) (e_v rfl)
        · show _ = some (Rs.ok (if s.er.ch[k]? ≠ t.er.ch[k]? then some (W.int (k : Int)) else none), h)
          rw [if_neg (fun z => hd (hf.mp z))]
          exact lcF_out (ρ' := ρ2) rfl (t_one et (bF hd))
      have hch : ((List.range (s.ch.map LT.w).length).map f).filterMap id = (chgI s.er.ch t.er.ch).map fun (k : Nat) => W.int (k : Int) := by
        unfold chgI
        rw [er_c, er_c, List.length_map, List.length_map]
        induction (List.range s.ch.length) with
        | nil => rfl
        | cons a r ih =>
          rw [List.map_cons, List.filterMap_cons, List.filter_cons]
          by_cases hd : (s.ch.map LT.er)[a]? ≠ (t.ch.map LT.er)[a]?
          · have hfa : id (f a) = some (W.int (a : Int)) := by
              show (if s.er.ch[a]? ≠ t.er.ch[a]? then some (W.int (a : Int)) else none) = _
              rw [er_c, er_c, if_pos hd]
            rw [hfa, if_pos (decide_eq_true hd), List.map_cons, ← ih]
          · have hfa : id (f a) = none := by
              show (if s.er.ch[a]? ≠ t.er.ch[a]? then some (W.int (a : Int)) else none) = _
              rw [er_c, er_c, if_neg hd]
            rw [hfa, if_neg (by rw [decide_eq_false hd]; decide), ← ih]
      rw [List.nil_append, hch] at hlc
      let h1 := h ++ [O.lst ((chgI s.er.ch t.er.ch).map fun (k : Nat) => W.int (k : Int))]
      have hone : one s.er t.er = (match chgI s.er.ch t.er.ch with | [i] => some i | _ => none) := by
        unfold one
        rw [if_pos ⟨by rw [er_l, er_l]; exact hl, by rw [er_c, er_c, List.length_map, List.length_map]; exact hn⟩]
        try rfl
      have a1 : h1[h.length]? = some (.lst ((chgI s.er.ch t.er.ch).map fun (k : Nat) => W.int (k : Int))) := app_new
      refine ⟨h1, ?_, Ext.app⟩
      show runD (Phi n) ir_one_differs 5 [s.w, t.w] h = _
      refine d_ret (ρ' := [some s.w, some t.w, some (.loc h.length), none, none]) ?_
      refine b_cons (ρ' := ρ) (h1 := h) (x_ite0 (e_or0 eL (bF (fun z => z hl)) eN) (bF (by rw [List.length_map, List.length_map, hn]; exact fun z => z rfl)) b_nil) ?_
      refine b_cons (ρ' := [some s.w, some t.w, some (.loc h.length), none, none]) (h1 := h1) (x_asg hlc rfl) ?_
      refine b_ret (x_ret ?_)
      rw [hone]
      have e1 : ev (Phi n) (.b2 .eq (.f1 .len (.v 2)) (.c (.int 1))) [some s.w, some t.w, some (.loc h.length), none, none] h1 = some (.ok (.bl (decide ((((chgI s.er.ch t.er.ch).map fun (k : Nat) => W.int (k : Int)).length : Int) = 1))), h1) :=
        e_b2 (e_f1 (e_v rfl) (o_len a1)) e_c o_eqi
      by_cases hc : ∃ i, chgI s.er.ch t.er.ch = [i]
      · obtain ⟨i, hc⟩ := hc
        rw [hc] at a1 e1 ⊢
        exact e_ite1 e1 (bT rfl) (e_b2 (e_v rfl) e_c (o_ix (w := .int (i : Int)) a1 rfl))
      · have hlen : (chgI s.er.ch t.er.ch).length ≠ 1 := fun z => hc (List.length_eq_one_iff.mp z)
        have : (match chgI s.er.ch t.er.ch with | [i] => some i | _ => none) = none := by
          split
          · rename_i i e; exact absurd ⟨i, e⟩ hc
          · rfl
        rw [this]
        exact e_ite0 e1 (bF (by rw [List.length_map]; omega)) e_c
    · refine ⟨h, ?_, Ext.refl⟩
      have : one s.er t.er = none := by
        unfold one
        rw [if_neg]
        rintro ⟨_, z⟩
        rw [er_c, er_c, List.length_map, List.length_map] at z
        exact hn z
      rw [this]
      show runD (Phi n) ir_one_differs 5 [s.w, t.w] h = _
      refine d_ret (ρ' := ρ) ?_
      exact b_ret (x_ite1 (e_or0 eL (bF (fun z => z hl)) eN) (bT (by rw [List.length_map, List.length_map]; omega)) (b_ret (x_ret e_c)))
  · refine ⟨h, ?_, Ext.refl⟩
    have : one s.er t.er = none := by
      unfold one
      rw [if_neg]
      rintro ⟨z, _⟩
      rw [er_l, er_l] at z
      exact hl z
    rw [this]
    show runD (Phi n) ir_one_differs 5 [s.w, t.w] h = _
    refine d_ret (ρ' := ρ) ?_
    exact b_ret (x_ite1 (e_or1 eL (bT hl)) (bT hl) (b_ret (x_ret e_c)))
noncomputable abbrev difT (n : Nat) : Bi.Env → M (Bi.Env × Bool) := fun ρ => bnd (ev (Phi n) (.call 10 [(.v 3), (.v 4)]) ρ) fun x => bnd (op1 .notN x) fun y => bnd (truth y) fun c => Bi.ret (ρ.set 5 (some x), c)
noncomputable abbrev difB (n : Nat) : Bi.Env → M (Fl × Bi.Env) := fun ρ => exs (Phi n) [.asg (.nm 2) (.b2 .add (.v 2) (.tup [(.v 5)])), .asg (.nm 3) (.b2 .ix (.b2 .ix (.v 3) (.c (.int 1))) (.v 5)), .asg (.nm 4) (.b2 .ix (.b2 .ix (.v 4) (.c (.int 1))) (.v 5))] ρ
theorem dif_loop (n : Nat) {a b : W} {h : Store} : ∀ (m : Nat) (s t : LT) (p : List Nat) (g : Store) (x5 : Option W), s.er.lev ≤ m → In g s → In g t → Fine s.er → Fine t.er → s.er.siz ≤ 40000 → p.length + s.er.lev ≤ 50000 → Ext h g →
    ∃ g' A B y5, whM (difT (n + 1)) (difB (n + 1)) [some a, some b, some (.tup (plW p)), some s.w, some t.w, x5] g = some (.ok (.nx, [some a, some b, some (.tup (plW (p ++ Dv m s.er t.er))), some (LT.w A), some (LT.w B), y5]), g') ∧ Ext h g' ∧ LT.sub (Dv m s.er t.er) s = some A ∧ LT.sub (Dv m s.er t.er) t = some B ∧ In g' A ∧ In g' B := by
  intro m
  induction m with
  | zero =>
    intro s t p g x5 hm is it fs ft hz hp E
    rw [er_ch, Tr.lev] at hm
    omega
  | succ m ih =>
    intro s t p g x5 hm is it fs ft hz hp E
    obtain ⟨g1, e1, E1⟩ := one_ok (n := n) is it fs ft hz
    have ec : ev (Phi (n + 1)) (.call 10 [(.v 3), (.v 4)]) [some a, some b, some (.tup (plW p)), some s.w, some t.w, x5] g = some (.ok (oneW (one s.er t.er)), g1) := e_call (es_cons (e_v rfl) (es_cons (e_v rfl) es_nil)) e1
    cases ho : one s.er t.er with
    | none =>
      rw [ho] at ec
      refine ⟨g1, s, t, some .non, ?_, E.trans E1, by rw [Dv, ho]; rfl, by rw [Dv, ho]; rfl, is.ext E1, it.ext E1⟩
      have : Dv (m + 1) s.er t.er = [] := by rw [Dv, ho]
      rw [this, List.append_nil]
      exact wh_stop (ww (t := false) ec rfl)
    | some i =>
      rw [ho] at ec
      obtain ⟨hl, c, d, hc, hd, hn, _⟩ := one_some ho
      have hD : Dv (m + 1) s.er t.er = i :: Dv m c d := by
        rw [Dv, ho]
        show (match s.er.ch[i]?, t.er.ch[i]? with
          | some c, some d => i :: Dv m c d
          | _, _ => []) = _
        rw [hc, hd]
      rw [er_c, List.getElem?_map] at hc hd
      obtain ⟨c', hc', rfl⟩ := Option.map_eq_some_iff.mp hc
      obtain ⟨d', hd', rfl⟩ := Option.map_eq_some_iff.mp hd
      have hcm := List.mem_map_of_mem (f := LT.er) (List.mem_of_getElem? hc')
      have l1 := lev_mem hcm
      have l2 := siz_mem hcm
      have hsiz : s.er.siz = Tr.sizL (s.ch.map LT.er) + 1 := by rw [er_ch, Tr.siz]
      have hlev : s.er.lev = Tr.levL (s.ch.map LT.er) + 1 := by rw [er_ch, Tr.lev]
      obtain ⟨g', A, B, y5, e2, E2, r1, r2, r3, r4⟩ := ih c' d' (p ++ [i]) g1 (some (.int (i : Int))) (by omega) (kid_in (is.ext E1) hc') (kid_in (it.ext E1) hd') (fine_kid fs hc') (fine_kid ft hd') (by omega) (by simp; omega) (E.trans E1)
      refine ⟨g', A, B, y5, ?_, E2, ?_, ?_, r3, r4⟩
      · rw [hD]
        rw [List.append_assoc] at e2
        refine wh_turn (ρ' := [some a, some b, some (.tup (plW p)), some s.w, some t.w, some (.int (i : Int))]) (ρ'' := [some a, some b, some (.tup (plW (p ++ [i]))), some c'.w, some d'.w, some (.int (i : Int))]) (h1 := g1) (h2 := g1) (ww (t := true) ec rfl) ?_ e2
        refine b_cons (ρ' := [some a, some b, some (.tup (plW (p ++ [i]))), some s.w, some t.w, some (.int (i : Int))]) (h1 := g1) (x_asg (w := .tup (plW (p ++ [i]))) (e_b2 (x := .tup (plW p)) (y := .tup (plW [i])) (h2 := g1) (e_v rfl) (e_tup (es_cons (e_v rfl) es_nil) (szw rfl)) ?_) rfl) ?_
        · rw [o_cat (szl (by rw [plW_len]; simp; omega))]
          unfold plW; rw [List.map_append]
        refine b_cons (ρ' := [some a, some b, some (.tup (plW (p ++ [i]))), some c'.w, some t.w, some (.int (i : Int))]) (h1 := g1) (x_asg (e_b2 (e_b2 (e_v rfl) e_c (o_t1 s)) (e_v rfl) (o_ix (kid_at (is.ext E1)) (atI_kid hc'))) rfl) ?_
        exact b_cons (ρ' := [some a, some b, some (.tup (plW (p ++ [i]))), some c'.w, some d'.w, some (.int (i : Int))]) (h1 := g1) (x_asg (e_b2 (e_b2 (e_v rfl) e_c (o_t1 t)) (e_v rfl) (o_ix (kid_at (it.ext E1)) (atI_kid hd'))) rfl) b_nil
      · rw [hD]
        show (s.ch[i]?).bind _ = _
        rw [hc']; exact r1
      · rw [hD]
        show (t.ch[i]?).bind _ = _
        rw [hd']; exact r2
open Classical in
/-- difference of equal trees -/
theorem dif_eq {n : Nat} {h : Store} {s t : LT} (is : In h s) (it : In h t) (fs : Fine s.er) (ft : Fine t.er) (e : s.er = t.er) : Phi (n + 1) 11 [s.w, t.w] h = some (.ok .non, h) := by
  show runD (Phi n) ir_difference 6 [s.w, t.w] h = _
  refine d_ret (ρ' := [some s.w, some t.w, none, none, none, none]) ?_
  exact b_ret (x_ite1 (e_b2 (e_v rfl) (e_v rfl) (o_eqt is it fs ft)) (bT e) (b_ret (x_ret e_c)))
open Classical in
/-- difference of unequal trees -/
theorem dif_ne {n : Nat} {h : Store} {s t : LT} (is : In h s) (it : In h t) (fs : Fine s.er) (ft : Fine t.er) (hz : s.er.siz ≤ 40000) (hz2 : t.er.siz ≤ 40000) (e : s.er ≠ t.er) : ∃ h' A B A' B', Phi (n + 4) 11 [s.w, t.w] h = some (.ok (.tup [.tup (plW (Dv s.er.lev s.er t.er)), LT.w A, LT.w B]), h') ∧ Ext h h' ∧ LT.sub (Dv s.er.lev s.er t.er) s = some A' ∧ LT.sub (Dv s.er.lev s.er t.er) t = some B' ∧ In h' A ∧ In h' B ∧ A.er = A'.er ∧ B.er = B'.er ∧ New h.length A ∧ New h.length B := by
  have hl := lev_siz s.er
  obtain ⟨g1, A', B', y5, e1, E1, r1, r2, iA', iB'⟩ := dif_loop (n + 2) (a := s.w) (b := t.w) (h := h) s.er.lev s t [] h none (Nat.le_refl _) is it fs ft hz (by simp; omega) Ext.refl
  obtain ⟨g2, A, e2, E2, iA, eA, nA⟩ := fresh_ok (n := n) iA' (by have := (sub_lev r1).1; omega)
  obtain ⟨g3, B, e3, E3, iB, eB, nB⟩ := fresh_ok (n := n) (iB'.ext E2) (by have := (sub_lev r2).1; omega)
  refine ⟨g3, A, B, A', B', ?_, (E1.trans E2).trans E3, r1, r2, iA.ext E3, iB, eA, eB, nA.mono E1.len, nB.mono (Nat.le_trans E1.len E2.len)⟩
  show runD (Phi (n + 3)) ir_difference 6 [s.w, t.w] h = _
  refine d_ret (ρ' := [some s.w, some t.w, some (.tup (plW (Dv s.er.lev s.er t.er))), some A'.w, some B'.w, y5]) ?_
  refine b_cons (ρ' := [some s.w, some t.w, none, none, none, none]) (h1 := h) (x_ite0 (e_b2 (e_v rfl) (e_v rfl) (o_eqt is it fs ft)) (bF e) b_nil) ?_
  refine b_cons (ρ' := [some s.w, some t.w, some (.tup (plW [])), none, none, none]) (h1 := h) (x_asg (e_tup es_nil (szw rfl)) rfl) ?_
  refine b_cons (ρ' := [some s.w, some t.w, some (.tup (plW [])), some s.w, some t.w, none]) (h1 := h) (x_asg (e_tup (es_cons (e_v rfl) (es_cons (e_v rfl) es_nil)) (szw rfl)) rfl) ?_
  refine b_cons (ρ' := [some s.w, some t.w, some (.tup (plW (Dv s.er.lev s.er t.er))), some A'.w, some B'.w, y5]) (h1 := g1) ?_ ?_
  · rw [ex]; exact e1
  · exact b_ret (x_ret (e_tup (es_cons (e_v rfl) (es_cons (e_call (es_cons (e_v rfl) es_nil) e2) (es_cons (e_call (es_cons (e_v rfl) es_nil) e3) es_nil))) (szw rfl)))
end Lw
set_option maxHeartbeats 4000000
namespace Lw
open PySem L2 Bi
theorem sub_nodes : ∀ (p : List Nat) (t x : LT) (p0 : List Nat), LT.sub p t = some x → (p0 ++ p, x) ∈ t.nodes p0
  | [], t, x, p0, e => by
    cases e
    obtain ⟨r, e⟩ := nodes_head t p0
    rw [e, List.append_nil]; exact List.mem_cons_self
  | k :: p, .nd l c ch, x, p0, e => by
    have e : (ch[k]?).bind (fun c => LT.sub p c) = some x := e
    cases hk : ch[k]? with
    | none => rw [hk] at e; cases e
    | some y =>
      rw [hk] at e
      have ih := sub_nodes p y x (p0 ++ [k]) e
      rw [LT.nodes]
      have key : ∀ (ts : List LT) (i j : Nat), ts[j]? = some y → i + j = k → (p0 ++ [k] ++ p, x) ∈ nodesL p0 i ts := by
        intro ts
        induction ts with
        | nil => intro i j h; simp at h
        | cons a ts ih2 =>
          intro i j h hk
          rw [nodesL]
          cases j with
          | zero =>
            cases h
            rw [show i = k by omega]
            exact List.mem_append_left _ ih
          | succ j => exact List.mem_append_right _ (ih2 (i + 1) j (by simpa using h) (by omega))
      have := key ch 0 k hk (by omega)
      rw [List.append_assoc] at this
      exact List.mem_cons_of_mem _ this
theorem put_good : ∀ (p : List Nat) (x t : Tr), x.good = true → t.good = true → (Tr.put p x t).good = true
  | [], x, t, hx, _ => by rw [Tr.put]; exact hx
  | k :: p, x, .nd l ch, hx, ht => by
    cases hk : ch[k]? with
    | none =>
      have : Tr.put (k :: p) x (.nd l ch) = .nd l ch := by rw [Tr.put, hk]
      rw [this]; exact ht
    | some c =>
      rw [put_cons hk]
      obtain ⟨h1, h2⟩ := good_nd.mp ht
      refine good_nd.mpr ⟨h1, fun y hy => ?_⟩
      rcases List.mem_or_eq_of_mem_set hy with hy | rfl
      · exact h2 y hy
      · exact put_good p x c hx (h2 c (List.mem_of_getElem? hk))
theorem shD_pls {h : Store} {l : Nat} {ps : List (List Nat)} (e : h[l]? = some (.lst (ps.map fun p => .tup (plW p)))) : shD h (.loc l) = some (.list (ps.map fun p => .tuple (plD p))) := by
  have e1 : toD 70 h (.loc l) = some (.list (ps.map fun p => .tuple (plD p))) := by
    show (match h[l]? with | some (.lst xs) => (xs.mapM (toD 69 h)).map PyData.list | _ => none) = _
    rw [e]
    show ((ps.map fun p => W.tup (plW p)).mapM (toD 69 h)).map PyData.list = _
    have : (ps.map fun p => W.tup (plW p)).mapM (toD 69 h) = some (ps.map fun p => PyData.tuple (plD p)) := by
      clear e
      induction ps with
      | nil => rfl
      | cons p ps ih =>
        rw [List.map_cons, List.mapM_cons, show toD 69 h (.tup (plW p)) = some (.tuple (plD p)) from toD_pl (n := 67) p, ih]; rfl
    rw [this]; rfl
  unfold shD
  rw [e1]
  show (if SeqAt.shaped _ = true then some _ else none) = _
  rw [if_pos]
  unfold SeqAt.shaped
  have a : PyData.canLayAll0 (ps.map fun p => PyData.tuple (plD p)) = true := by
    clear e e1
    induction ps with
    | nil => rfl
    | cons p ps ih =>
      rw [List.map_cons]
      show (PyData.canLayAll0 (plD p) && PyData.canLayAll0 _) = true
      rw [plD_lay, ih]; rfl
  have b : PyData.depthAll (ps.map fun p => PyData.tuple (plD p)) ≤ 1 := by
    clear e e1 a
    induction ps with
    | nil => exact Nat.zero_le _
    | cons p ps ih =>
      rw [List.map_cons]
      show max (PyData.depthAll (plD p) + 1) (PyData.depthAll _) ≤ 1
      rw [plD_depth]; omega
  show (PyData.canLayAll0 (ps.map fun p => PyData.tuple (plD p)) && decide (PyData.depthAll (ps.map fun p => PyData.tuple (plD p)) + 1 ≤ 64)) = true
  rw [a, Bool.true_and]
  exact decide_eq_true (by omega)
theorem o_inp {h : Store} {l : Nat} {ps : List (List Nat)} {p : List Nat} (e : h[l]? = some (.lst (ps.map fun p => .tup (plW p)))) : op2 .inn (.tup (plW p)) (.loc l) h = some (.ok (.bl (decide (p ∈ ps))), h) := by
  show (isIn h (.tup (plW p)) (.loc l)).map _ = _
  have : isIn h (.tup (plW p)) (.loc l) = some (decide (p ∈ ps)) := by
    show (match shD h (.loc l) with
      | some (.list ds) => (shD h (.tup (plW p))).map fun d => ds.any fun z => PyData.eqv z d
      | _ => none) = _
    rw [shD_pls e, shD_pl]
    show some _ = some _
    congr 1
    refine bool_iff ?_
    rw [List.any_eq_true, decide_eq_true_iff]
    constructor
    · rintro ⟨z, hz, q⟩
      obtain ⟨p', hp', rfl⟩ := List.mem_map.mp hz
      rw [(eqv_pl p' p).mp q] at hp'
      exact hp'
    · intro hp
      exact ⟨_, List.mem_map_of_mem hp, (eqv_pl p p).mpr rfl⟩
  rw [this]; rfl
noncomputable abbrev dueB (n : Nat) : W → Bi.Env → M (Fl × Bi.Env) := forF (Phi n) (.tp [(.nm 5), (.nm 6)]) [.ite (.and (.b2 .inn (.v 5) (.v 2)) (.and (.b2 .gt (.f1 .len (.v 5)) (.f1 .len (.v 4))) (.b2 .eq (.call 18 [(.v 0), (.v 5), (.call 17 [(.v 1), (.v 5)])]) (.v 1)))) [.asg (.nm 4) (.v 5)] []]
theorem sub_er {p : List Nat} {t x : LT} (e : LT.sub p t = some x) : Tr.sub p t.er = some x.er := by rw [er_sub, e]; rfl
open Classical in
theorem due_loop {n : Nat} {h : Store} {s t : LT} {l2 l3 : Nat} {xs : List W} (hn : 40 ≤ n) (is : In h s) (it : In h t) (fs : Fine s.er) (ft : Fine t.er) (hz : s.er.siz ≤ 20000) (hz2 : t.er.siz ≤ 20000) (hne : s.er ≠ t.er)
    (e2 : h[l2]? = some (.lst (((t.nodes []).map (·.1)).map fun p => .tup (plW p)))) (e3 : h[l3]? = some (.lst xs)) :
    ∀ (todo : List (List Nat × LT)) (best : List Nat) (g : Store) (x5 x6 : Option W), (∀ q ∈ todo, LT.sub q.1 s = some q.2) → Ext h g → (∃ r, Dv s.er.lev s.er t.er = best ++ r) → (Dv s.er.lev s.er t.er ∈ todo.map (·.1) ∨ best = Dv s.er.lev s.er t.er) →
    ∃ g' y5 y6, forM (some (l3, xs)) (dueB n) (todo.map pairW) [some s.w, some t.w, some (.loc l2), none, some (.tup (plW best)), x5, x6] g = some (.ok (.nx, [some s.w, some t.w, some (.loc l2), none, some (.tup (plW (Dv s.er.lev s.er t.er))), y5, y6]), g') ∧ Ext h g' := by
  intro todo
  obtain ⟨Da, Db, hDa, hDb, hDp⟩ := Dv_put s.er.lev s.er t.er
  induction todo with
  | nil =>
    intro best g x5 x6 hq E hb hd
    rcases hd with hd | hd
    · cases hd
    · subst hd
      exact ⟨g, x5, x6, f_nil (show stands (some (l3, xs)) g from E _ _ e3), E⟩
  | cons q todo ih =>
    intro best g x5 x6 hq E hb hd
    obtain ⟨p, a⟩ := q
    have hpa : LT.sub p s = some a := hq _ List.mem_cons_self
    have hq' : ∀ q ∈ todo, LT.sub q.1 s = some q.2 := fun q h => hq q (List.mem_cons_of_mem _ h)
    have st3 : stands (some (l3, xs)) g := E _ _ e3
    let ρ1 : Bi.Env := [some s.w, some t.w, some (.loc l2), none, some (.tup (plW best)), some (.tup (plW p)), some a.w]
    have eI : ev (Phi n) (.b2 .inn (.v 5) (.v 2)) ρ1 g = some (.ok (.bl (decide (p ∈ (t.nodes []).map (·.1)))), g) := e_b2 (e_v rfl) (e_v rfl) (o_inp (E _ _ e2))
    have eG : ev (Phi n) (.b2 .gt (.f1 .len (.v 5)) (.f1 .len (.v 4))) ρ1 g = some (.ok (.bl (decide ((best.length : Int) < (p.length : Int)))), g) := by
      refine e_b2 (x := .int (p.length : Int)) (y := .int (best.length : Int)) (h1 := g) (h2 := g) (e_f1 (x := .tup (plW p)) (h1 := g) (e_v rfl) ?_) (e_f1 (x := .tup (plW best)) (h1 := g) (e_v rfl) ?_) rfl
      · show some (Rs.ok (W.int ((plW p).length : Int)), g) = _
        rw [plW_len]
      · show some (Rs.ok (W.int ((plW best).length : Int)), g) = _
        rw [plW_len]
    -- a turn that keeps the best
    have skip : ∀ g1, Ext h g1 → (p = Dv s.er.lev s.er t.er → best = Dv s.er.lev s.er t.er) → exs (Phi n) [.ite (.and (.b2 .inn (.v 5) (.v 2)) (.and (.b2 .gt (.f1 .len (.v 5)) (.f1 .len (.v 4))) (.b2 .eq (.call 18 [(.v 0), (.v 5), (.call 17 [(.v 1), (.v 5)])]) (.v 1)))) [.asg (.nm 4) (.v 5)] []] ρ1 g = some (.ok (.nx, ρ1), g1) → ∃ g' y5 y6, forM (some (l3, xs)) (dueB n) (((p, a) :: todo).map pairW) [some s.w, some t.w, some (.loc l2), none, some (.tup (plW best)), x5, x6] g = some (.ok (.nx, [some s.w, some t.w, some (.loc l2), none, some (.tup (plW (Dv s.er.lev s.er t.er))), y5, y6]), g') ∧ Ext h g' := by
      intro g1 E1 hp ee
      obtain ⟨g', y5, y6, e, E'⟩ := ih best g1 (some (.tup (plW p))) (some a.w) hq' E1 hb (by
        rcases hd with hd | hd
        · rcases List.mem_cons.mp hd with hd | hd
          · exact .inr (hp hd.symm)
          · exact .inl hd
        · exact .inr hd)
      exact ⟨g', y5, y6, f_cons st3 (forF_in (ρ' := ρ1) rfl ee) e, E'⟩
    by_cases c1 : p ∈ (t.nodes []).map (·.1)
    · obtain ⟨⟨p', b⟩, hb1, rfl⟩ := List.mem_map.mp c1
      obtain ⟨r, hr1, hr2⟩ := nodes_sub t [] _ hb1
      have hr1 : p' = r := hr1
      subst hr1
      have hpb : LT.sub p' t = some b := hr2
      have hpa : LT.sub p' s = some a := hpa
      have eG : ev (Phi n) (.b2 .gt (.f1 .len (.v 5)) (.f1 .len (.v 4))) ρ1 g = some (.ok (.bl (decide ((best.length : Int) < (p'.length : Int)))), g) := eG
      by_cases c2 : best.length < p'.length
      · have lp := (sub_lev hpa).2
        have lb := (sub_lev hpb)
        have hs32 := fs.2
        obtain ⟨g1, T, e4, E4, iT, eT⟩ := put_ok (x := b) p' (n - p'.length - 1) g s a (is.ext E) (sub_in (it.ext E) hpb) (by omega) hpa
        rw [show n - p'.length - 1 + p'.length + 1 = n by omega] at e4
        have fb : b.er.good = true := by
          have key : ∀ (p : List Nat) (t b : LT), t.er.good = true → LT.sub p t = some b → b.er.good = true := by
            intro p
            induction p with
            | nil => intro t b h e; cases e; exact h
            | cons k p ihp =>
              intro t b h e
              have e : (t.ch[k]?).bind (fun c => LT.sub p c) = some b := e
              cases hk : t.ch[k]? with
              | none => rw [hk] at e; cases e
              | some c =>
                rw [hk] at e
                refine ihp c b ?_ e
                rw [er_ch] at h
                exact (good_nd.mp h).2 _ (List.mem_map_of_mem (List.mem_of_getElem? hk))
          exact key p' t b ft.1 hpb
        have fT : Fine T.er := by
          rw [eT]
          refine ⟨put_good _ _ _ fb fs.1, ?_⟩
          have := (put_siz p' b.er s.er).2
          have := ft.2
          omega
        obtain ⟨m, rfl⟩ : ∃ m, n = m + 1 := ⟨n - 1, by omega⟩
        have eE : ev (Phi (m + 1)) (.b2 .eq (.call 18 [(.v 0), (.v 5), (.call 17 [(.v 1), (.v 5)])]) (.v 1)) ρ1 g = some (.ok (.bl (decide (T.er = t.er))), g1) :=
          e_b2 (e_call (es_cons (e_v rfl) (es_cons (e_v rfl) (es_cons (e_call (es_cons (e_v rfl) (es_cons (e_v rfl) es_nil)) (lat_ok (n := m) (it.ext E) hpb)) es_nil))) e4) (e_v rfl) (o_eqt iT (it.ext (E.trans E4)) fT ft)
        by_cases c3 : T.er = t.er
        · obtain ⟨r, hr⟩ := Dv_best s.er.lev p' s.er t.er a.er b.er (Nat.le_refl _) hne (sub_er hpa) (sub_er hpb) (by rw [← eT]; exact c3)
          obtain ⟨g', y5, y6, e, E'⟩ := ih p' g1 (some (.tup (plW p'))) (some a.w) hq' (E.trans E4) ⟨r, hr⟩ (by
            rcases hd with hd | hd
            · rcases List.mem_cons.mp hd with hd | hd
              · exact .inr hd.symm
              · exact .inl hd
            · exfalso
              rw [hd, hr, List.length_append] at c2
              omega)
          refine ⟨g', y5, y6, f_cons (ρ' := [some s.w, some t.w, some (.loc l2), none, some (.tup (plW p')), some (.tup (plW p')), some a.w]) (h1 := g1) st3 (forF_in (ρ' := ρ1) rfl ?_) e, E'⟩
          refine b_one (x_ite1 (e_and1 eI (bT c1) (e_and1 eG (bT (by omega)) eE)) (bT c3) ?_)
          exact b_cons (ρ' := [some s.w, some t.w, some (.loc l2), none, some (.tup (plW p')), some (.tup (plW p')), some a.w]) (h1 := g1) (x_asg (e_v rfl) rfl) b_nil
        · refine skip g1 (E.trans E4) (fun z => absurd ?_ c3) (b_one (x_ite0 (e_and1 eI (bT c1) (e_and1 eG (bT (by omega)) eE)) (bF c3) b_nil))
          rw [eT]
          have z : p' = Dv s.er.lev s.er t.er := z
          have : Tr.sub p' t.er = some Db := by rw [z]; exact hDb
          rw [sub_er hpb] at this
          rw [Option.some.inj this, z]; exact hDp
      · refine skip g E (fun z => ?_) (b_one (x_ite0 (e_and1 eI (bT c1) (e_and0 eG (bF (by omega)))) (bF (by omega)) b_nil))
        obtain ⟨r, hr⟩ := hb
        have z : p' = Dv s.er.lev s.er t.er := z
        rw [← z] at hr ⊢
        have : r = [] := by
          have := congrArg List.length hr
          rw [List.length_append] at this
          exact List.length_eq_zero_iff.mp (by omega)
        rw [this, List.append_nil] at hr
        exact hr.symm
    · refine skip g E (fun z => absurd ?_ c1) (b_one (x_ite0 (e_and0 eI (bF c1)) (bF c1) b_nil))
      rw [z]
      rw [er_sub] at hDb
      obtain ⟨x, hx, _⟩ := Option.map_eq_some_iff.mp hDb
      exact List.mem_map.mpr ⟨_, sub_nodes _ t x [] hx, rfl⟩
open Classical in
theorem due_eq {n : Nat} {h : Store} {s t : LT} (is : In h s) (it : In h t) (fs : Fine s.er) (ft : Fine t.er) (e : s.er = t.er) : Phi (n + 1) 19 [s.w, t.w] h = some (.ok .non, h) := by
  show runD (Phi n) ir__law_due 7 [s.w, t.w] h = _
  refine d_ret (ρ' := [some s.w, some t.w, none, none, none, none, none]) ?_
  exact b_ret (x_ite1 (e_b2 (e_v rfl) (e_v rfl) (o_eqt is it fs ft)) (bT e) (b_ret (x_ret e_c)))
open Classical in
theorem due_ne {n : Nat} {h : Store} {s t : LT} (hn : 40 ≤ n) (is : In h s) (it : In h t) (fs : Fine s.er) (ft : Fine t.er) (hz : s.er.siz ≤ 20000) (hz2 : t.er.siz ≤ 20000) (e : s.er ≠ t.er) : ∃ h' A' B', Phi (n + 1) 19 [s.w, t.w] h = some (.ok (.tup [.tup (plW (Dv s.er.lev s.er t.er)), LT.w A', LT.w B']), h') ∧ Ext h h' ∧ LT.sub (Dv s.er.lev s.er t.er) s = some A' ∧ LT.sub (Dv s.er.lev s.er t.er) t = some B' := by
  have hs32 := fs.2
  have ht32 := ft.2
  obtain ⟨g1, r1, e1, E1, q1⟩ := lnodes_ok t [] (n - t.er.lev) h it (by omega) (by simp; omega)
  rw [Nat.sub_add_cancel (by omega)] at e1
  let ps : List W := ((t.nodes []).map (·.1)).map fun p => .tup (plW p)
  let g2 := g1 ++ [O.lst ps]
  have E2 : Ext g1 g2 := Ext.app
  have hlc : ev (Phi n) (.lc [3] (.nm 3) .sq [(.call 16 [(.v 1), (.tup [])])] [] (.b2 .ix (.v 3) (.c (.int 0)))) [some s.w, some t.w, none, none, none, none, none] h = some (.ok (.loc g1.length), g2) := by
    refine e_lc (ws := [.loc r1]) (h1 := g1) (es_cons (e_call (es_cons (e_v rfl) (es_cons (e_tup es_nil (szw rfl)) es_nil)) e1) es_nil) (i_lst q1) (c_list (acc := []) (out := ps) (show stands (some (r1, (t.nodes []).map pairW)) g1 from q1) (by simp [ps]) ?_ (szl (by simp [nodes_len]; omega)))
    intro k w y h1 h2
    rw [List.getElem?_map] at h1
    rw [List.getElem?_map, List.getElem?_map] at h2
    obtain ⟨m, hm, rfl⟩ := Option.map_eq_some_iff.mp h1
    rw [hm] at h2
    cases h2
    exact lcF_in (ρ' := [some s.w, some t.w, none, some (pairW m), none, none, none]) rfl t_nil (e_b2 (e_v rfl) e_c rfl)
  obtain ⟨g3, r3, e3, E3, q3⟩ := lnodes_ok s [] (n - s.er.lev) g2 (is.ext (E1.trans E2)) (by omega) (by simp; omega)
  rw [Nat.sub_add_cancel (by omega)] at e3
  have Eall : Ext h g3 := (E1.trans E2).trans E3
  obtain ⟨Da, Db, hDa, hDb, hDp⟩ := Dv_put s.er.lev s.er t.er
  rw [er_sub] at hDa hDb
  obtain ⟨A', hA', _⟩ := Option.map_eq_some_iff.mp hDa
  obtain ⟨B', hB', _⟩ := Option.map_eq_some_iff.mp hDb
  obtain ⟨g4, y5, y6, e4, E4⟩ := due_loop (n := n) (h := g3) (s := s) (t := t) (l2 := g1.length) (l3 := r3) (xs := (s.nodes []).map pairW) hn (is.ext Eall) (it.ext Eall) fs ft hz hz2 e (E3 _ _ app_new) q3 (s.nodes []) [] g3 none none
    (fun q hq => by
      obtain ⟨r, h1, h2⟩ := nodes_sub s [] q hq
      rw [h1]; exact h2) Ext.refl ⟨_, rfl⟩ (.inl (List.mem_map.mpr ⟨_, sub_nodes _ s A' [] hA', rfl⟩))
  refine ⟨g4, A', B', ?_, Eall.trans E4, hA', hB'⟩
  obtain ⟨m, rfl⟩ : ∃ m, n = m + 1 := ⟨n - 1, by omega⟩
  show runD (Phi (m + 1)) ir__law_due 7 [s.w, t.w] h = _
  refine d_ret (ρ' := [some s.w, some t.w, some (.loc g1.length), none, some (.tup (plW (Dv s.er.lev s.er t.er))), y5, y6]) ?_
  refine b_cons (ρ' := [some s.w, some t.w, none, none, none, none, none]) (h1 := h) (x_ite0 (e_b2 (e_v rfl) (e_v rfl) (o_eqt is it fs ft)) (bF e) b_nil) ?_
  refine b_cons (ρ' := [some s.w, some t.w, some (.loc g1.length), none, none, none, none]) (h1 := g2) (x_asg hlc rfl) ?_
  refine b_cons (ρ' := [some s.w, some t.w, some (.loc g1.length), none, some (.tup (plW [])), none, none]) (h1 := g2) (x_asg (e_tup es_nil (szw rfl)) rfl) ?_
  refine b_cons (ρ' := [some s.w, some t.w, some (.loc g1.length), none, some (.tup (plW (Dv s.er.lev s.er t.er))), y5, y6]) (h1 := g4) (x_for (ws := [.loc r3]) (h1 := g3) (es_cons (e_call (es_cons (e_v rfl) (es_cons (e_tup es_nil (szw rfl)) es_nil)) e3) es_nil) (i_lst q3) e4) ?_
  exact b_ret (x_ret (e_tup (es_cons (e_v rfl) (es_cons (e_call (es_cons (e_v rfl) (es_cons (e_v rfl) es_nil)) (lat_ok (is.ext (Eall.trans E4)) hA')) (es_cons (e_call (es_cons (e_v rfl) (es_cons (e_v rfl) es_nil)) (lat_ok (it.ext (Eall.trans E4)) hB')) es_nil))) (szw rfl)))
end Lw
set_option maxHeartbeats 4000000
namespace Lw
open PySem L2 Bi
theorem o_mul {h : Store} {i j : Int} (c : (-(2 ^ 64) < i ∧ i < 2 ^ 64) ∨ (-(2 ^ 64) < j ∧ j < 2 ^ 64)) : op2 .mul (.int i) (.int j) h = some (.ok (.int (i * j)), h) := by
  show chk _ _ h = _
  unfold chk; rw [if_pos c]; rfl
theorem o_mod {h : Store} {i j : Int} (c : 0 < j) : op2 .mod (.int i) (.int j) h = some (.ok (.int (i % j)), h) := by
  show chk _ _ h = _
  unfold chk; rw [if_pos c]; rfl
theorem o_fdiv {h : Store} {i j : Int} (c : 0 < j) (d : j < 1073741824) : op2 .fdiv (.int i) (.int j) h = some (.ok (.int (i / j)), h) := by
  show chk _ _ h = _
  unfold chk; rw [if_pos ⟨c, d⟩]; rfl
theorem o_pow {h : Store} : op2 .pow (.int 10) (.int 18) h = some (.ok (.int (10 ^ 18)), h) := by
  show chk _ _ h = _
  unfold chk; rw [if_pos (by decide)]; rfl
theorem set_last {h : Store} {o o' : O} : (h ++ [o]).set h.length o' = h ++ [o'] := by
  rw [List.set_append_right _ _ (Nat.le_refl _), Nat.sub_self]; rfl
abbrev intW (xs : List Nat) : List W := xs.map fun (k : Nat) => W.int (k : Int)
noncomputable abbrev numB (n : Nat) : W → Bi.Env → M (Fl × Bi.Env) := forF (Phi n) (.nm 5) [.ite (.b2 .ge (.v 3) (.b2 .pow (.c (.int 10)) (.c (.int 18)))) [.ex (.me .list .append (.v 4) [(.b2 .mod (.v 3) (.c (.int 1009)))]), .asg (.nm 3) (.b2 .fdiv (.v 3) (.c (.int 1009)))] [.asg (.nm 6) (.b2 .mod (.b2 .add (.b2 .add (.b2 .mul (.v 3) (.c (.int 48271))) (.b2 .mul (.b2 .add (.v 5) (.c (.int 1))) (.c (.int 69621)))) (.b2 .mul (.v 1) (.c (.int 4001)))) (.c (.int 2147483647))), .asg (.nm 6) (.b2 .mod (.b2 .add (.b2 .mul (.v 6) (.v 6)) (.b2 .mul (.c (.int 16807)) (.b2 .add (.v 5) (.c (.int 3))))) (.c (.int 2147483629))), .ex (.me .list .append (.v 4) [(.b2 .mod (.b2 .fdiv (.v 6) (.c (.int 7))) (.c (.int 1009)))])]]
theorem num_loop (n : Nat) {sc mn : W} {which : Int} {h : Store} : ∀ (m j : Nat) (a : Int) (outs : List Nat) (x5 x6 : Option W), outs.length + m ≤ 1000 → (∀ x ∈ outs, x < 1009) →
    ∃ b outs' y5 y6, forM none (numB n) (up j m) [some sc, some (.int which), some mn, some (.int a), some (.loc h.length), x5, x6] (h ++ [.lst (intW outs)]) = some (.ok (.nx, [some sc, some (.int which), some mn, some (.int b), some (.loc h.length), y5, y6]), h ++ [.lst (intW outs')]) ∧ outs'.length = outs.length + m ∧ (∀ x ∈ outs', x < 1009) := by
  intro m
  induction m with
  | zero => intro j a outs x5 x6 hz hb; exact ⟨a, outs, x5, x6, f_nil st0, rfl, hb⟩
  | succ m ih =>
    intro j a outs x5 x6 hz hb
    let g := h ++ [O.lst (intW outs)]
    have hg : g[h.length]? = some (.lst (intW outs)) := app_new
    have push : ∀ (v : Int), 0 ≤ v → v < 1009 → opn .append [.loc h.length, .int v] g = some (.ok .non, h ++ [.lst (intW (outs ++ [v.toNat]))]) ∧ (outs ++ [v.toNat]).length = outs.length + 1 ∧ (∀ x ∈ outs ++ [v.toNat], x < 1009) := by
      intro v h0 h1
      refine ⟨?_, by simp, fun x hx => ?_⟩
      · rw [o_app hg (Nat.lt_of_lt_of_le (show (intW outs).length < 2000 by simp; omega) (szl (by omega)))]
        show some (Rs.ok W.non, (h ++ [O.lst (intW outs)]).set h.length _) = _
        rw [set_last]
        congr 5
        unfold intW
        rw [List.map_append]
        show _ ++ [W.int v] = _ ++ [W.int ((v.toNat : Nat) : Int)]
        rw [show ((v.toNat : Nat) : Int) = v by omega]
      · rcases List.mem_append.mp hx with hx | hx
        · exact hb x hx
        · rw [List.mem_singleton.mp hx]; omega
    let ρ : Bi.Env := [some sc, some (.int which), some mn, some (.int a), some (.loc h.length), some (.int (j : Int)), x6]
    have ec : ev (Phi n) (.b2 .ge (.v 3) (.b2 .pow (.c (.int 10)) (.c (.int 18)))) ρ g = some (.ok (.bl (decide ((10 : Int) ^ 18 ≤ a))), g) := e_b2 (e_v rfl) (e_b2 e_c e_c o_pow) rfl
    by_cases hc : (10 : Int) ^ 18 ≤ a
    · obtain ⟨p1, p2, p3⟩ := push (a % 1009) (Int.emod_nonneg _ (by omega)) (Int.emod_lt_of_pos _ (by omega))
      obtain ⟨b, outs', y5, y6, e, r1, r2⟩ := ih (j + 1) (a / 1009) (outs ++ [(a % 1009).toNat]) (some (.int (j : Int))) x6 (by rw [p2]; omega) p3
      refine ⟨b, outs', y5, y6, f_cons st0 (forF_in (ρ' := ρ) rfl (b_one (x_ite1 ec (bT hc) ?_))) e, by rw [r1, p2]; omega, r2⟩
      refine b_cons (ρ' := ρ) (h1 := h ++ [.lst (intW (outs ++ [(a % 1009).toNat]))]) (x_ex (e_me (e_v rfl) (k_lst hg) (es_cons (e_b2 (e_v rfl) e_c (o_mod (by omega))) es_nil) p1)) ?_
      exact b_cons (ρ' := [some sc, some (.int which), some mn, some (.int (a / 1009)), some (.loc h.length), some (.int (j : Int)), x6]) (h1 := h ++ [.lst (intW (outs ++ [(a % 1009).toNat]))]) (x_asg (e_b2 (e_v rfl) e_c (o_fdiv (by omega) (by omega))) rfl) b_nil
    · let u : Int := (a * 48271 + ((j : Int) + 1) * 69621 + which * 4001) % 2147483647
      have u0 : 0 ≤ u := Int.emod_nonneg _ (by omega)
      have u1 : u < 2147483647 := Int.emod_lt_of_pos _ (by omega)
      let v : Int := (u * u + 16807 * ((j : Int) + 3)) % 2147483629
      obtain ⟨p1, p2, p3⟩ := push ((v / 7) % 1009) (Int.emod_nonneg _ (by omega)) (Int.emod_lt_of_pos _ (by omega))
      obtain ⟨b, outs', y5, y6, e, r1, r2⟩ := ih (j + 1) a (outs ++ [((v / 7) % 1009).toNat]) (some (.int (j : Int))) (some (.int v)) (by rw [p2]; omega) p3
      refine ⟨b, outs', y5, y6, f_cons st0 (forF_in (ρ' := ρ) rfl (b_one (x_ite0 ec (bF hc) ?_))) e, by rw [r1, p2]; omega, r2⟩
      refine b_cons (ρ' := [some sc, some (.int which), some mn, some (.int a), some (.loc h.length), some (.int (j : Int)), some (.int u)]) (h1 := g) (x_asg (e_b2 (e_b2 (e_b2 (e_b2 (e_v rfl) e_c (o_mul (.inr (by omega)))) (e_b2 (e_b2 (e_v rfl) e_c rfl) e_c (o_mul (.inr (by omega)))) rfl) (e_b2 (e_v rfl) e_c (o_mul (.inr (by omega)))) rfl) e_c (o_mod (by omega))) rfl) ?_
      refine b_cons (ρ' := [some sc, some (.int which), some mn, some (.int a), some (.loc h.length), some (.int (j : Int)), some (.int v)]) (h1 := g) (x_asg (e_b2 (e_b2 (e_b2 (e_v rfl) (e_v rfl) (o_mul (.inl (by omega)))) (e_b2 e_c (e_b2 (e_v rfl) e_c rfl) (o_mul (.inl (by omega)))) rfl) e_c (o_mod (by omega))) rfl) ?_
      exact b_cons (h1 := h ++ [.lst (intW (outs ++ [((v / 7) % 1009).toNat]))]) (x_ex (e_me (e_v rfl) (k_lst hg) (es_cons (e_b2 (e_b2 (e_v rfl) e_c (o_fdiv (by omega) (by omega))) e_c (o_mod (by omega))) es_nil) p1)) b_nil
theorem num_ok (n : Nat) {ns : List Int} {which many : Nat} {h : Store} (hm : many ≤ 100) : ∃ outs : List Nat, Phi (n + 1) 12 [.scr ns, .int (which : Int), .int (many : Int)] h = some (.ok (.loc h.length), h ++ [.lst (intW outs)]) ∧ outs.length = many ∧ (∀ x ∈ outs, x < 1009) := by
  let ρ0 : Int → Bi.Env := fun a => [some (.scr ns), some (.int (which : Int)), some (.int (many : Int)), some (.int a), none, none, none]
  -- the value it begins with
  obtain ⟨a, ha⟩ : ∃ a : Int, ∀ ss r, exs (Phi n) ss (ρ0 a) h = r → exs (Phi n) (.asg (.nm 3) (.b2 .mul (.c (.int 1000003)) (.b2 .add (.v 1) (.c (.int 1)))) :: .ite (.b2 .lt (.v 1) (.f1 .len (.v 0))) [.asg (.nm 3) (.f1 .int (.b2 .ix (.v 0) (.v 1)))] [] :: .ite (.b2 .lt (.v 3) (.c (.int 0))) [.asg (.nm 3) (.b2 .sub (.c (.int 1)) (.b2 .mul (.c (.int 2)) (.v 3)))] [] :: ss) [some (.scr ns), some (.int (which : Int)), some (.int (many : Int)), none, none, none, none] h = r := by
    obtain ⟨a1, h1⟩ : ∃ a : Int, ∀ ss r, exs (Phi n) ss (ρ0 a) h = r → exs (Phi n) (.asg (.nm 3) (.b2 .mul (.c (.int 1000003)) (.b2 .add (.v 1) (.c (.int 1)))) :: .ite (.b2 .lt (.v 1) (.f1 .len (.v 0))) [.asg (.nm 3) (.f1 .int (.b2 .ix (.v 0) (.v 1)))] [] :: ss) [some (.scr ns), some (.int (which : Int)), some (.int (many : Int)), none, none, none, none] h = r := by
      have e0 : ex (Phi n) (.asg (.nm 3) (.b2 .mul (.c (.int 1000003)) (.b2 .add (.v 1) (.c (.int 1))))) [some (.scr ns), some (.int (which : Int)), some (.int (many : Int)), none, none, none, none] h = some (.ok (.nx, ρ0 (1000003 * ((which : Int) + 1))), h) :=
        x_asg (e_b2 e_c (e_b2 (e_v rfl) e_c rfl) (o_mul (.inl (by omega)))) rfl
      have e1 : ev (Phi n) (.b2 .lt (.v 1) (.f1 .len (.v 0))) (ρ0 (1000003 * ((which : Int) + 1))) h = some (.ok (.bl (decide ((which : Int) < (ns.length : Int)))), h) := e_b2 (e_v rfl) (e_f1 (e_v rfl) rfl) rfl
      by_cases hw : which < ns.length
      · refine ⟨ns[which], fun ss r k => b_cons e0 (b_cons (ρ' := ρ0 ns[which]) (x_ite1 e1 (bT (by omega)) ?_) k)⟩
        refine b_cons (ρ' := ρ0 ns[which]) (h1 := h) (x_asg (e_f1 (x := .int ns[which]) (h1 := h) (e_b2 (e_v rfl) (e_v rfl) ?_) rfl) rfl) b_nil
        show ofO (atI (ns.map W.int) (which : Int)) h = _
        rw [atI_nat (v := W.int ns[which]) (by rw [List.getElem?_map, List.getElem?_eq_getElem hw]; rfl)]; rfl
      · exact ⟨_, fun ss r k => b_cons e0 (b_cons (x_ite0 e1 (bF (by omega)) b_nil) k)⟩
    have e1 : ev (Phi n) (.b2 .lt (.v 3) (.c (.int 0))) (ρ0 a1) h = some (.ok (.bl (decide (a1 < 0))), h) := e_b2 (e_v rfl) e_c rfl
    by_cases hw : a1 < 0
    · refine ⟨1 - 2 * a1, fun ss r k => h1 _ _ (b_cons (ρ' := ρ0 (1 - 2 * a1)) (x_ite1 e1 (bT hw) ?_) k)⟩
      exact b_cons (ρ' := ρ0 (1 - 2 * a1)) (h1 := h) (x_asg (e_b2 e_c (e_b2 e_c (e_v rfl) (o_mul (.inl (by omega)))) rfl) rfl) b_nil
    · exact ⟨a1, fun ss r k => h1 _ _ (b_cons (x_ite0 e1 (bF hw) b_nil) k)⟩
  obtain ⟨b, outs, y5, y6, e, r1, r2⟩ := num_loop n (sc := .scr ns) (mn := .int (many : Int)) (which := (which : Int)) (h := h) many 0 a [] none none (by simp; omega) (fun _ h => nomatch h)
  refine ⟨outs, ?_, by rw [r1]; simp, r2⟩
  show runD (Phi n) ir__law_numbers 7 [.scr ns, .int (which : Int), .int (many : Int)] h = _
  refine d_ret (ρ' := [some (.scr ns), some (.int (which : Int)), some (.int (many : Int)), some (.int b), some (.loc h.length), y5, y6]) ?_
  refine ha _ _ ?_
  refine b_cons (ρ' := [some (.scr ns), some (.int (which : Int)), some (.int (many : Int)), some (.int a), some (.loc h.length), none, none]) (h1 := h ++ [.lst []]) (x_asg (e_lst es_nil (szw rfl)) rfl) ?_
  exact b_cons (h1 := h ++ [.lst (intW outs)]) (x_for (ws := [.int (many : Int)]) (h1 := h ++ [.lst []]) (es_cons (e_v rfl) es_nil) (i_up (by omega)) e) (b_ret (x_ret (e_v rfl)))
end Lw
set_option maxHeartbeats 4000000
namespace Lw
open PySem L2 Bi
abbrev ABC : Str := "abcdefghijklmnopqrstuvwxyz"
theorem abc_all : ABC.cps.toList.length = 26 ∧ (ABC.cps.toList.all fun c => decide (c < 0x110000)) = true := by decide
theorem len_app (a b : Str) : (a ++ b).length = a.length + b.length := by
  show (a.cps ++ b.cps).size = _
  rw [Array.size_append]; rfl
theorem ok_app {a b : Str} (ha : PyData.strOk a = true) (hb : PyData.strOk b = true) : PyData.strOk (a ++ b) = true := by
  unfold PyData.strOk at *
  show (a.cps ++ b.cps).all _ = true
  rw [Array.all_append, ha, hb]; rfl
theorem o_abc {h : Store} {k : Nat} (hk : k < 26) : ∃ s : Str, op2 .ix (.str ABC) (.int (k : Int)) h = some (.ok (.str s), h) ∧ PyData.strOk s = true ∧ s.length = 1 := by
  have hl : k < ABC.cps.toList.length := by rw [abc_all.1]; exact hk
  refine ⟨⟨#[ABC.cps.toList[k]]⟩, ?_, ?_, rfl⟩
  · show chk _ _ h = _
    unfold chk
    rw [if_pos (szl (by show ABC.cps.size ≤ _; rw [← Array.length_toList, abc_all.1]; omega)), atI_nat (List.getElem?_eq_getElem hl)]
    rfl
  · have := List.all_eq_true.mp abc_all.2 _ (List.getElem_mem hl)
    show (#[ABC.cps.toList[k]] : Array Nat).all _ = true
    simpa using this
theorem o_cats {h : Store} {a b : Str} (hz : a.length + b.length ≤ 1000) : op2 .add (.str a) (.str b) h = some (.ok (.str (a ++ b)), h) := by
  show chk _ _ h = _
  unfold chk; rw [if_pos (szl (by omega))]; rfl
theorem i_abc {c : Nat} {outs : List Nat} {g : Store} {k : Nat} (e : g[c]? = some (.lst (intW outs))) (hk : k < outs.length) : op2 .ix (.loc c) (.int (k : Int)) g = some (.ok (.int (outs[k] : Int)), g) :=
  o_ix e (atI_nat (by rw [List.getElem?_map, List.getElem?_eq_getElem hk]; rfl))
/-- a good text of at most so many letters -/
def Gl (n : Nat) (s : Str) : Prop := PyData.strOk s = true ∧ s.length ≤ n
noncomputable abbrev inB (n : Nat) : W → Bi.Env → M (Fl × Bi.Env) := forF (Phi n) (.nm 8) [.asg (.nm 7) (.b2 .add (.v 7) (.b2 .ix (.v 3) (.b2 .mod (.b2 .add (.b2 .ix (.v 4) (.b2 .add (.b2 .mul (.c (.int 3)) (.v 6)) (.c (.int 2)))) (.b2 .mul (.c (.int 5)) (.v 8))) (.c (.int 26)))))]
theorem in_loop (n : Nat) {a b c d : W} {c4 k : Nat} {outs : List Nat} {g : Store} (h4 : g[c4]? = some (.lst (intW outs))) (hk : 3 * k + 2 < outs.length) : ∀ (m j : Nat) (s : Str) (x8 : Option W), Gl (j + 1) s → j + m ≤ 100 →
    ∃ s' y8, forM none (inB n) (up j m) [some a, some b, some c, some (.str ABC), some (.loc c4), some d, some (.int (k : Int)), some (.str s), x8] g = some (.ok (.nx, [some a, some b, some c, some (.str ABC), some (.loc c4), some d, some (.int (k : Int)), some (.str s'), y8]), g) ∧ Gl (j + m + 1) s' := by
  intro m
  induction m with
  | zero => intro j s x8 hs hz; exact ⟨s, x8, f_nil st0, hs⟩
  | succ m ih =>
    intro j s x8 hs hz
    have hv : ((outs[3 * k + 2] : Int) + 5 * (j : Int)) % 26 = (((outs[3 * k + 2] + 5 * j) % 26 : Nat) : Int) := by omega
    obtain ⟨s1, e1, o1, l1⟩ := o_abc (h := g) (k := (outs[3 * k + 2] + 5 * j) % 26) (Nat.mod_lt _ (by omega))
    obtain ⟨s', y8, e, r⟩ := ih (j + 1) (s ++ s1) (some (.int (j : Int))) ⟨ok_app hs.1 o1, by rw [len_app]; have := hs.2; omega⟩ (by omega)
    refine ⟨s', y8, f_cons (ρ' := [some a, some b, some c, some (.str ABC), some (.loc c4), some d, some (.int (k : Int)), some (.str (s ++ s1)), some (.int (j : Int))]) (h1 := g) st0 (forF_in (ρ' := [some a, some b, some c, some (.str ABC), some (.loc c4), some d, some (.int (k : Int)), some (.str s), some (.int (j : Int))]) rfl ?_) e, by rw [show j + (m + 1) + 1 = j + 1 + m + 1 by omega]; exact r⟩
    refine b_cons (ρ' := [some a, some b, some c, some (.str ABC), some (.loc c4), some d, some (.int (k : Int)), some (.str (s ++ s1)), some (.int (j : Int))]) (h1 := g) (x_asg (w := .str (s ++ s1)) (e_b2 (x := .str s) (y := .str s1) (h1 := g) (h2 := g) (e_v rfl) (e_b2 (x := .str ABC) (y := .int (((outs[3 * k + 2] + 5 * j) % 26 : Nat) : Int)) (h1 := g) (h2 := g) (e_v rfl) (e_b2 (x := .int ((outs[3 * k + 2] : Int) + 5 * (j : Int))) (y := .int 26) (h2 := g) (e_b2 (x := .int (outs[3 * k + 2] : Int)) (y := .int (5 * (j : Int))) (h1 := g) (h2 := g) (e_b2 (x := .loc c4) (y := .int ((3 * k + 2 : Nat) : Int)) (h1 := g) (h2 := g) (e_v rfl) (e_b2 (x := .int (3 * (k : Int))) (y := .int 2) (h2 := g) (e_b2 e_c (e_v rfl) (o_mul (.inl (by omega)))) e_c rfl) (i_abc h4 hk)) (e_b2 e_c (e_v rfl) (o_mul (.inl (by omega)))) rfl) e_c (by rw [o_mod (by omega), hv])) e1) (o_cats (by have := hs.2; omega))) rfl) b_nil
def kvOk (kvs : List (Key × W)) : Prop := ∀ kv ∈ kvs, ∃ s, kv.1 = Sum.inr s ∧ PyData.strOk s = true
theorem putA_ok {kvs : List (Key × W)} {s : Str} {w : W} (hk : kvOk kvs) (hs : PyData.strOk s = true) : kvOk (putA kvs (Sum.inr s) w) ∧ putA kvs (Sum.inr s) w ≠ [] := by
  unfold putA
  split
  · rename_i h
    refine ⟨fun kv hkv => ?_, ?_⟩
    · obtain ⟨x, hx, rfl⟩ := List.mem_map.mp hkv
      split
      · exact hk x hx
      · exact hk x hx
    · intro z
      rw [List.map_eq_nil_iff] at z
      rw [z] at h; cases h
  · refine ⟨fun kv hkv => ?_, by simp⟩
    rcases List.mem_append.mp hkv with h | h
    · exact hk kv h
    · rw [List.mem_singleton.mp h]; exact ⟨s, rfl, hs⟩
theorem o_putK {h : Store} {d : Nat} {kvs : List (Key × W)} {s : Str} {w : W} (hd : h[d]? = some (.dk kvs)) (hz : kvs.length ≤ 1000) : putD (.loc d) (.str s) w h = some (.ok (), h.set d (.dk (putA kvs (Sum.inr s) w))) := by
  show (h[d]?.bind fun o => (dput o (.str s) w).map fun o' => (Rs.ok (), h.set d o')) = _
  rw [hd]
  show ((if kvs.length < sizeLine then some (O.dk (putA kvs (Sum.inr s) w)) else none).map fun o' => (Rs.ok (), h.set d o')) = _
  rw [if_pos (Nat.lt_of_lt_of_le (show kvs.length < 1001 by omega) (szl (by omega)))]; rfl
theorem pick5 {h : Store} (k : Nat) : ∃ r : Nat, r ≤ 7 ∧ op2 .ix (.loc h.length) (.int (((k % 5 : Nat)) : Int)) (h ++ [.lst [.int 0, .int 0, .int 1, .int 2, .int 7]]) = some (.ok (.int (r : Int)), h ++ [.lst [.int 0, .int 0, .int 1, .int 2, .int 7]]) := by
  have hk : k % 5 < 5 := Nat.mod_lt _ (by omega)
  have key : ∀ j, j < 5 → ∃ r : Nat, r ≤ 7 ∧ ([.int 0, .int 0, .int 1, .int 2, .int 7] : List W)[j]? = some (.int (r : Int)) := by
    intro j hj
    match j, hj with
    | 0, _ => exact ⟨0, by omega, rfl⟩
    | 1, _ => exact ⟨0, by omega, rfl⟩
    | 2, _ => exact ⟨1, by omega, rfl⟩
    | 3, _ => exact ⟨2, by omega, rfl⟩
    | 4, _ => exact ⟨7, by omega, rfl⟩
  obtain ⟨r, h1, h2⟩ := key _ hk
  exact ⟨r, h1, o_ix app_new (atI_nat h2)⟩
noncomputable abbrev labB (n : Nat) : W → Bi.Env → M (Fl × Bi.Env) := forF (Phi n) (.nm 6) [.asg (.nm 7) (.b2 .ix (.v 3) (.b2 .mod (.b2 .ix (.v 4) (.b2 .mul (.c (.int 3)) (.v 6))) (.c (.int 26)))), .for_ (.nm 8) .rg1 [(.b2 .ix (.lst [(.c (.int 0)), (.c (.int 0)), (.c (.int 1)), (.c (.int 2)), (.c (.int 7))]) (.b2 .mod (.b2 .ix (.v 4) (.b2 .add (.b2 .mul (.c (.int 3)) (.v 6)) (.c (.int 1)))) (.c (.int 5))))] [.asg (.nm 7) (.b2 .add (.v 7) (.b2 .ix (.v 3) (.b2 .mod (.b2 .add (.b2 .ix (.v 4) (.b2 .add (.b2 .mul (.c (.int 3)) (.v 6)) (.c (.int 2)))) (.b2 .mul (.c (.int 5)) (.v 8))) (.c (.int 26)))))], .ite (.b2 .inn (.v 7) (.tup [(.c (.str "and")), (.c (.str "or")), (.c (.str "not"))])) [.asg (.nm 7) (.b2 .add (.v 7) (.c (.str "x")))] [], .stoD (.v 5) (.v 7) (.c (.bl true))]
theorem lab_loop (n : Nat) {a b c : W} {c4 d : Nat} {outs : List Nat} {h0 : Store} (h4 : h0[c4]? = some (.lst (intW outs))) (hd0 : h0.length ≤ d) : ∀ (m j : Nat) (kvs : List (Key × W)) (g : Store) (x6 x7 x8 : Option W), 3 * (j + m) ≤ outs.length → j + m ≤ 100 → Ext h0 g → g[d]? = some (.dk kvs) → kvOk kvs → kvs.length ≤ j → (0 < j → kvs ≠ []) →
    ∃ g' kvs' y6 y7 y8, forM none (labB n) (up j m) [some a, some b, some c, some (.str ABC), some (.loc c4), some (.loc d), x6, x7, x8] g = some (.ok (.nx, [some a, some b, some c, some (.str ABC), some (.loc c4), some (.loc d), y6, y7, y8]), g') ∧ Ext h0 g' ∧ g'[d]? = some (.dk kvs') ∧ kvOk kvs' ∧ kvs'.length ≤ j + m ∧ (0 < j + m → kvs' ≠ []) := by
  intro m
  induction m with
  | zero => intro j kvs g x6 x7 x8 hz hz2 E hd hk hl hn; exact ⟨g, kvs, x6, x7, x8, f_nil st0, E, hd, hk, hl, hn⟩
  | succ m ih =>
    intro j kvs g x6 x7 x8 hz hz2 E hd hk hl hn
    have hv : ((outs[3 * j]'(by omega) : Int)) % 26 = ((outs[3 * j]'(by omega) % 26 : Nat) : Int) := by omega
    obtain ⟨s1, e1, o1, l1⟩ := o_abc (h := g) (k := outs[3 * j]'(by omega) % 26) (Nat.mod_lt _ (by omega))
    obtain ⟨r, hr, er⟩ := pick5 (h := g) (outs[3 * j + 1]'(by omega))
    let g1 := g ++ [O.lst [.int 0, .int 0, .int 1, .int 2, .int 7]]
    have E1 : Ext h0 g1 := E.trans Ext.app
    obtain ⟨s2, y8, e2, gl2⟩ := in_loop n (a := a) (b := b) (c := c) (d := .loc d) (c4 := c4) (k := j) (E1 _ _ h4) (by omega) r 0 s1 x8 ⟨o1, by omega⟩ (by omega)
    let ρ : Str → Bi.Env := fun s => [some a, some b, some c, some (.str ABC), some (.loc c4), some (.loc d), some (.int (j : Int)), some (.str s), y8]
    have hd1 : g1[d]? = some (.dk kvs) := app_lt hd
    have hin : ∃ t, ev (Phi n) (.b2 .inn (.v 7) (.tup [(.c (.str "and")), (.c (.str "or")), (.c (.str "not"))])) (ρ s2) g1 = some (.ok (.bl t), g1) := ⟨_, e_b2 (e_v rfl) (e_tup (es_cons e_c (es_cons e_c (es_cons e_c es_nil))) (szw rfl)) rfl⟩
    obtain ⟨s3, gl3, e3⟩ : ∃ s3, Gl 20 s3 ∧ ex (Phi n) (.ite (.b2 .inn (.v 7) (.tup [(.c (.str "and")), (.c (.str "or")), (.c (.str "not"))])) [.asg (.nm 7) (.b2 .add (.v 7) (.c (.str "x")))] []) (ρ s2) g1 = some (.ok (.nx, ρ s3), g1) := by
      obtain ⟨t, et⟩ := hin
      have hx : ("x" : Str).length = 1 := by decide
      cases t with
      | true =>
        refine ⟨s2 ++ "x", ⟨ok_app gl2.1 (by unfold PyData.strOk; rw [← Array.all_toList]; decide), by rw [len_app]; have := gl2.2; omega⟩, x_ite1 et rfl ?_⟩
        exact b_cons (ρ' := ρ (s2 ++ "x")) (h1 := g1) (x_asg (e_b2 (e_v rfl) e_c (o_cats (by have := gl2.2; omega))) rfl) b_nil
      | false => exact ⟨s2, ⟨gl2.1, by have := gl2.2; omega⟩, x_ite0 et rfl b_nil⟩
    obtain ⟨q1, q2⟩ := putA_ok (w := .bl true) hk gl3.1
    have hpl := putA_len kvs (Sum.inr s3 : Key) (.bl true)
    let g2 := g1.set d (.dk (putA kvs (Sum.inr s3) (.bl true)))
    obtain ⟨g', kvs', y6, y7, y8', e, E', r1, r2, r3, r4⟩ := ih (j + 1) (putA kvs (Sum.inr s3) (.bl true)) g2 (some (.int (j : Int))) (some (.str s3)) y8 (by omega) (by omega) (E1.set hd0) (set_at (lt_of hd1)) q1 (by omega) (fun _ => q2)
    refine ⟨g', kvs', y6, y7, y8', f_cons (ρ' := ρ s3) (h1 := g2) st0 (forF_in (ρ' := [some a, some b, some c, some (.str ABC), some (.loc c4), some (.loc d), some (.int (j : Int)), x7, x8]) rfl ?_) e, E', r1, r2, by omega, fun _ => r4 (by omega)⟩
    refine b_cons (ρ' := [some a, some b, some c, some (.str ABC), some (.loc c4), some (.loc d), some (.int (j : Int)), some (.str s1), x8]) (h1 := g) (x_asg (e_b2 (x := .str ABC) (y := .int ((outs[3 * j]'(by omega) % 26 : Nat) : Int)) (h1 := g) (h2 := g) (e_v rfl) (e_b2 (x := .int (outs[3 * j]'(by omega) : Int)) (y := .int 26) (h1 := g) (h2 := g) (e_b2 (x := .loc c4) (y := .int ((3 * j : Nat) : Int)) (h1 := g) (h2 := g) (e_v rfl) (e_b2 e_c (e_v rfl) (o_mul (.inl (by omega)))) (i_abc (E _ _ h4) (by omega))) e_c (by rw [o_mod (by omega), hv])) e1) rfl) ?_
    refine b_cons (ρ' := ρ s2) (h1 := g1) (x_for (ws := [.int (r : Int)]) (h1 := g1) (es_cons (e_b2 (x := .loc g.length) (y := .int ((outs[3 * j + 1]'(by omega) % 5 : Nat) : Int)) (h1 := g1) (h2 := g1) (e_lst (es_cons e_c (es_cons e_c (es_cons e_c (es_cons e_c (es_cons e_c es_nil))))) (szw rfl)) (e_b2 (x := .int (outs[3 * j + 1]'(by omega) : Int)) (y := .int 5) (h1 := g1) (h2 := g1) (e_b2 (x := .loc c4) (y := .int ((3 * j + 1 : Nat) : Int)) (h1 := g1) (h2 := g1) (e_v rfl) (e_b2 (x := .int (3 * (j : Int))) (y := .int 1) (h2 := g1) (e_b2 e_c (e_v rfl) (o_mul (.inl (by omega)))) e_c rfl) (i_abc (E1 _ _ h4) (by omega))) e_c (by rw [o_mod (by omega)]; congr 3)) er) es_nil) (i_up (by omega)) e2) ?_
    refine b_cons (ρ' := ρ s3) (h1 := g1) e3 ?_
    exact b_cons (ρ' := ρ s3) (h1 := g2) (x_stoD e_c (e_v rfl) (e_v rfl) (o_putK hd1 (by omega))) b_nil
theorem insS_mem {x y : Str} : ∀ {l : List Str}, y ∈ insS x l ↔ y = x ∨ y ∈ l
  | [] => by simp [insS]
  | z :: r => by
    rw [insS]
    split
    · rw [List.mem_cons, insS_mem (l := r), List.mem_cons]
      constructor
      · rintro (h | h | h)
        · exact .inr (.inl h)
        · exact .inl h
        · exact .inr (.inr h)
      · rintro (h | h | h)
        · exact .inr (.inl h)
        · exact .inl h
        · exact .inr (.inr h)
    · rw [List.mem_cons]
theorem sortS_mem {y : Str} : ∀ {l : List Str}, y ∈ sortS l ↔ y ∈ l
  | [] => by simp [sortS]
  | z :: r => by rw [sortS, insS_mem, sortS_mem (l := r), List.mem_cons]
theorem insS_len (x : Str) : ∀ l : List Str, (insS x l).length = l.length + 1
  | [] => rfl
  | z :: r => by
    rw [insS]
    split
    · rw [List.length_cons, insS_len x r, List.length_cons]
    · rw [List.length_cons]
theorem sortS_len : ∀ l : List Str, (sortS l).length = l.length
  | [] => rfl
  | z :: r => by rw [sortS, insS_len, sortS_len r, List.length_cons]
theorem keys_strs : ∀ kvs : List (Key × W), kvOk kvs → ∃ ss : List Str, strsW (kvs.map fun p => wKey p.1) = some ss ∧ ss.length = kvs.length ∧ ∀ s ∈ ss, PyData.strOk s = true
  | [], _ => ⟨[], rfl, rfl, fun _ h => nomatch h⟩
  | kv :: kvs, h => by
    obtain ⟨ss, e, l, q⟩ := keys_strs kvs fun x hx => h x (List.mem_cons_of_mem _ hx)
    obtain ⟨s, e1, q1⟩ := h kv List.mem_cons_self
    refine ⟨s :: ss, ?_, by rw [List.length_cons, l, List.length_cons], fun x hx => ?_⟩
    · rw [List.map_cons, e1]
      show (strsW (kvs.map fun p => wKey p.1)).map _ = _
      rw [e]; rfl
    · rcases List.mem_cons.mp hx with rfl | hx
      · exact q1
      · exact q x hx
theorem lab_ok (n : Nat) {ns : List Int} {which many : Nat} {h : Store} (hm0 : 0 < many) (hm : many ≤ 10) : ∃ (h' : Store) (r : Nat) (labs : List Str), Phi (n + 2) 13 [.scr ns, .int (which : Int), .int (many : Int)] h = some (.ok (.loc r), h') ∧ Ext h h' ∧ h'[r]? = some (.lst (labs.map W.str)) ∧ labs ≠ [] ∧ labs.length ≤ many ∧ (∀ s ∈ labs, PyData.strOk s = true) := by
  obtain ⟨outs, e1, l1, b1⟩ := num_ok n (ns := ns) (which := which) (many := 30) (h := h) (by omega)
  let h1 := h ++ [O.lst (intW outs)]
  obtain ⟨g', kvs, y6, y7, y8, e2, E2, r1, r2, r3, r4⟩ := lab_loop (n + 1) (a := .scr ns) (b := .int (which : Int)) (c := .int (many : Int)) (c4 := h.length) (d := h1.length) (h0 := h1) (outs := outs) app_new (Nat.le_refl _) many 0 [] (h1 ++ [.dk []]) none none none (by omega) (by omega) Ext.app app_new (fun _ h => nomatch h) (Nat.le_refl _) (fun h => absurd h (by omega))
  obtain ⟨ss, k1, k2, k3⟩ := keys_strs kvs r2
  let g1 := g' ++ [O.lst (kvs.map fun p => wKey p.1)]
  refine ⟨g1 ++ [.lst ((sortS ss).map W.str)], g1.length, sortS ss, ?_, ((((Ext.app (h := h)).trans E2).trans Ext.app).trans Ext.app), app_new, ?_, by rw [sortS_len, k2]; omega, fun s hs => k3 s (sortS_mem.mp hs)⟩
  · show runD (Phi (n + 1)) ir__law_labels 9 [.scr ns, .int (which : Int), .int (many : Int)] h = _
    refine d_ret (ρ' := [some (.scr ns), some (.int (which : Int)), some (.int (many : Int)), some (.str ABC), some (.loc h.length), some (.loc h1.length), y6, y7, y8]) ?_
    refine b_cons (ρ' := [some (.scr ns), some (.int (which : Int)), some (.int (many : Int)), some (.str ABC), none, none, none, none, none]) (h1 := h) (x_asg e_c rfl) ?_
    refine b_cons (ρ' := [some (.scr ns), some (.int (which : Int)), some (.int (many : Int)), some (.str ABC), some (.loc h.length), none, none, none, none]) (h1 := h1) (x_asg (e_call (es_cons (e_v rfl) (es_cons (e_v rfl) (es_cons e_c es_nil))) e1) rfl) ?_
    refine b_cons (ρ' := [some (.scr ns), some (.int (which : Int)), some (.int (many : Int)), some (.str ABC), some (.loc h.length), some (.loc h1.length), none, none, none]) (h1 := h1 ++ [.dk []]) (x_asg e_dnewK rfl) ?_
    refine b_cons (h1 := g') (x_for (ws := [.int (many : Int)]) (h1 := h1 ++ [.dk []]) (es_cons (e_v rfl) es_nil) (i_up (by omega)) e2) ?_
    refine b_ret (x_ret (e_f1 (x := .loc g'.length) (h1 := g1) (e_f1 (x := .loc h1.length) (h1 := g') (e_v rfl) ?_) ?_))
    · show (match g'[h1.length]? with
        | some (O.dk kvs) => alloc (O.lst (kvs.map fun (p : Key × W) => wKey p.1)) g'
        | _ => none) = _
      rw [r1]; rfl
    · show ((lstAt g1 g'.length).bind strsW).bind (fun ss => if ss.length < 64 then alloc (O.lst ((sortS ss).map W.str)) g1 else none) = _
      unfold lstAt
      rw [show g1[g'.length]? = some (.lst (kvs.map fun p => wKey p.1)) from app_new]
      show (strsW (kvs.map fun p => wKey p.1)).bind _ = _
      rw [k1]
      show (if ss.length < 64 then alloc (O.lst ((sortS ss).map W.str)) g1 else none) = _
      rw [if_pos (by omega)]; rfl
  · intro z
    have := sortS_len ss
    rw [z, k2] at this
    exact r4 (by omega) (List.length_eq_zero_iff.mp this.symm)
end Lw
set_option maxHeartbeats 4000000
namespace Lw
open PySem L2 Bi
def ndW (ls : Nat → Str) (b k : Nat) : W := .tup [.str (ls k), .loc (b + k)]
def kidsF (p : Nat → Nat) (m i : Nat) : List Nat := (List.range m).filter fun k => decide (0 < k ∧ p k = i)
theorem kidsF_mem {p : Nat → Nat} {m i k : Nat} : k ∈ kidsF p m i ↔ k < m ∧ 0 < k ∧ p k = i := by
  unfold kidsF
  rw [List.mem_filter, List.mem_range, decide_eq_true_iff]
theorem kidsF_succ {p : Nat → Nat} {m i : Nat} : kidsF p (m + 1) i = kidsF p m i ++ if 0 < m ∧ p m = i then [m] else [] := by
  unfold kidsF
  rw [List.range_succ, List.filter_append, List.filter_cons]
  by_cases h : 0 < m ∧ p m = i
  · rw [if_pos h, if_pos (decide_eq_true h)]; rfl
  · rw [if_neg h, if_neg (by rw [decide_eq_false h]; decide)]; rfl
/-- the tree of parents -/
def trL (ls : Nat → Str) (b : Nat) (p : Nat → Nat) (N : Nat) : Nat → Nat → LT
  | 0, i => .nd (ls i) (b + i) []
  | f + 1, i => .nd (ls i) (b + i) ((kidsF p N i).map (trL ls b p N f))
theorem trL_w (ls : Nat → Str) (b : Nat) (p : Nat → Nat) (N : Nat) : ∀ f i, (trL ls b p N f i).w = ndW ls b i
  | 0, i => rfl
  | f + 1, i => rfl
section
variable {ls : Nat → Str} {b N : Nat} {p : Nat → Nat} (hp : ∀ k, 0 < k → k < N → p k < k)
include hp
theorem trL_in {g : Store} (hg : ∀ i, i < N → g[b + i]? = some (.lst ((kidsF p N i).map (ndW ls b)))) : ∀ f i, i < N → N ≤ i + f → In g (trL ls b p N f i)
  | 0, i, h1, h2 => by omega
  | f + 1, i, h1, h2 => by
    rw [trL]
    refine .nd ?_ fun t ht => ?_
    · rw [hg i h1, List.map_map]
      congr 2
      exact List.map_congr_left fun k _ => (trL_w ls b p N f k).symm
    · obtain ⟨k, hk, rfl⟩ := List.mem_map.mp ht
      obtain ⟨a1, a2, a3⟩ := kidsF_mem.mp hk
      have := hp k a2 a1
      exact trL_in hg f k a1 (by omega)
theorem trL_lev : ∀ f i, i < N → (trL ls b p N f i).er.lev ≤ N - i
  | 0, i, h1 => by rw [trL, er_nd, Tr.lev]; show 0 + 1 ≤ _; omega
  | f + 1, i, h1 => by
    rw [trL, er_nd, Tr.lev]
    have : Tr.levL (((kidsF p N i).map (trL ls b p N f)).map LT.er) ≤ N - i - 1 := levL_le fun t ht => by
      obtain ⟨x, hx, rfl⟩ := List.mem_map.mp ht
      obtain ⟨k, hk, rfl⟩ := List.mem_map.mp hx
      obtain ⟨a1, a2, a3⟩ := kidsF_mem.mp hk
      have := hp k a2 a1
      have := trL_lev f k a1
      omega
    omega
theorem sum_bound {i : Nat} {F : Nat → Tr} (hi : i < N) (hF : ∀ k, i < k → k < N → (F k).siz ≤ 2 ^ (N - 1 - k)) : ∀ m, m ≤ N → i < m → Tr.sizL ((kidsF p m i).map F) + 2 ^ (N - m) ≤ 2 ^ (N - 1 - i)
  | 0, _, h => by omega
  | m + 1, h1, h2 => by
    rw [kidsF_succ, List.map_append, sizL_app]
    by_cases e : i = m
    · subst e
      have z : kidsF p i i = [] := by
        unfold kidsF
        rw [List.filter_eq_nil_iff]
        intro k hk q
        rw [List.mem_range] at hk
        have q := of_decide_eq_true q
        have := hp k q.1 (by omega)
        omega
      rw [z]
      by_cases h : 0 < i ∧ p i = i
      · have := hp i h.1 hi
        omega
      · rw [if_neg h]
        show 0 + 0 + 2 ^ (N - (i + 1)) ≤ _
        rw [show N - (i + 1) = N - 1 - i by omega]; omega
    · have ih := sum_bound hi hF m (by omega) (by omega)
      have hm := hF m (by omega) (by omega)
      have h2p : 2 ^ (N - m) = 2 * 2 ^ (N - 1 - m) := by
        rw [show N - m = (N - 1 - m) + 1 by omega, Nat.pow_succ]; omega
      have : Tr.sizL ((if 0 < m ∧ p m = i then [m] else []).map F) ≤ 2 ^ (N - 1 - m) := by
        by_cases h : 0 < m ∧ p m = i
        · rw [if_pos h]
          show (F m).siz + 0 ≤ _
          omega
        · rw [if_neg h]; exact Nat.zero_le _
      rw [show N - (m + 1) = N - 1 - m by omega]
      omega
theorem trL_siz : ∀ f i, i < N → (trL ls b p N f i).er.siz ≤ 2 ^ (N - 1 - i)
  | 0, i, h1 => by rw [trL, er_nd, Tr.siz]; show 0 + 1 ≤ _; exact Nat.one_le_two_pow
  | f + 1, i, h1 => by
    rw [trL, er_nd, Tr.siz, List.map_map]
    have := sum_bound hp (F := LT.er ∘ trL ls b p N f) h1 (fun k _ h => trL_siz f k h) N (Nat.le_refl _) h1
    have h0 : 2 ^ (N - N) = 1 := by rw [Nat.sub_self, Nat.pow_zero]
    omega
omit hp in
theorem trL_good (hg : ∀ i, PyData.strOk (ls i) = true) : ∀ f i, (trL ls b p N f i).er.good = true
  | 0, i => by rw [trL, er_nd]; exact good_nd.mpr ⟨hg i, fun _ h => nomatch h⟩
  | f + 1, i => by
    rw [trL, er_nd]
    refine good_nd.mpr ⟨hg i, fun t ht => ?_⟩
    obtain ⟨x, hx, rfl⟩ := List.mem_map.mp ht
    obtain ⟨k, hk, rfl⟩ := List.mem_map.mp hx
    exact trL_good hg f k
end
noncomputable abbrev treE : E := .tup [(.b2 .ix (.v 2) (.b2 .mod (.b2 .ix (.v 4) (.b2 .add (.c (.int 30)) (.v 7))) (.f1 .len (.v 2)))), (.lst [])]
theorem tree_comp (n : Nat) {ls : Nat → Str} {ρ7 : Bi.Env} {h : Store} {N : Nat} (he : ∀ k g, k < N → Ext h g → ev (Phi n) treE (ρ7 ++ [some (.int (k : Int))]) g = some (.ok (.tup [.str (ls k), .loc g.length]), g ++ [.lst []])) (h7 : ρ7.length = 7) : ∀ (m k : Nat) (acc : List W), k + m = N → acc.length = k → N ≤ 1000 →
    compM none (lcF (Phi n) [7] (.nm 7) [] treE (ρ7 ++ [none])) (up k m) acc (h ++ List.replicate k (.lst [])) = some (.ok (acc ++ (List.range' k m).map (ndW ls h.length)), h ++ List.replicate N (.lst []))
  | 0, k, acc, h1, h2, h3 => by
    rw [show k = N by omega, List.range'_zero, List.map_nil, List.append_nil]
    exact c_nil st0 (szl (by omega))
  | m + 1, k, acc, h1, h2, h3 => by
    rw [up]
    have e := he k (h ++ List.replicate k (.lst [])) (by omega) Ext.app
    have hl : (h ++ List.replicate k (O.lst [])).length = h.length + k := by simp
    have hs : h ++ List.replicate k (O.lst []) ++ [O.lst []] = h ++ List.replicate (k + 1) (O.lst []) := by rw [List.append_assoc, ← List.replicate_succ']
    rw [hl, hs] at e
    refine c_cons st0 (lcF_in (ρ' := ρ7 ++ [some (.int (k : Int))]) ?_ t_nil e) ?_
    · show some (((ρ7 ++ [none]).set 7 none).set 7 _) = _
      rw [List.set_append_right _ _ (by omega), List.set_append_right _ _ (by omega), h7]; rfl
    · rw [tree_comp n he h7 m (k + 1) (acc ++ [W.tup [W.str (ls k), W.loc (h.length + k)]]) (by omega) (by simp [h2]) h3]
      rw [List.range'_succ, List.map_cons, List.append_assoc]; rfl
noncomputable abbrev treB (n : Nat) : W → Bi.Env → M (Fl × Bi.Env) := forF (Phi n) (.nm 7) [.ex (.me .list .append (.b2 .ix (.b2 .ix (.v 6) (.fn .max2 [(.c (.int 0)), (.b2 .sub (.b2 .sub (.v 7) (.c (.int 1))) (.b2 .mod (.b2 .ix (.v 4) (.v 7)) (.b2 .add (.c (.int 1)) (.b2 .mod (.b2 .ix (.v 4) (.c (.int 58))) (.c (.int 5))))))])) (.c (.int 1))) [(.b2 .ix (.v 6) (.v 7))])]
def parF (outs : List Nat) (k : Nat) : Nat := k - 1 - outs.getD k 0 % (1 + outs.getD 58 0 % 5)
theorem getD_at {α : Type} {outs : List α} {k : Nat} {d : α} (h : k < outs.length) : outs[k]? = some (outs.getD k d) := by
  rw [List.getD_eq_getElem?_getD, List.getElem?_eq_getElem h]; rfl
theorem i_out {c : Nat} {outs : List Nat} {g : Store} {k : Nat} (e : g[c]? = some (.lst (intW outs))) (hk : k < outs.length) : op2 .ix (.loc c) (.int (k : Int)) g = some (.ok (.int (outs.getD k 0 : Int)), g) :=
  o_ix e (atI_nat (by rw [List.getElem?_map, getD_at hk]; rfl))
theorem tree_loop (n : Nat) {a0 a1 a2 a3 a5 : W} {c4 c6 b N : Nat} {outs : List Nat} {ls : Nat → Str} {h0 : Store} (h4 : h0[c4]? = some (.lst (intW outs))) (hb : h0.length ≤ b) (h60 : outs.length = 60) (hN : N ≤ 20) (hc6 : b + N ≤ c6) : ∀ (m k : Nat) (g : Store) (x7 : Option W), k + m = N → 0 < k → Ext h0 g → (∀ i, i < N → g[b + i]? = some (.lst ((kidsF (parF outs) k i).map (ndW ls b)))) → g[c6]? = some (.lst ((List.range N).map (ndW ls b))) →
    ∃ g' y7, forM none (treB n) (up k m) [some a0, some a1, some a2, some a3, some (.loc c4), some a5, some (.loc c6), x7] g = some (.ok (.nx, [some a0, some a1, some a2, some a3, some (.loc c4), some a5, some (.loc c6), y7]), g') ∧ Ext h0 g' ∧ (∀ i, i < N → g'[b + i]? = some (.lst ((kidsF (parF outs) N i).map (ndW ls b)))) ∧ g'[c6]? = some (.lst ((List.range N).map (ndW ls b))) := by
  intro m
  induction m with
  | zero =>
    intro k g x7 h1 hk E hi h6
    rw [show k = N by omega] at hi
    exact ⟨g, x7, f_nil st0, E, hi, h6⟩
  | succ m ih =>
    intro k g x7 h1 hk E hi h6
    let q := parF outs k
    have hq : q < k := by show k - 1 - _ < k; omega
    have hql : (kidsF (parF outs) k q).length ≤ k := by
      unfold kidsF
      exact Nat.le_trans (List.length_filter_le _ _) (by rw [List.length_range]; omega)
    let g1 := g.set (b + q) (.lst ((kidsF (parF outs) k q).map (ndW ls b) ++ [ndW ls b k]))
    have hbq := hi q (by omega)
    have h61 : g1[c6]? = some (.lst ((List.range N).map (ndW ls b))) := by show (g.set _ _)[c6]? = _; rw [set_ne' (by omega)]; exact h6
    have hi1 : ∀ i, i < N → g1[b + i]? = some (.lst ((kidsF (parF outs) (k + 1) i).map (ndW ls b))) := by
      intro i hiN
      rw [kidsF_succ]
      by_cases e : i = q
      · subst e
        rw [if_pos ⟨hk, rfl⟩, List.map_append]
        exact set_at (lt_of hbq)
      · rw [if_neg (fun z => e z.2.symm), List.append_nil]
        show (g.set _ _)[b + i]? = _
        rw [set_ne' (by omega)]; exact hi i hiN
    obtain ⟨g', y7, e, E', r1, r2⟩ := ih (k + 1) g1 (some (.int (k : Int))) (by omega) (by omega) (E.set (by omega)) hi1 h61
    let ρ : Bi.Env := [some a0, some a1, some a2, some a3, some (.loc c4), some a5, some (.loc c6), some (.int (k : Int))]
    have h4g := E _ _ h4
    have eM : ev (Phi n) (.fn .max2 [(.c (.int 0)), (.b2 .sub (.b2 .sub (.v 7) (.c (.int 1))) (.b2 .mod (.b2 .ix (.v 4) (.v 7)) (.b2 .add (.c (.int 1)) (.b2 .mod (.b2 .ix (.v 4) (.c (.int 58))) (.c (.int 5))))))]) ρ g = some (.ok (.int (q : Int)), g) := by
      refine (e_fn (h1 := g) (ws := [.int 0, .int ((k : Int) - 1 - (outs.getD k 0 : Int) % (1 + (outs.getD 58 0 : Int) % 5))]) (es_cons e_c (es_cons (e_b2 (e_b2 (e_v rfl) e_c rfl) (e_b2 (e_b2 (e_v rfl) (e_v rfl) (i_out h4g (by omega))) (e_b2 e_c (e_b2 (e_b2 (e_v rfl) e_c (i_out (k := 58) h4g (by omega))) e_c (o_mod (by omega))) rfl) (o_mod (by omega))) rfl) es_nil)) (z := .int (if ((k : Int) - 1 - (outs.getD k 0 : Int) % (1 + (outs.getD 58 0 : Int) % 5)) > 0 then ((k : Int) - 1 - (outs.getD k 0 : Int) % (1 + (outs.getD 58 0 : Int) % 5)) else 0)) (h2 := g) rfl).trans ?_
      congr 4
      have hm : (outs.getD k 0 : Int) % (1 + (outs.getD 58 0 : Int) % 5) = ((outs.getD k 0 % (1 + outs.getD 58 0 % 5) : Nat) : Int) := by
        rw [Int.natCast_emod, Int.natCast_add, Int.natCast_emod]; rfl
      rw [hm]
      show _ = (((k - 1 - outs.getD k 0 % (1 + outs.getD 58 0 % 5) : Nat)) : Int)
      split <;> omega
    have rangeAt : ∀ i, i < N → atI ((List.range N).map (ndW ls b)) (i : Int) = some (ndW ls b i) := fun i hi => atI_nat (by rw [List.getElem?_map, List.getElem?_range hi]; rfl)
    refine ⟨g', y7, f_cons (ρ' := ρ) (h1 := g1) st0 (forF_in (ρ' := ρ) rfl ?_) e, E', r1, r2⟩
    refine b_cons (ρ' := ρ) (h1 := g1) (x_ex (w := .non) (e_me (x := .loc (b + q)) (h1 := g) (h2 := g) (ws := [ndW ls b k]) (e_b2 (x := ndW ls b q) (y := .int 1) (h1 := g) (h2 := g) (e_b2 (x := .loc c6) (y := .int (q : Int)) (h1 := g) (h2 := g) (e_v rfl) eM (o_ix h6 (rangeAt q (by omega)))) e_c rfl) (k_lst hbq) (es_cons (e_b2 (x := .loc c6) (y := .int (k : Int)) (h1 := g) (h2 := g) (e_v rfl) (e_v rfl) (o_ix h6 (rangeAt k (by omega)))) es_nil) (o_app hbq (Nat.lt_of_lt_of_le (show _ < 100 by rw [List.length_map]; omega) (szl (by omega)))))) b_nil
theorem tree_ok (n : Nat) {ns : List Int} {which most r : Nat} {labs : List Str} {h : Store} (hl : h[r]? = some (.lst (labs.map W.str))) (hne : labs ≠ []) (hll : labs.length ≤ 1000) (hok : ∀ s ∈ labs, PyData.strOk s = true) (hm0 : 0 < most) (hm : most ≤ 14) :
    ∃ (h' : Store) (T : LT), Phi (n + 2) 14 [.scr ns, .int (which : Int), .loc r, .int (most : Int)] h = some (.ok T.w, h') ∧ Ext h h' ∧ In h' T ∧ T.er.good = true ∧ T.er.lev ≤ most ∧ T.er.siz ≤ 2 ^ (most - 1) := by
  obtain ⟨outs, e1, l1, b1⟩ := num_ok n (ns := ns) (which := which) (many := 60) (h := h) (by omega)
  let h1 := h ++ [O.lst (intW outs)]
  have E1 : Ext h h1 := Ext.app
  have h4 : h1[h.length]? = some (.lst (intW outs)) := app_new
  have hlp : 0 < labs.length := List.length_pos_iff.mpr hne
  let N := 1 + outs.getD 59 0 % most
  have hN : N ≤ most := by show 1 + _ ≤ most; have := Nat.mod_lt (outs.getD 59 0) hm0; omega
  have hN0 : 0 < N := by show 0 < 1 + _; omega
  let ls : Nat → Str := fun k => labs.getD (outs.getD (30 + k) 0 % labs.length) ""
  have hls : ∀ k, labs[outs.getD (30 + k) 0 % labs.length]? = some (ls k) := fun k => by
    exact getD_at (Nat.mod_lt _ hlp)
  let ρ7 : Bi.Env := [some (.scr ns), some (.int (which : Int)), some (.loc r), some (.int (most : Int)), some (.loc h.length), some (.int (N : Int)), none]
  have he : ∀ k g, k < N → Ext h1 g → ev (Phi (n + 1)) treE (ρ7 ++ [some (.int (k : Int))]) g = some (.ok (.tup [.str (ls k), .loc g.length]), g ++ [.lst []]) := by
    intro k g hk E
    have hlg : g[r]? = some (.lst (labs.map W.str)) := E _ _ (E1 _ _ hl)
    refine e_tup (es_cons (h1 := g) (e_b2 (x := .loc r) (y := .int ((outs.getD (30 + k) 0 % labs.length : Nat) : Int)) (h1 := g) (h2 := g) (e_v rfl) (e_b2 (x := .int (outs.getD (30 + k) 0 : Int)) (y := .int ((labs.map W.str).length : Nat)) (h1 := g) (h2 := g) (e_b2 (x := .loc h.length) (y := .int ((30 + k : Nat) : Int)) (h1 := g) (h2 := g) (e_v rfl) (e_b2 e_c (e_v rfl) rfl) (i_out (E _ _ h4) (by omega))) (e_f1 (e_v rfl) (o_len hlg)) ?_) ?_) (es_cons (e_lst es_nil (szw rfl)) es_nil)) (szw rfl)
    · rw [List.length_map, o_mod (by omega)]; rfl
    · exact o_ix hlg (atI_nat (by rw [List.getElem?_map, hls k]; rfl))
  have ec := tree_comp (n + 1) (ls := ls) (ρ7 := ρ7) (h := h1) (N := N) he rfl N 0 [] (by omega) rfl (by omega)
  rw [List.replicate_zero, List.append_nil, List.nil_append, ← List.range_eq_range'] at ec
  let h2 := h1 ++ List.replicate N (.lst []) ++ [O.lst ((List.range N).map (ndW ls h1.length))]
  have hlen : (h1 ++ List.replicate N (O.lst [])).length = h1.length + N := by simp
  have E2 : Ext h1 h2 := Ext.app.trans Ext.app
  have hi : ∀ i, i < N → h2[h1.length + i]? = some (.lst ((kidsF (parF outs) 1 i).map (ndW ls h1.length))) := by
    intro i hi
    have : kidsF (parF outs) 1 i = [] := by
      unfold kidsF
      rw [List.filter_eq_nil_iff]
      intro k hk q
      rw [List.mem_range] at hk
      have q := of_decide_eq_true q
      omega
    rw [this]
    refine app_lt ?_
    rw [List.getElem?_append_right (by omega), List.getElem?_replicate, if_pos (by omega)]; rfl
  have h6 : h2[h1.length + N]? = some (.lst ((List.range N).map (ndW ls h1.length))) := by
    rw [← hlen]; exact app_new
  obtain ⟨g', y7, e2, E3, r1, r2⟩ := tree_loop (n + 1) (a0 := .scr ns) (a1 := .int (which : Int)) (a2 := .loc r) (a3 := .int (most : Int)) (a5 := .int (N : Int)) (c4 := h.length) (c6 := h1.length + N) (b := h1.length) (N := N) (outs := outs) (ls := ls) (h0 := h1) h4 (Nat.le_refl _) l1 (by omega) (Nat.le_refl _) (N - 1) 1 h2 none (by omega) (by omega) E2 hi h6
  have hp : ∀ k, 0 < k → k < N → parF outs k < k := fun k h0 _ => by show k - 1 - _ < k; omega
  refine ⟨g', trL ls h1.length (parF outs) N N 0, ?_, E1.trans E3, trL_in hp r1 N 0 hN0 (by omega), trL_good (fun i => hok _ (List.mem_of_getElem? (hls i))) N 0, Nat.le_trans (trL_lev hp N 0 hN0) (by omega), Nat.le_trans (trL_siz hp N 0 hN0) (Nat.pow_le_pow_right (by omega) (by omega : N - 1 - 0 ≤ most - 1))⟩
  rw [trL_w]
  show runD (Phi (n + 1)) ir__law_tree 8 [.scr ns, .int (which : Int), .loc r, .int (most : Int)] h = _
  refine d_ret (ρ' := [some (.scr ns), some (.int (which : Int)), some (.loc r), some (.int (most : Int)), some (.loc h.length), some (.int (N : Int)), some (.loc (h1.length + N)), y7]) ?_
  refine b_cons (ρ' := [some (.scr ns), some (.int (which : Int)), some (.loc r), some (.int (most : Int)), some (.loc h.length), none, none, none]) (h1 := h1) (x_asg (e_call (es_cons (e_v rfl) (es_cons (e_v rfl) (es_cons e_c es_nil))) e1) rfl) ?_
  refine b_cons (ρ' := [some (.scr ns), some (.int (which : Int)), some (.loc r), some (.int (most : Int)), some (.loc h.length), some (.int (N : Int)), none, none]) (h1 := h1) (x_asg (w := .int (N : Int)) (e_b2 (x := .int 1) (y := .int ((outs.getD 59 0 % most : Nat) : Int)) (h2 := h1) e_c (e_b2 (x := .int (outs.getD 59 0 : Int)) (y := .int (most : Int)) (h1 := h1) (h2 := h1) (e_b2 (e_v rfl) e_c (i_out (k := 59) h4 (by omega))) (e_v rfl) (by rw [o_mod (by omega)]; rfl)) (by show some (Rs.ok (W.int (1 + _)), h1) = _; rw [Int.natCast_add]; rfl)) rfl) ?_
  refine b_cons (ρ' := [some (.scr ns), some (.int (which : Int)), some (.loc r), some (.int (most : Int)), some (.loc h.length), some (.int (N : Int)), some (.loc (h1.length + N)), none]) (h1 := h2) (x_asg (w := .loc (h1.length + N)) ?_ rfl) ?_
  · have := e_lc (Φ := Phi (n + 1)) (own := [7]) (t := .nm 7) (k := .rg1) (ifs := []) (elt := treE) (es := [.v 5]) (ρ := ρ7 ++ [none]) (h := h1) (h1 := h1) (h2 := h1) (ws := [.int (N : Int)]) (its := up 0 N) (ck := none) (es_cons (e_v rfl) es_nil) (i_up (by omega)) ec
    rw [hlen] at this
    exact this
  refine b_cons (ρ' := [some (.scr ns), some (.int (which : Int)), some (.loc r), some (.int (most : Int)), some (.loc h.length), some (.int (N : Int)), some (.loc (h1.length + N)), y7]) (h1 := g') (x_for (ws := [.int 1, .int (N : Int)]) (h1 := h2) (es_cons e_c (es_cons (e_v rfl) es_nil)) (its := up 1 (N - 1)) (ck := none) (h2 := h2) ?_ e2) ?_
  · rw [i_rg2 (by omega) (by omega) (by omega) (by omega)]
    have := up_eq2 1 N
    rw [show ((1 : Nat) : Int) = 1 from rfl] at this
    rw [this]
  · exact b_ret (x_ret (e_b2 (e_v rfl) e_c (o_ix r2 (atI_nat (j := 0) (by rw [List.getElem?_map, List.getElem?_range hN0]; rfl)))))
end Lw
set_option maxHeartbeats 4000000
namespace Lw
open PySem L2 Bi
theorem one_symm' {s t : Tr} {i : Nat} (e : one s t = some i) : one t s = some i := by
  obtain ⟨hl, c, d, hc, hd, hn, hs⟩ := one_some e
  cases s with
  | nd l ch =>
    cases t with
    | nd l' ch' =>
      have hl : l = l' := hl
      have hs2 : ch.set i d = ch' := hs
      have hc : ch[i]? = some c := hc
      subst hl
      have hi := (List.getElem?_eq_some_iff.mp hc).1
      have : ch = ch'.set i c := by
        rw [← hs2, List.set_set]
        apply List.ext_getElem?
        intro k
        by_cases e : k = i
        · subst e; rw [List.getElem?_set_self hi, hc]
        · rw [List.getElem?_set_ne (by omega)]
      rw [this]
      exact one_of hd (fun z => hn z.symm)
theorem one_symm (s t : Tr) : one s t = one t s := by
  cases e : one s t with
  | some i => exact (one_symm' e).symm
  | none =>
    cases e2 : one t s with
    | none => rfl
    | some j => rw [one_symm' e2] at e; cases e
theorem lev_kid {s c : Tr} {i : Nat} (h : s.ch[i]? = some c) : c.lev < s.lev := by
  cases s with
  | nd l ch =>
    have := lev_mem (List.mem_of_getElem? (show ch[i]? = some c from h))
    rw [Tr.lev]; omega
theorem Dv_symm : ∀ (n m : Nat) (s t : Tr), s.lev ≤ n → t.lev ≤ m → Dv n s t = Dv m t s
  | 0, _, s, _, h, _ => by cases s; rw [Tr.lev] at h; omega
  | _ + 1, 0, _, t, _, h => by cases t; rw [Tr.lev] at h; omega
  | n + 1, m + 1, s, t, h1, h2 => by
    rw [Dv, Dv, one_symm t s]
    cases e : one s t with
    | none => rfl
    | some i =>
      obtain ⟨hl, c, d, hc, hd, hn, hs⟩ := one_some e
      show (match s.ch[i]?, t.ch[i]? with
        | some c, some d => i :: Dv n c d
        | _, _ => []) = (match t.ch[i]?, s.ch[i]? with
        | some c, some d => i :: Dv m c d
        | _, _ => [])
      rw [hc, hd]
      show i :: Dv n c d = i :: Dv m d c
      have a : c.lev ≤ n := by have := lev_kid hc; omega
      have b : d.lev ≤ m := by have := lev_kid hd; omega
      rw [Dv_symm n m c d a b]
/-- place, old, new -/
def D3 (p : List Nat) (a b : Tr) : PyData := .tuple [.tuple (plD p), a.dat, b.dat]
theorem shD_3 {h : Store} {p : List Nat} {A B : LT} (iA : In h A) (iB : In h B) (gA : A.er.good = true) (gB : B.er.good = true) (lA : A.er.lev ≤ 31) (lB : B.er.lev ≤ 31) : shD h (.tup [.tup (plW p), A.w, B.w]) = some (D3 p A.er B.er) := by
  unfold shD
  have e : toD 70 h (.tup [.tup (plW p), A.w, B.w]) = some (D3 p A.er B.er) := by
    show (([W.tup (plW p), A.w, B.w] : List W).mapM (toD 69 h)).map PyData.tuple = _
    rw [List.mapM_cons, List.mapM_cons, List.mapM_cons, show toD 69 h (.tup (plW p)) = some (.tuple (plD p)) from toD_pl (n := 67) p, toD_in A 69 iA (by omega), toD_in B 69 iB (by omega)]
    rfl
  rw [e]
  show (if SeqAt.shaped (D3 p A.er B.er) = true then some _ else none) = _
  rw [if_pos]
  unfold SeqAt.shaped D3
  have ha := dat_depth A.er
  have hb := dat_depth B.er
  simp only [PyData.canLay0, PyData.canLayAll0, PyData.depth, PyData.depthAll, plD_lay, plD_depth, dat_lay _ gA, dat_lay _ gB, Bool.true_and, ha, hb]
  exact decide_eq_true (by omega)
theorem eqv_3 {p : List Nat} {a b : Tr} : PyData.eqv (D3 p a b) (D3 p a b) = true := by
  unfold D3
  simp only [PyData.eqv, PyData.eqvAll, Bool.and_true, Bool.and_eq_true]
  exact ⟨(eqvAll_pl p p).mpr rfl, (eqv_dat a a).mpr rfl, (eqv_dat b b).mpr rfl⟩
/-- a tree that all of it works on -/
structure Nt (g : Store) (T : LT) : Prop where
  i : In g T
  gd : T.er.good = true
  lv : T.er.lev ≤ 31
  sz : T.er.siz ≤ 17000
theorem Nt.ext {g g' : Store} {T : LT} (n : Nt g T) (E : Ext g g') : Nt g' T := ⟨n.i.ext E, n.gd, n.lv, n.sz⟩
theorem Nt.fine {g : Store} {T : LT} (n : Nt g T) : Fine T.er := ⟨n.gd, by have := n.lv; omega⟩
theorem Nt.of {g g' : Store} {T S : LT} (n : Nt g T) (i : In g' S) (e : S.er = T.er) : Nt g' S := ⟨i, by rw [e]; exact n.gd, by rw [e]; exact n.lv, by rw [e]; exact n.sz⟩
theorem sub_good : ∀ (p : List Nat) (t b : LT), t.er.good = true → LT.sub p t = some b → b.er.good = true
  | [], t, b, h, e => by cases e; exact h
  | k :: p, t, b, h, e => by
    have e : (t.ch[k]?).bind (fun c => LT.sub p c) = some b := e
    cases hk : t.ch[k]? with
    | none => rw [hk] at e; cases e
    | some c =>
      rw [hk] at e
      refine sub_good p c b ?_ e
      rw [er_ch] at h
      exact (good_nd.mp h).2 _ (List.mem_map_of_mem (List.mem_of_getElem? hk))
theorem Nt.sub {g : Store} {T S : LT} {p : List Nat} (n : Nt g T) (e : LT.sub p T = some S) : Nt g S := by
  have := sub_lev e
  have h1 := n.lv
  have h2 := n.sz
  exact ⟨sub_in n.i e, sub_good p T S n.gd e, by omega, by omega⟩
theorem o_ne3 {h : Store} {p : List Nat} {A B A' B' : LT} (a : Nt h A) (b : Nt h B) (a' : Nt h A') (b' : Nt h B') (ea : A.er = A'.er) (eb : B.er = B'.er) : op2 .ne (.tup [.tup (plW p), A.w, B.w]) (.tup [.tup (plW p), A'.w, B'.w]) h = some (.ok (.bl false), h) := by
  rw [o_ned (shD_3 a.i b.i a.gd b.gd a.lv b.lv) (shD_3 a'.i b'.i a'.gd b'.gd a'.lv b'.lv), ea, eb, eqv_3]; rfl
theorem o_eq3 {h : Store} {p : List Nat} {A B A' B' : LT} (a : Nt h A) (b : Nt h B) (a' : Nt h A') (b' : Nt h B') (ea : A.er = A'.er) (eb : B.er = B'.er) : op2 .eq (.tup [.tup (plW p), A.w, B.w]) (.tup [.tup (plW p), A'.w, B'.w]) h = some (.ok (.bl true), h) := by
  rw [o_eqd (shD_3 a.i b.i a.gd b.gd a.lv b.lv) (shD_3 a'.i b'.i a'.gd b'.gd a'.lv b'.lv), ea, eb, eqv_3]
open Classical in
theorem o_ne1 {h : Store} {A B : LT} (a : Nt h A) (b : Nt h B) (e : A.er = B.er) : op2 .ne A.w B.w h = some (.ok (.bl false), h) := by
  rw [o_net a.i b.i a.fine b.fine, decide_eq_false (fun z => z e)]
theorem o_neN {h : Store} : op2 .ne .non .non h = some (.ok (.bl false), h) := rfl
theorem copy59 {g : Store} {o : LT} (n : Nt g o) : ∃ g' T, Phi 59 15 [o.w] g = some (.ok (LT.w T), g') ∧ Ext g g' ∧ Nt g' T ∧ T.er = o.er := by
  have h1 := n.lv
  have h2 := n.sz
  obtain ⟨g', T, e, E, i, er, _⟩ := copy_ok o (59 - o.er.lev) g n.i (by omega)
  rw [Nat.sub_add_cancel (by omega)] at e
  exact ⟨g', T, e, E, n.of i er, er⟩
/-- difference of unequal trees, with the nodes at the place -/
theorem dif59 {g : Store} {s t S T A' B' : LT} (ns : Nt g s) (nt : Nt g t) (es : s.er = S.er) (et : t.er = T.er) (hne : S.er ≠ T.er) {D : List Nat} (hD : Dv S.er.lev S.er T.er = D) (hA : LT.sub D S = some A') (hB : LT.sub D T = some B') : ∃ g' A B, Phi 59 11 [s.w, t.w] g = some (.ok (.tup [.tup (plW D), LT.w A, LT.w B]), g') ∧ Ext g g' ∧ Nt g' A ∧ Nt g' B ∧ A.er = A'.er ∧ B.er = B'.er ∧ g.length ≤ A.c ∧ g.length ≤ B.c := by
  have h2 := ns.sz
  have h3 := nt.sz
  have hD2 : Dv s.er.lev s.er t.er = D := by rw [es, et]; exact hD
  obtain ⟨g', A, B, A2, B2, e, E, r1, r2, iA, iB, eA, eB, nA, nB⟩ := dif_ne (n := 55) ns.i nt.i ns.fine nt.fine (by omega) (by omega) (by rw [es, et]; exact hne)
  rw [hD2] at e r1 r2
  have q1 : A2.er = A'.er := by
    have a := sub_er r1
    rw [es, sub_er hA] at a
    exact (Option.some.inj a).symm
  have q2 : B2.er = B'.er := by
    have a := sub_er r2
    rw [et, sub_er hB] at a
    exact (Option.some.inj a).symm
  refine ⟨g', A, B, e, E, (ns.sub r1).of iA eA, (nt.sub r2).of iB eB, eA.trans q1, eB.trans q2, ?_, ?_⟩
  · cases nA; assumption
  · cases nB; assumption
theorem rep59 {g : Store} {t x s o : LT} {p : List Nat} (nt : Nt g t) (nx : Nt g x) (hs : LT.sub p t = some s) {r : Tr} (er : Tr.put p x.er t.er = r) (no : Nt g o) (eo : r = o.er) : ∃ g' T, Phi 59 9 [t.w, .tup (plW p), x.w] g = some (.ok (LT.w T), g') ∧ Ext g g' ∧ Nt g' T ∧ T.er = o.er := by
  have h2 := nt.sz
  have h3 := nx.sz
  obtain ⟨g', T, e, E, i, er2⟩ := replaced_ok (n := 54) nt.i nx.i (by omega) (by omega) hs
  exact ⟨g', T, e, E, no.of i (er2.trans (er.trans eo)), er2.trans (er.trans eo)⟩
abbrev bodyC : List S := [.asg (.nm 15) (.call 19 [(.v 2), (.v 14)]), .asg (.nm 16) (.call 11 [(.v 13), (.call 15 [(.v 14)])]), .ite (.b2 .ne (.v 16) (.v 15)) [.ret (.c (.bl false))] [], .ite (.f1 .notN (.v 16)) [.ite (.or (.not (.f1 (.isi .tuple) (.v 16))) (.or (.b2 .ne (.call 9 [(.v 13), (.b2 .ix (.v 16) (.c (.int 0))), (.b2 .ix (.v 16) (.c (.int 2)))]) (.v 14)) (.b2 .ne (.call 9 [(.v 14), (.b2 .ix (.v 16) (.c (.int 0))), (.b2 .ix (.v 16) (.c (.int 1)))]) (.v 2)))) [.ret (.c (.bl false))] [], .ex (.me .list .append (.b2 .ix (.b2 .ix (.v 16) (.c (.int 1))) (.c (.int 1))) [(.c .non)]), .ex (.me .list .append (.b2 .ix (.b2 .ix (.v 16) (.c (.int 2))) (.c (.int 1))) [(.c .non)])] [], .asg (.nm 17) (.call 11 [(.v 14), (.v 2)]), .ite (.or (.and (.f1 .isN (.v 15)) (.f1 .notN (.v 17))) (.and (.f1 .notN (.v 15)) (.b2 .ne (.v 17) (.tup [(.b2 .ix (.v 15) (.c (.int 0))), (.b2 .ix (.v 15) (.c (.int 2))), (.b2 .ix (.v 15) (.c (.int 1)))])))) [.ret (.c (.bl false))] [], .ite (.or (.b2 .ne (.v 13) (.v 2)) (.b2 .ne (.call 11 [(.v 13), (.v 14)]) (.v 15))) [.ret (.c (.bl false))] []]
theorem two_apps {g g3 : Store} {A B : LT} {ρ : Bi.Env} {p : W} (E : Ext g g3) (nA : Nt g3 A) (nB : Nt g3 B) (a : g.length ≤ A.c) (b : g.length ≤ B.c) (h16 : ρ[16]? = some (some (.tup [p, A.w, B.w]))) : ∃ g4, Ext g g4 ∧ exs (Phi 59) [.ex (.me .list .append (.b2 .ix (.b2 .ix (.v 16) (.c (.int 1))) (.c (.int 1))) [(.c .non)]), .ex (.me .list .append (.b2 .ix (.b2 .ix (.v 16) (.c (.int 2))) (.c (.int 1))) [(.c .non)])] ρ g3 = some (.ok (.nx, ρ), g4) := by
  have cA := kid_at nA.i
  have cB := kid_at nB.i
  have lA := ch_siz A
  have lB := ch_siz B
  have sA := nA.sz
  have sB := nB.sz
  let g4 := g3.set A.c (.lst (A.ch.map LT.w ++ [.non]))
  obtain ⟨xs, hx, hxl⟩ : ∃ xs, g4[B.c]? = some (.lst xs) ∧ xs.length ≤ 100000 := by
    by_cases e : A.c = B.c
    · refine ⟨A.ch.map LT.w ++ [.non], ?_, by simp; omega⟩
      rw [← e]
      exact set_at (lt_of cA)
    · exact ⟨B.ch.map LT.w, by show (g3.set _ _)[B.c]? = _; rw [set_ne' e]; exact cB, by simp; omega⟩
  refine ⟨g4.set B.c (.lst (xs ++ [.non])), (E.set a).set b, ?_⟩
  refine b_cons (ρ' := ρ) (h1 := g4) (x_ex (e_me (x := .loc A.c) (h1 := g3) (e_b2 (e_b2 (e_v h16) e_c rfl) e_c (o_t1 A)) (k_lst cA) (es_cons e_c es_nil) (o_app cA (Nat.lt_of_lt_of_le (show _ < 100000 by rw [List.length_map]; omega) (szl (by omega)))))) ?_
  exact b_cons (ρ' := ρ) (x_ex (e_me (x := .loc B.c) (h1 := g4) (e_b2 (e_b2 (e_v h16) e_c rfl) e_c (o_t1 B)) (k_lst hx) (es_cons e_c es_nil) (o_app hx (Nat.lt_of_lt_of_le (show _ < 100001 by omega) (szl (by omega)))))) b_nil
theorem chk_body {g : Store} {t c o : LT} {v0 v1 v3 v4 v5 v6 v7 v8 v9 v10 v11 v12 x15 x16 x17 : Option W} (nt : Nt g t) (nc : Nt g c) (no : Nt g o) (ec : c.er = t.er) :
    ∃ g' y15 y16 y17, exs (Phi 59) bodyC [v0, v1, some t.w, v3, v4, v5, v6, v7, v8, v9, v10, v11, v12, some c.w, some o.w, x15, x16, x17] g = some (.ok (.nx, [v0, v1, some t.w, v3, v4, v5, v6, v7, v8, v9, v10, v11, v12, some c.w, some o.w, y15, y16, y17]), g') ∧ Ext g g' := by
  let ρ : Option W → Option W → Option W → Bi.Env := fun a b d => [v0, v1, some t.w, v3, v4, v5, v6, v7, v8, v9, v10, v11, v12, some c.w, some o.w, a, b, d]
  by_cases e : t.er = o.er
  · obtain ⟨g1, T, e1, E1, nT, eT⟩ := copy59 no
    refine ⟨g1, some .non, some .non, some .non, ?_, E1⟩
    refine b_cons (ρ' := ρ (some .non) x16 x17) (h1 := g) (x_asg (e_call (es_cons (e_v rfl) (es_cons (e_v rfl) es_nil)) (due_eq (n := 58) nt.i no.i nt.fine no.fine e)) rfl) ?_
    refine b_cons (ρ' := ρ (some .non) (some .non) x17) (h1 := g1) (x_asg (e_call (ws := [c.w, T.w]) (es_cons (e_v rfl) (es_cons (e_call (es_cons (e_v rfl) es_nil) e1) es_nil)) (dif_eq (n := 58) (nc.ext E1).i nT.i nc.fine nT.fine (by rw [ec, eT]; exact e))) rfl) ?_
    refine b_cons (ρ' := ρ (some .non) (some .non) x17) (h1 := g1) (x_ite0 (e_b2 (x := .non) (y := .non) (h2 := g1) (e_v rfl) (e_v rfl) o_neN) rfl b_nil) ?_
    refine b_cons (ρ' := ρ (some .non) (some .non) x17) (h1 := g1) (x_ite0 (e_f1 (x := .non) (z := .bl false) (h1 := g1) (e_v rfl) rfl) rfl b_nil) ?_
    refine b_cons (ρ' := ρ (some .non) (some .non) (some .non)) (h1 := g1) (x_asg (e_call (es_cons (e_v rfl) (es_cons (e_v rfl) es_nil)) (dif_eq (n := 58) (no.ext E1).i (nt.ext E1).i no.fine nt.fine e.symm)) rfl) ?_
    refine b_cons (ρ' := ρ (some .non) (some .non) (some .non)) (h1 := g1) (x_ite0 (x := .bl false) (e_or0 (x := .bl false) (h1 := g1) (e_and1 (x := .bl true) (h1 := g1) (e_f1 (x := .non) (h1 := g1) (e_v rfl) rfl) rfl (e_f1 (x := .non) (h1 := g1) (e_v rfl) rfl)) rfl (e_and0 (x := .bl false) (h1 := g1) (e_f1 (x := .non) (h1 := g1) (e_v rfl) rfl) rfl)) rfl b_nil) ?_
    exact b_cons (ρ' := ρ (some .non) (some .non) (some .non)) (h1 := g1) (x_ite0 (x := .bl false) (e_or0 (x := .bl false) (h1 := g1) (e_b2 (e_v rfl) (e_v rfl) (o_ne1 (nc.ext E1) (nt.ext E1) ec)) rfl (e_b2 (x := .non) (y := .non) (h2 := g1) (e_call (es_cons (e_v rfl) (es_cons (e_v rfl) es_nil)) (dif_eq (n := 58) (nc.ext E1).i (no.ext E1).i nc.fine no.fine (ec.trans e))) (e_v rfl) o_neN)) rfl b_nil) b_nil
  · have z1 := nt.sz
    have z2 := no.sz
    obtain ⟨D, hD⟩ : ∃ D, Dv t.er.lev t.er o.er = D := ⟨_, rfl⟩
    have hD' : Dv o.er.lev o.er t.er = D := by rw [← hD]; exact Dv_symm _ _ _ _ (Nat.le_refl _) (Nat.le_refl _)
    obtain ⟨g1, A', B', e1, E1, hA, hB⟩ := due_ne (n := 58) (by omega) nt.i no.i nt.fine no.fine (by omega) (by omega) e
    rw [hD] at e1 hA hB
    obtain ⟨g2, T, e2, E2, nT, eT⟩ := copy59 (no.ext E1)
    have E02 := E1.trans E2
    obtain ⟨g3, A, B, e3, E3, nA, nB, eA, eB, lA, lB⟩ := dif59 (S := t) (T := o) (nc.ext E02) nT ec eT e hD hA hB
    have E03 := E02.trans E3
    -- the ways over
    obtain ⟨a1, b1, p1, p2, p3⟩ := Dv_put t.er.lev t.er o.er
    rw [hD, sub_er hA] at p1
    rw [hD, sub_er hB] at p2
    rw [hD, ← Option.some.inj p2] at p3
    obtain ⟨a2, b2, q1, q2, q3⟩ := Dv_put o.er.lev o.er t.er
    rw [hD', sub_er hA] at q2
    rw [hD', ← Option.some.inj q2] at q3
    obtain ⟨c', hc'⟩ : ∃ c', LT.sub D c = some c' := by
      have : Tr.sub D c.er = some A'.er := by rw [ec]; exact sub_er hA
      rw [er_sub] at this
      obtain ⟨x, hx, _⟩ := Option.map_eq_some_iff.mp this
      exact ⟨x, hx⟩
    obtain ⟨g4, R1, e4, E4, nR1, eR1⟩ := rep59 (g := g3) (nc.ext E03) nB hc' (r := o.er) (by rw [eB, ec]; exact p3) (no.ext E03) rfl
    have E04 := E03.trans E4
    obtain ⟨g5, R2, e5, E5, nR2, eR2⟩ := rep59 (g := g4) (no.ext E04) (nA.ext E4) hB (r := t.er) (by rw [eA]; exact q3) (nt.ext E04) rfl
    let U : W := .tup [.tup (plW D), A'.w, B'.w]
    let V : W := .tup [.tup (plW D), A.w, B.w]
    obtain ⟨g6, E6, e6⟩ := two_apps (g := g2) (g3 := g5) (A := A) (B := B) (ρ := ρ (some U) (some V) x17) (p := .tup (plW D)) (E3.trans (E4.trans E5)) (nA.ext (E4.trans E5)) (nB.ext (E4.trans E5)) lA lB rfl
    have E06 := E02.trans E6
    obtain ⟨g7, A7, B7, e7, E7, nA7, nB7, eA7, eB7, _, _⟩ := dif59 (S := o) (T := t) (no.ext E06) (nt.ext E06) rfl rfl (fun z => e z.symm) hD' hB hA
    have E07 := E06.trans E7
    obtain ⟨g8, A8, B8, e8, E8, nA8, nB8, eA8, eB8, _, _⟩ := dif59 (S := t) (T := o) (nc.ext E07) (no.ext E07) ec rfl e hD hA hB
    have E08 := E07.trans E8
    have nA' := nt.sub hA
    have nB' := no.sub hB
    let X : W := .tup [.tup (plW D), A7.w, B7.w]
    refine ⟨g8, some U, some V, some X, ?_, E08⟩
    refine b_cons (ρ' := ρ (some U) x16 x17) (h1 := g1) (x_asg (e_call (es_cons (e_v rfl) (es_cons (e_v rfl) es_nil)) e1) rfl) ?_
    refine b_cons (ρ' := ρ (some U) (some V) x17) (h1 := g3) (x_asg (e_call (ws := [c.w, T.w]) (h1 := g2) (es_cons (e_v rfl) (es_cons (e_call (es_cons (e_v rfl) es_nil) e2) es_nil)) e3) rfl) ?_
    refine b_cons (ρ' := ρ (some U) (some V) x17) (h1 := g3) (x_ite0 (e_b2 (x := V) (y := U) (h2 := g3) (e_v rfl) (e_v rfl) (o_ne3 nA nB (nA'.ext E03) (nB'.ext E03) eA eB)) rfl b_nil) ?_
    refine b_cons (ρ' := ρ (some U) (some V) x17) (h1 := g6) (x_ite1 (e_f1 (x := V) (z := .bl true) (h1 := g3) (e_v rfl) rfl) rfl ?_) ?_
    · refine b_cons (ρ' := ρ (some U) (some V) x17) (h1 := g5) (x_ite0 (x := .bl false) (e_or0 (x := .bl false) (h1 := g3) (e_not (t := true) (e_f1 (x := V) (z := .bl true) (h1 := g3) (e_v rfl) rfl) rfl) rfl ?_) rfl b_nil) e6
      refine e_or0 (x := .bl false) (h1 := g4) (e_b2 (e_call (ws := [c.w, .tup (plW D), B.w]) (h1 := g3) (es_cons (e_v rfl) (es_cons (e_b2 (x := V) (y := .int 0) (h2 := g3) (e_v rfl) e_c rfl) (es_cons (e_b2 (x := V) (y := .int 2) (h2 := g3) (e_v rfl) e_c rfl) es_nil))) e4) (e_v rfl) (o_ne1 nR1 (no.ext E04) eR1)) rfl ?_
      exact e_b2 (e_call (ws := [o.w, .tup (plW D), A.w]) (h1 := g4) (es_cons (e_v rfl) (es_cons (e_b2 (x := V) (y := .int 0) (h2 := g4) (e_v rfl) e_c rfl) (es_cons (e_b2 (x := V) (y := .int 1) (h2 := g4) (e_v rfl) e_c rfl) es_nil))) e5) (e_v rfl) (o_ne1 nR2 (nt.ext (E04.trans E5)) eR2)
    refine b_cons (ρ' := ρ (some U) (some V) (some X)) (h1 := g7) (x_asg (e_call (es_cons (e_v rfl) (es_cons (e_v rfl) es_nil)) e7) rfl) ?_
    refine b_cons (ρ' := ρ (some U) (some V) (some X)) (h1 := g7) (x_ite0 (x := .bl false) (e_or0 (x := .bl false) (h1 := g7) (e_and0 (x := .bl false) (h1 := g7) (e_f1 (x := U) (h1 := g7) (e_v rfl) rfl) rfl) rfl (e_and1 (x := .bl true) (h1 := g7) (e_f1 (x := U) (h1 := g7) (e_v rfl) rfl) rfl ?_)) rfl b_nil) ?_
    · exact e_b2 (x := X) (y := .tup [.tup (plW D), B'.w, A'.w]) (h1 := g7) (h2 := g7) (e_v rfl) (e_tup (es_cons (e_b2 (x := U) (y := .int 0) (h2 := g7) (e_v rfl) e_c rfl) (es_cons (e_b2 (x := U) (y := .int 2) (h2 := g7) (e_v rfl) e_c rfl) (es_cons (e_b2 (x := U) (y := .int 1) (h2 := g7) (e_v rfl) e_c rfl) es_nil))) (szw rfl)) (o_ne3 nA7 nB7 (nB'.ext E07) (nA'.ext E07) eA7 eB7)
    refine b_cons (ρ' := ρ (some U) (some V) (some X)) (h1 := g8) (x_ite0 (x := .bl false) (e_or0 (x := .bl false) (h1 := g7) (e_b2 (e_v rfl) (e_v rfl) (o_ne1 (nc.ext E07) (nt.ext E07) ec)) rfl ?_) rfl b_nil) b_nil
    exact e_b2 (y := U) (h2 := g8) (e_call (es_cons (e_v rfl) (es_cons (e_v rfl) es_nil)) e8) (e_v rfl) (o_ne3 nA8 nB8 (nA'.ext E08) (nB'.ext E08) eA8 eB8)
end Lw
set_option maxHeartbeats 4000000
namespace Lw
open PySem L2 Bi
section
variable {Φ : Ora} {ρ : Bi.Env} {g : Store} {t x : LT} {i j : Nat}
theorem ext_e (hi : ρ[i]? = some (some t.w)) (hj : ρ[j]? = some (some x.w)) (It : In g t) (Ix : In g x) (hz : t.ch.length ≤ 100000) : ∃ g' T, ev Φ (.tup [(.b2 .ix (.v i) (.c (.int 0))), (.b2 .add (.b2 .ix (.v i) (.c (.int 1))) (.lst [(.v j)]))]) ρ g = some (.ok (LT.w T), g') ∧ Ext g g' ∧ In g' T ∧ T.er = .nd t.l (t.ch.map LT.er ++ [x.er]) ∧ ∀ P : Nat → Prop, (∀ i, g.length ≤ i → P i) → LA P t → LA P x → LA P T := by
  let g1 := g ++ [O.lst [x.w]]
  let g2 := g1 ++ [O.lst (t.ch.map LT.w ++ [x.w])]
  have E1 : Ext g g1 := Ext.app
  have E2 : Ext g g2 := E1.trans Ext.app
  refine ⟨g2, .nd t.l g1.length (t.ch ++ [x]), ?_, E2, .nd ?_ ?_, by rw [er_nd, List.map_append]; rfl, fun P hP a b => .nd (hP _ E1.len) fun y hy => ?_⟩
  · exact e_tup (ws := [.str t.l, .loc g1.length]) (es_cons (e_b2 (e_v hi) e_c (o_t0 t)) (es_cons (e_b2 (x := .loc t.c) (y := .loc g.length) (h1 := g) (h2 := g1) (e_b2 (e_v hi) e_c (o_t1 t)) (e_lst (es_cons (e_v hj) es_nil) (szw rfl)) (o_catL (E1 _ _ (kid_at It)) app_new (szl (by simp; omega)))) es_nil)) (szw rfl)
  · rw [List.map_append]; exact app_new
  · intro y hy
    rcases List.mem_append.mp hy with hy | hy
    · cases t with
      | nd l c ch => exact (It.kid y hy).ext E2
    · rw [List.mem_singleton.mp hy]; exact Ix.ext E2
  · rcases List.mem_append.mp hy with hy | hy
    · exact a.kids y hy
    · rw [List.mem_singleton.mp hy]; exact b
theorem cut_e (hi : ρ[i]? = some (some t.w)) (It : In g t) (h1 : 0 = 0) : ∃ g' T, ev Φ (.tup [(.b2 .ix (.v i) (.c (.int 0))), (.sl true false (.b2 .ix (.v i) (.c (.int 1))) (.c (.int 1)) (.c .non))]) ρ g = some (.ok (LT.w T), g') ∧ Ext g g' ∧ In g' T ∧ T.er = .nd t.l ((t.ch.map LT.er).drop 1) := by
  refine ⟨g ++ [.lst ((t.ch.drop 1).map LT.w)], .nd t.l g.length (t.ch.drop 1), ?_, Ext.app, .nd app_new ?_, by rw [er_nd, List.map_drop]⟩
  · refine e_tup (ws := [.str t.l, .loc g.length]) (es_cons (e_b2 (e_v hi) e_c (o_t0 t)) (es_cons (e_sl (e_b2 (e_v hi) e_c (o_t1 t)) (p_yes e_c) p_no ?_) es_nil)) (szw rfl)
    rw [o_slL (kid_at It)]
    congr 4
    congr 2
    rw [List.map_drop]
    by_cases hl : 1 ≤ (t.ch.map LT.w).length
    · exact cut_from (k := 1) hl
    · have : t.ch.map LT.w = [] := List.length_eq_zero_iff.mp (by omega)
      rw [this]; rfl
  · intro y hy
    cases t with
    | nd l c ch => exact (It.kid y (List.mem_of_mem_drop hy)).ext Ext.app
theorem rev_e (hi : ρ[i]? = some (some t.w)) (It : In g t) : ∃ g' T, ev Φ (.tup [(.b2 .ix (.v i) (.c (.int 0))), (.f1 .rev (.b2 .ix (.v i) (.c (.int 1))))]) ρ g = some (.ok (LT.w T), g') ∧ Ext g g' ∧ In g' T ∧ T.er = .nd t.l (t.ch.map LT.er).reverse := by
  refine ⟨g ++ [.lst (t.ch.reverse.map LT.w)], .nd t.l g.length t.ch.reverse, ?_, Ext.app, .nd app_new ?_, by rw [er_nd, List.map_reverse]⟩
  · refine e_tup (ws := [.str t.l, .loc g.length]) (es_cons (e_b2 (e_v hi) e_c (o_t0 t)) (es_cons (e_f1 (e_b2 (e_v hi) e_c (o_t1 t)) ?_) es_nil)) (szw rfl)
    show (lstAt g t.c).bind _ = _
    unfold lstAt
    rw [kid_at It, List.map_reverse]; rfl
  · intro y hy
    cases t with
    | nd l c ch => exact (It.kid y (List.mem_reverse.mp hy)).ext Ext.app
theorem zzz_e (hi : ρ[i]? = some (some t.w)) (It : In g t) : ∃ T, ev Φ (.tup [(.c (.str "zzz")), (.b2 .ix (.v i) (.c (.int 1)))]) ρ g = some (.ok (LT.w T), g) ∧ In g T ∧ T.er = .nd "zzz" (t.ch.map LT.er) := by
  refine ⟨.nd "zzz" t.c t.ch, ?_, .nd (kid_at It) ?_, er_nd _ _ _⟩
  · exact e_tup (es_cons e_c (es_cons (e_b2 (e_v hi) e_c (o_t1 t)) es_nil)) (szw rfl)
  · cases t with
    | nd l c ch => exact It.kid
theorem leaf_e {s : Str} : ev Φ (.tup [(.c (.str s)), (.lst [])]) ρ g = some (.ok (LT.w (.nd s g.length [])), g ++ [.lst []]) := e_tup (es_cons e_c (es_cons (e_lst es_nil (szw rfl)) es_nil)) (szw rfl)
end
/-- bounds of a plain tree -/
structure Bt (T : Tr) (l z : Nat) : Prop where
  gd : T.good = true
  lv : T.lev ≤ l
  sz : T.siz ≤ z
theorem sizL_rev : ∀ a : List Tr, Tr.sizL a.reverse = Tr.sizL a
  | [] => rfl
  | x :: a => by rw [List.reverse_cons, sizL_app, sizL_rev a, Tr.sizL, Tr.sizL, Tr.sizL]; omega
theorem sizL_drop (a : List Tr) : Tr.sizL (a.drop 1) ≤ Tr.sizL a := by
  cases a with
  | nil => exact Nat.le_refl _
  | cons x a => rw [List.drop_one, List.tail_cons, Tr.sizL]; omega
theorem Bt.parts {T : Tr} {l z : Nat} (b : Bt T l z) : PyData.strOk T.l = true ∧ (∀ c ∈ T.ch, c.good = true) ∧ (∀ c ∈ T.ch, c.lev + 1 ≤ l) ∧ Tr.sizL T.ch + 1 ≤ z ∧ 1 ≤ l := by
  cases T with
  | nd s ch =>
    have h1 := good_nd.mp b.gd
    have h2 := b.lv
    have h3 := b.sz
    rw [Tr.lev] at h2
    rw [Tr.siz] at h3
    exact ⟨h1.1, h1.2, fun c hc => by have := lev_mem (ts := ch) hc; omega, h3, by omega⟩
theorem Bt.mk' {s : Str} {ch : List Tr} {l z : Nat} (h0 : PyData.strOk s = true) (h1 : ∀ c ∈ ch, c.good = true) (h2 : ∀ c ∈ ch, c.lev + 1 ≤ l) (h3 : Tr.sizL ch + 1 ≤ z) (h4 : 1 ≤ l) : Bt (.nd s ch) l z :=
  ⟨good_nd.mpr ⟨h0, h1⟩, by rw [Tr.lev]; have := levL_le (ts := ch) (n := l - 1) (fun c hc => by have := h2 c hc; omega); omega, by rw [Tr.siz]; exact h3⟩
theorem Bt.mono {T : Tr} {l z l' z' : Nat} (b : Bt T l z) (h1 : l ≤ l') (h2 : z ≤ z') : Bt T l' z' := ⟨b.gd, Nat.le_trans b.lv h1, Nat.le_trans b.sz h2⟩
theorem Bt.ext {T x : Tr} {l z l2 z2 : Nat} (b : Bt T l z) (c : Bt x l2 z2) : Bt (.nd T.l (T.ch ++ [x])) (max l (l2 + 1)) (z + z2) := by
  obtain ⟨p1, p2, p3, p4, p5⟩ := b.parts
  refine .mk' p1 ?_ ?_ ?_ (by omega)
  · intro y hy
    rcases List.mem_append.mp hy with hy | hy
    · exact p2 y hy
    · rw [List.mem_singleton.mp hy]; exact c.gd
  · intro y hy
    rcases List.mem_append.mp hy with hy | hy
    · have := p3 y hy; omega
    · rw [List.mem_singleton.mp hy]; have := c.lv; omega
  · rw [sizL_app, Tr.sizL, Tr.sizL]; have := c.sz; omega
theorem Bt.cut {T : Tr} {l z : Nat} (b : Bt T l z) : Bt (.nd T.l (T.ch.drop 1)) l z := by
  obtain ⟨p1, p2, p3, p4, p5⟩ := b.parts
  exact .mk' p1 (fun y hy => p2 y (List.mem_of_mem_drop hy)) (fun y hy => p3 y (List.mem_of_mem_drop hy)) (by have := sizL_drop T.ch; omega) p5
theorem Bt.rev {T : Tr} {l z : Nat} (b : Bt T l z) : Bt (.nd T.l T.ch.reverse) l z := by
  obtain ⟨p1, p2, p3, p4, p5⟩ := b.parts
  exact .mk' p1 (fun y hy => p2 y (List.mem_reverse.mp hy)) (fun y hy => p3 y (List.mem_reverse.mp hy)) (by rw [sizL_rev]; exact p4) p5
theorem Bt.zzz {T : Tr} {l z : Nat} (b : Bt T l z) : Bt (.nd "zzz" T.ch) l z := by
  obtain ⟨p1, p2, p3, p4, p5⟩ := b.parts
  exact .mk' (by unfold PyData.strOk; rw [← Array.all_toList]; decide) p2 p3 p4 p5
theorem Bt.put {T x : Tr} {l z l2 z2 l3 : Nat} {p : List Nat} (b : Bt T l z) (c : Bt x l2 z2) (h : p.length + l2 ≤ l3) : Bt (Tr.put p x T) (max l l3) (z + z2) := by
  have := put_siz p x T
  have h1 := b.lv
  have h2 := b.sz
  have h3 := c.lv
  have h4 := c.sz
  exact ⟨put_good _ _ _ c.gd b.gd, by omega, by omega⟩
theorem Bt.nt {g : Store} {T : LT} {l z : Nat} (b : Bt T.er l z) (i : In g T) (h1 : l ≤ 31) (h2 : z ≤ 17000) : Nt g T := ⟨i, b.gd, Nat.le_trans b.lv h1, Nat.le_trans b.sz h2⟩
theorem put59 {g : Store} {t x s : LT} {p : List Nat} (it : In g t) (ix : In g x) (hz : t.er.siz ≤ 40000) (hp : p.length ≤ 31) (hs : LT.sub p t = some s) : ∃ g' T, Phi 59 18 [t.w, .tup (plW p), x.w] g = some (.ok (LT.w T), g') ∧ Ext g g' ∧ In g' T ∧ T.er = Tr.put p x.er t.er ∧ ∀ P : Nat → Prop, (∀ i, g.length ≤ i → P i) → LA P t → LA P x → LA P T := by
  have := put_la (x := x) p (58 - p.length) g t s it ix hz hs
  rw [show 58 - p.length + p.length + 1 = 59 by omega] at this
  exact this
theorem sub_put {x : Tr} : ∀ (p q : List Nat) (t a : Tr), Tr.sub q t = some a → q.take p.length ≠ p → ∃ b, Tr.sub q (Tr.put p x t) = some b
  | [], q, t, a, _, h => absurd (by simp) h
  | i :: p, [], t, a, _, _ => ⟨_, rfl⟩
  | i :: p, j :: q, .nd l ch, a, e, h => by
    have e : (ch[j]?).bind (fun c => Tr.sub q c) = some a := e
    cases hi : ch[i]? with
    | none =>
      have : Tr.put (i :: p) x (.nd l ch) = .nd l ch := by rw [Tr.put, hi]
      rw [this]; exact ⟨a, e⟩
    | some c =>
      rw [put_cons hi]
      show ∃ b, ((ch.set i (Tr.put p x c))[j]?).bind (fun c => Tr.sub q c) = some b
      by_cases hij : i = j
      · subst hij
        rw [hi] at e
        rw [List.getElem?_set_self (List.getElem?_eq_some_iff.mp hi).1]
        refine sub_put p q c a e fun z => h ?_
        rw [List.length_cons, List.take_succ_cons, z]
      · rw [List.getElem?_set_ne hij]; exact ⟨a, e⟩
/-- a node picked by a number -/
theorem pick_e {Φ : Ora} {ρ : Bi.Env} {g : Store} {l4 l5 : Nat} {outs : List Nat} {qs : List (List Nat × LT)} {k : Nat} {eI : E} (h4 : g[l4]? = some (.lst (intW outs))) (h5 : g[l5]? = some (.lst (qs.map pairW))) (hq : qs ≠ []) (hk : k < outs.length) (r4 : ρ[4]? = some (some (.loc l4))) (r5 : ρ[5]? = some (some (.loc l5))) (eI' : ev Φ eI ρ g = some (.ok (.int (k : Int)), g)) :
    ∃ q ∈ qs, ev Φ (.b2 .ix (.v 5) (.b2 .mod (.b2 .ix (.v 4) eI) (.f1 .len (.v 5)))) ρ g = some (.ok (pairW q), g) := by
  have hl : 0 < qs.length := List.length_pos_iff.mpr hq
  have hm := Nat.mod_lt (outs.getD k 0) hl
  refine ⟨qs[outs.getD k 0 % qs.length], List.getElem_mem hm, ?_⟩
  refine e_b2 (x := .loc l5) (y := .int ((outs.getD k 0 % qs.length : Nat) : Int)) (h1 := g) (h2 := g) (e_v r5) (e_b2 (x := .int (outs.getD k 0 : Int)) (y := .int ((qs.map pairW).length : Nat)) (h1 := g) (h2 := g) (e_b2 (e_v r4) eI' (i_out h4 hk)) (e_f1 (e_v r5) (o_len h5)) ?_) (o_ix h5 (atI_nat (by rw [List.getElem?_map, List.getElem?_eq_getElem hm]; rfl)))
  rw [List.length_map, o_mod (by omega)]; rfl
end Lw
set_option maxHeartbeats 8000000
namespace Lw
open PySem L2 Bi
theorem cut_to' {xs : List W} {k : Nat} : cutW xs none (some (k : Int)) = xs.take k := by
  unfold cutW
  rw [HT.sIx_none, HT.sIx_nat, List.drop_zero, Nat.sub_zero]
  by_cases hk : k ≤ xs.length
  · rw [Nat.min_eq_left hk]
  · rw [Nat.min_eq_right (by omega), List.take_length, List.take_of_length_le (by omega)]
abbrev bodyB : List S := [.asg (.tp [(.nm 8), (.nm 9)]) (.b2 .ix (.v 5) (.b2 .mod (.b2 .ix (.v 4) (.v 7)) (.f1 .len (.v 5)))), .asg (.tp [(.nm 10), (.nm 11)]) (.b2 .ix (.v 5) (.b2 .mod (.b2 .ix (.v 4) (.b2 .add (.c (.int 8)) (.v 7))) (.f1 .len (.v 5)))), .asg (.nm 12) (.call 18 [(.v 2), (.v 8), (.v 3)]), .asg (.nm 6) (.b2 .add (.v 6) (.lst [(.v 12), (.call 18 [(.v 2), (.v 8), (.tup [(.c (.str "zzz")), (.b2 .ix (.v 9) (.c (.int 1)))])]), (.call 18 [(.v 2), (.v 8), (.tup [(.b2 .ix (.v 9) (.c (.int 0))), (.b2 .add (.b2 .ix (.v 9) (.c (.int 1))) (.lst [(.v 3)]))])]), (.call 18 [(.v 2), (.v 8), (.tup [(.b2 .ix (.v 9) (.c (.int 0))), (.sl true false (.b2 .ix (.v 9) (.c (.int 1))) (.c (.int 1)) (.c .non))])])])), .ite (.and (.b2 .ne (.sl false true (.v 10) (.c .non) (.f1 .len (.v 8))) (.v 8)) (.b2 .ne (.sl false true (.v 8) (.c .non) (.f1 .len (.v 10))) (.v 10))) [.ex (.me .list .append (.v 6) [(.call 18 [(.v 12), (.v 10), (.tup [(.b2 .ix (.v 11) (.c (.int 0))), (.b2 .add (.b2 .ix (.v 11) (.c (.int 1))) (.lst [(.v 3)]))])])])] []]
theorem nodes_ne (t : LT) (p : List Nat) : t.nodes p ≠ [] := by
  obtain ⟨r, e⟩ := nodes_head t p
  rw [e]; simp
theorem bt_sub {t s : LT} {p : List Nat} {l z : Nat} (b : Bt t.er l z) (e : LT.sub p t = some s) : Bt s.er (l - p.length) z := by
  have := sub_lev e
  have h1 := b.lv
  have h2 := b.sz
  exact ⟨sub_good p t s b.gd e, by omega, by omega⟩
theorem er_parts {T s : LT} {l : Str} {ch : List Tr} (e : T.er = .nd l ch) : T.er = .nd l ch := e
theorem o_lenp {h : Store} {p : List Nat} : op1 .len (.tup (plW p)) h = some (.ok (.int (p.length : Int)), h) := by
  show some (Rs.ok (W.int ((plW p).length : Int)), h) = _
  rw [plW_len]
theorem turn_b {g : Store} {t x : LT} {l4 l5 c6 k : Nat} {outs : List Nat} {ts : List LT} {v0 v1 x8 x9 x10 x11 x12 : Option W} {R : List (Option W)} (it : In g t) (ix : In g x) (bt : Bt t.er 14 8192) (bx : Bt x.er 4 8) (h4 : g[l4]? = some (.lst (intW outs))) (h30 : outs.length = 30) (h5 : g[l5]? = some (.lst ((t.nodes []).map pairW))) (h6 : g[c6]? = some (.lst (ts.map LT.w))) (nts : ∀ T ∈ ts, Nt g T) (hts : ts.length ≤ 1000) (hk : k < 20) :
    ∃ (g' : Store) (c6' : Nat) (ts' : List LT) (y8 y9 y10 y11 y12 : Option W), exs (Phi 59) bodyB (v0 :: v1 :: some t.w :: some x.w :: some (.loc l4) :: some (.loc l5) :: some (.loc c6) :: some (.int (k : Int)) :: x8 :: x9 :: x10 :: x11 :: x12 :: R) g = some (.ok (.nx, v0 :: v1 :: some t.w :: some x.w :: some (.loc l4) :: some (.loc l5) :: some (.loc c6') :: some (.int (k : Int)) :: y8 :: y9 :: y10 :: y11 :: y12 :: R), g') ∧ Ext g g' ∧ g'[c6']? = some (.lst (ts'.map LT.w)) ∧ (∀ T ∈ ts', Nt g' T) ∧ ts'.length ≤ ts.length + 5 := by
  let ρ : Nat → Option W → Option W → Option W → Option W → Option W → Bi.Env := fun c a b d e f => v0 :: v1 :: some t.w :: some x.w :: some (.loc l4) :: some (.loc l5) :: some (.loc c) :: some (.int (k : Int)) :: a :: b :: d :: e :: f :: R
  obtain ⟨⟨p, s⟩, hq1, e1⟩ := pick_e (Φ := Phi 59) (ρ := ρ c6 x8 x9 x10 x11 x12) h4 h5 (nodes_ne t []) (k := k) (by omega) rfl rfl (eI := .v 7) (e_v rfl)
  obtain ⟨p', hp', hs⟩ := nodes_sub t [] _ hq1
  have hp' : p = p' := hp'
  subst hp'
  have hs : LT.sub p t = some s := hs
  obtain ⟨⟨q, s2⟩, hq2, e2⟩ := pick_e (Φ := Phi 59) (ρ := ρ c6 (some (.tup (plW p))) (some s.w) x10 x11 x12) h4 h5 (nodes_ne t []) (k := 8 + k) (by omega) rfl rfl (eI := .b2 .add (.c (.int 8)) (.v 7)) (e_b2 e_c (e_v rfl) rfl)
  obtain ⟨q', hq', hs2⟩ := nodes_sub t [] _ hq2
  have hq' : q = q' := hq'
  subst hq'
  have hs2 : LT.sub q t = some s2 := hs2
  have is := sub_in it hs
  have is2 := sub_in it hs2
  have bs := bt_sub bt hs
  have bs2 := bt_sub bt hs2
  have lp := (sub_lev hs).2
  have lq := (sub_lev hs2).2
  have lt14 := bt.lv
  have tz := bt.sz
  have lsp : 1 ≤ s.er.lev := by rw [er_ch, Tr.lev]; omega
  have lsp2 : 1 ≤ s2.er.lev := by rw [er_ch, Tr.lev]; omega
  have hpl : p.length ≤ 13 := by omega
  have hql : q.length ≤ 13 := by omega
  -- the four
  obtain ⟨g1, C, e3, E1, iC, eC, laC⟩ := put59 it ix (by omega) (by omega) hs
  have bC : Bt C.er 17 8200 := by rw [eC]; exact (bt.put bx (l3 := p.length + 4) (Nat.le_refl _)).mono (by omega) (by omega)
  let ρ3 : Bi.Env := ρ c6 (some (.tup (plW p))) (some s.w) (some (.tup (plW q))) (some s2.w) (some C.w)
  obtain ⟨Z, e4, iZ, eZ⟩ := zzz_e (Φ := Phi 59) (ρ := ρ3) (g := g1) (t := s) (i := 9) rfl (is.ext E1)
  have bZ : Bt Z.er (14 - p.length) 8192 := by rw [eZ, ← er_c s]; exact bs.zzz
  obtain ⟨g2, P1, e5, E2, iP1, eP1, _⟩ := put59 (x := Z) (it.ext E1) iZ (by omega) (by omega) hs
  have bP1 : Bt P1.er 14 16384 := by rw [eP1]; exact (bt.put bZ (l3 := 14) (by omega)).mono (by omega) (by omega)
  have E02 := E1.trans E2
  obtain ⟨g3, X, e6, E3, iX, eX, _⟩ := ext_e (Φ := Phi 59) (ρ := ρ3) (g := g2) (t := s) (x := x) (i := 9) (j := 3) rfl rfl (is.ext E02) (ix.ext E02) (by have := ch_siz s; have := bs.sz; omega)
  have bX : Bt X.er (max (14 - p.length) 5) 8200 := by rw [eX, ← er_c s, ← er_l s]; exact bs.ext bx
  have E03 := E02.trans E3
  obtain ⟨g4, P2, e7, E4, iP2, eP2, _⟩ := put59 (x := X) (it.ext E03) iX (by omega) (by omega) hs
  have bP2 : Bt P2.er 18 16392 := by rw [eP2]; exact (bt.put bX (l3 := 18) (by omega)).mono (by omega) (by omega)
  have E04 := E03.trans E4
  obtain ⟨g5, Y, e8, E5, iY, eY⟩ := cut_e (Φ := Phi 59) (ρ := ρ3) (g := g4) (t := s) (i := 9) rfl (is.ext E04) rfl
  have bY : Bt Y.er (14 - p.length) 8192 := by rw [eY, ← er_c s, ← er_l s]; exact bs.cut
  have E05 := E04.trans E5
  obtain ⟨g6, P3, e9, E6, iP3, eP3, _⟩ := put59 (x := Y) (it.ext E05) iY (by omega) (by omega) hs
  have bP3 : Bt P3.er 14 16384 := by rw [eP3]; exact (bt.put bY (l3 := 14) (by omega)).mono (by omega) (by omega)
  have E06 := E05.trans E6
  let g7 := g6 ++ [O.lst [C.w, P1.w, P2.w, P3.w]]
  have E07 : Ext g g7 := E06.trans Ext.app
  let ts1 := ts ++ [C, P1, P2, P3]
  let g8 := g7 ++ [O.lst (ts1.map LT.w)]
  have E78 : Ext g7 g8 := Ext.app
  have E08 : Ext g g8 := E07.trans E78
  have h8 : g8[g7.length]? = some (.lst (ts1.map LT.w)) := app_new
  have E17 : Ext g1 g7 := (E2.trans (E3.trans (E4.trans (E5.trans E6)))).trans Ext.app
  have n7 : ∀ T ∈ ts1, Nt g7 T := by
    intro T hT
    rcases List.mem_append.mp hT with hT | hT
    · exact (nts T hT).ext E07
    · rcases List.mem_cons.mp hT with rfl | hT
      · exact (bC.nt iC (by omega) (by omega)).ext E17
      rcases List.mem_cons.mp hT with rfl | hT
      · exact (bP1.nt iP1 (by omega) (by omega)).ext ((E3.trans (E4.trans (E5.trans E6))).trans Ext.app)
      rcases List.mem_cons.mp hT with rfl | hT
      · exact (bP2.nt iP2 (by omega) (by omega)).ext ((E5.trans E6).trans Ext.app)
      · rw [List.mem_singleton.mp hT]
        exact (bP3.nt iP3 (by omega) (by omega)).ext Ext.app
  let ρ4 : Bi.Env := ρ g7.length (some (.tup (plW p))) (some s.w) (some (.tup (plW q))) (some s2.w) (some C.w)
  have first4 : ∀ r, exs (Phi 59) [.ite (.and (.b2 .ne (.sl false true (.v 10) (.c .non) (.f1 .len (.v 8))) (.v 8)) (.b2 .ne (.sl false true (.v 8) (.c .non) (.f1 .len (.v 10))) (.v 10))) [.ex (.me .list .append (.v 6) [(.call 18 [(.v 12), (.v 10), (.tup [(.b2 .ix (.v 11) (.c (.int 0))), (.b2 .add (.b2 .ix (.v 11) (.c (.int 1))) (.lst [(.v 3)]))])])])] []] ρ4 g8 = r → exs (Phi 59) bodyB (ρ c6 x8 x9 x10 x11 x12) g = r := by
    intro r hr
    refine b_cons (ρ' := ρ c6 (some (.tup (plW p))) (some s.w) x10 x11 x12) (h1 := g) (x_asg e1 rfl) ?_
    refine b_cons (ρ' := ρ c6 (some (.tup (plW p))) (some s.w) (some (.tup (plW q))) (some s2.w) x12) (h1 := g) (x_asg e2 rfl) ?_
    refine b_cons (ρ' := ρ3) (h1 := g1) (x_asg (e_call (es_cons (e_v rfl) (es_cons (e_v rfl) (es_cons (e_v rfl) es_nil))) e3) rfl) ?_
    refine b_cons (ρ' := ρ4) (h1 := g8) (x_asg (w := .loc g7.length) (e_b2 (x := .loc c6) (y := .loc g6.length) (h1 := g1) (h2 := g7) (e_v rfl) (e_lst (h1 := g6) (es_cons (h1 := g1) (e_v rfl) (es_cons (h1 := g2) (e_call (h1 := g1) (es_cons (e_v rfl) (es_cons (e_v rfl) (es_cons e4 es_nil))) e5) (es_cons (h1 := g4) (e_call (h1 := g3) (es_cons (e_v rfl) (es_cons (e_v rfl) (es_cons e6 es_nil))) e7) (es_cons (h1 := g6) (e_call (h1 := g5) (es_cons (e_v rfl) (es_cons (e_v rfl) (es_cons e8 es_nil))) e9) es_nil)))) (szw rfl)) ?_) rfl) hr
    rw [o_catL (E07 _ _ h6) app_new (szl (by simp; omega))]
    show _ = some (Rs.ok _, g7 ++ [O.lst (ts1.map LT.w)])
    rw [List.map_append]; rfl
  have c1 : ev (Phi 59) (.b2 .ne (.sl false true (.v 10) (.c .non) (.f1 .len (.v 8))) (.v 8)) ρ4 g8 = some (.ok (.bl (decide (q.take p.length ≠ p))), g8) :=
    e_b2 (x := .tup (plW (q.take p.length))) (y := .tup (plW p)) (h1 := g8) (h2 := g8) (e_sl (x := .tup (plW q)) (h1 := g8) (h2 := g8) (h3 := g8) (e_v rfl) p_no (p_yes (e_f1 (x := .tup (plW p)) (h1 := g8) (e_v rfl) o_lenp)) (by rw [o_slT, cut_to', plW_take])) (e_v rfl) o_nep
  have c2 : ev (Phi 59) (.b2 .ne (.sl false true (.v 8) (.c .non) (.f1 .len (.v 10))) (.v 10)) ρ4 g8 = some (.ok (.bl (decide (p.take q.length ≠ q))), g8) :=
    e_b2 (x := .tup (plW (p.take q.length))) (y := .tup (plW q)) (h1 := g8) (h2 := g8) (e_sl (x := .tup (plW p)) (h1 := g8) (h2 := g8) (h3 := g8) (e_v rfl) p_no (p_yes (e_f1 (x := .tup (plW q)) (h1 := g8) (e_v rfl) o_lenp)) (by rw [o_slT, cut_to', plW_take])) (e_v rfl) o_nep
  have stop : ∀ r, exs (Phi 59) bodyB (ρ c6 x8 x9 x10 x11 x12) g = some (.ok (.nx, ρ4), g8) → r = g8 → ∃ (g' : Store) (c6' : Nat) (ts' : List LT) (y8 y9 y10 y11 y12 : Option W), exs (Phi 59) bodyB (ρ c6 x8 x9 x10 x11 x12) g = some (.ok (.nx, ρ c6' y8 y9 y10 y11 y12), g') ∧ Ext g g' ∧ g'[c6']? = some (.lst (ts'.map LT.w)) ∧ (∀ T ∈ ts', Nt g' T) ∧ ts'.length ≤ ts.length + 5 := by
    intro r e _
    exact ⟨g8, g7.length, ts1, some (.tup (plW p)), some s.w, some (.tup (plW q)), some s2.w, some C.w, e, E08, h8, fun T hT => (n7 T hT).ext E78, by simp [ts1]⟩
  by_cases d1 : q.take p.length ≠ p
  · by_cases d2 : p.take q.length ≠ q
    · -- one more
      obtain ⟨g9, X2, e10, E9, iX2, eX2, laX2⟩ := ext_e (Φ := Phi 59) (ρ := ρ4) (g := g8) (t := s2) (x := x) (i := 11) (j := 3) rfl rfl (is2.ext E08) (ix.ext E08) (by have := ch_siz s2; have := bs2.sz; omega)
      have bX2 : Bt X2.er (max (14 - q.length) 5) 8200 := by rw [eX2, ← er_c s2, ← er_l s2]; exact bs2.ext bx
      obtain ⟨b, hb⟩ := sub_put (x := x.er) p q t.er s2.er (sub_er hs2) d1
      rw [← eC, er_sub] at hb
      obtain ⟨s3, hs3, _⟩ := Option.map_eq_some_iff.mp hb
      have E89 := E9
      have E19 : Ext g1 g9 := (E17.trans E78).trans E9
      obtain ⟨g10, P4, e11, E10, iP4, eP4, laP4⟩ := put59 (x := X2) (iC.ext E19) iX2 (by have := bC.sz; omega) (by omega) hs3
      have bP4 : Bt P4.er 18 16400 := by rw [eP4]; exact (bC.put bX2 (l3 := 18) (by omega)).mono (by omega) (by omega)
      have h10 : g10[g7.length]? = some (.lst (ts1.map LT.w)) := (E9.trans E10) _ _ h8
      let g11 := g10.set g7.length (.lst (ts1.map LT.w ++ [P4.w]))
      have E711 : Ext g7 g11 := (E78.trans (E9.trans E10)).set (Nat.le_refl _)
      have l78 : g8.length = g7.length + 1 := by simp [g8]
      have la4 : LA (fun i => i ≠ g7.length) P4 := by
        have l89 := E9.len
        refine laP4 _ (fun i hi => by show i ≠ _; omega) ?_ ?_
        · refine iC.la.mono fun i hi => ?_
          have := E17.len
          omega
        · refine laX2 _ (fun i hi => by show i ≠ _; omega) ?_ ?_
          · refine is2.la.mono fun i hi => ?_
            have := E07.len
            omega
          · refine ix.la.mono fun i hi => ?_
            have := E07.len
            omega
      refine ⟨g11, g7.length, ts1 ++ [P4], some (.tup (plW p)), some s.w, some (.tup (plW q)), some s2.w, some C.w, first4 _ ?_, E07.trans E711, ?_, ?_, by simp [ts1]⟩
      · refine b_one (x_ite1 (e_and1 c1 (bT d1) c2) (bT d2) ?_)
        exact b_cons (ρ' := ρ4) (h1 := g11) (x_ex (w := .non) (e_me (x := .loc g7.length) (h1 := g8) (h2 := g10) (ws := [P4.w]) (e_v rfl) (k_lst h8) (es_cons (e_call (h1 := g9) (es_cons (e_v rfl) (es_cons (e_v rfl) (es_cons e10 es_nil))) e11) es_nil) (o_app h10 (Nat.lt_of_lt_of_le (show _ < 2000 by simp [ts1]; omega) (szl (by omega)))))) b_nil
      · rw [List.map_append]
        exact set_at (lt_of h10)
      · intro T hT
        rcases List.mem_append.mp hT with hT | hT
        · exact (n7 T hT).ext E711
        · rw [List.mem_singleton.mp hT]
          exact bP4.nt (iP4.setNe la4) (by omega) (by omega)
    · exact stop g8 (first4 _ (b_one (x_ite0 (e_and1 c1 (bT d1) c2) (bF d2) b_nil))) rfl
  · exact stop g8 (first4 _ (b_one (x_ite0 (e_and0 c1 (bF d1)) (bF d1) b_nil))) rfl
theorem loop_b {t x : LT} {l4 l5 : Nat} {outs : List Nat} {v0 v1 : Option W} {R : List (Option W)} (bt : Bt t.er 14 8192) (bx : Bt x.er 4 8) (h30 : outs.length = 30) : ∀ (m k : Nat) (g : Store) (c6 : Nat) (ts : List LT) (x7 x8 x9 x10 x11 x12 : Option W), In g t → In g x → g[l4]? = some (.lst (intW outs)) → g[l5]? = some (.lst ((t.nodes []).map pairW)) → g[c6]? = some (.lst (ts.map LT.w)) → (∀ T ∈ ts, Nt g T) → ts.length + 5 * m ≤ 900 → k + m ≤ 20 →
    ∃ (g' : Store) (c6' : Nat) (ts' : List LT) (y7 y8 y9 y10 y11 y12 : Option W), forM none (forF (Phi 59) (.nm 7) bodyB) (up k m) (v0 :: v1 :: some t.w :: some x.w :: some (.loc l4) :: some (.loc l5) :: some (.loc c6) :: x7 :: x8 :: x9 :: x10 :: x11 :: x12 :: R) g = some (.ok (.nx, v0 :: v1 :: some t.w :: some x.w :: some (.loc l4) :: some (.loc l5) :: some (.loc c6') :: y7 :: y8 :: y9 :: y10 :: y11 :: y12 :: R), g') ∧ Ext g g' ∧ g'[c6']? = some (.lst (ts'.map LT.w)) ∧ (∀ T ∈ ts', Nt g' T) ∧ ts'.length ≤ 900 := by
  intro m
  induction m with
  | zero =>
    intro k g c6 ts x7 x8 x9 x10 x11 x12 it ix h4 h5 h6 nts hz hk
    exact ⟨g, c6, ts, x7, x8, x9, x10, x11, x12, f_nil st0, Ext.refl, h6, nts, by omega⟩
  | succ m ih =>
    intro k g c6 ts x7 x8 x9 x10 x11 x12 it ix h4 h5 h6 nts hz hk
    obtain ⟨g1, c7, ts1, y8, y9, y10, y11, y12, e1, E1, q1, q2, q3⟩ := turn_b (k := k) (v0 := v0) (v1 := v1) (x8 := x8) (x9 := x9) (x10 := x10) (x11 := x11) (x12 := x12) (R := R) it ix bt bx h4 h30 h5 h6 nts (by omega) (by omega)
    obtain ⟨g2, c8, ts2, z7, z8, z9, z10, z11, z12, e2, E2, r1, r2, r3⟩ := ih (k + 1) g1 c7 ts1 (some (.int (k : Int))) y8 y9 y10 y11 y12 (it.ext E1) (ix.ext E1) (E1 _ _ h4) (E1 _ _ h5) q1 q2 (by omega) (by omega)
    exact ⟨g2, c8, ts2, z7, z8, z9, z10, z11, z12, f_cons st0 (forF_in rfl e1) e2, E1.trans E2, r1, r2, r3⟩
end Lw
set_option maxHeartbeats 8000000
namespace Lw
open PySem L2 Bi
theorem loop_c {t c : LT} {h : Store} {c6 : Nat} {xs : List W} {v0 v1 v3 v4 v5 v6 v7 v8 v9 v10 v11 v12 : Option W} (h6 : h[c6]? = some (.lst xs)) (ec : c.er = t.er) : ∀ (todo : List LT) (g : Store) (x14 x15 x16 x17 : Option W), Ext h g → Nt g t → Nt g c → (∀ T ∈ todo, Nt g T) →
    ∃ (g' : Store) (y14 y15 y16 y17 : Option W), forM (some (c6, xs)) (forF (Phi 59) (.nm 14) bodyC) (todo.map LT.w) [v0, v1, some t.w, v3, v4, v5, v6, v7, v8, v9, v10, v11, v12, some c.w, x14, x15, x16, x17] g = some (.ok (.nx, [v0, v1, some t.w, v3, v4, v5, v6, v7, v8, v9, v10, v11, v12, some c.w, y14, y15, y16, y17]), g') ∧ Ext g g' := by
  intro todo
  induction todo with
  | nil => intro g x14 x15 x16 x17 E nt nc no; exact ⟨g, x14, x15, x16, x17, f_nil (show stands (some (c6, xs)) g from E _ _ h6), Ext.refl⟩
  | cons o todo ih =>
    intro g x14 x15 x16 x17 E nt nc no
    obtain ⟨g1, y15, y16, y17, e1, E1⟩ := chk_body (v0 := v0) (v1 := v1) (v3 := v3) (v4 := v4) (v5 := v5) (v6 := v6) (v7 := v7) (v8 := v8) (v9 := v9) (v10 := v10) (v11 := v11) (v12 := v12) (x15 := x15) (x16 := x16) (x17 := x17) nt nc (no o List.mem_cons_self) ec
    obtain ⟨g2, z14, z15, z16, z17, e2, E2⟩ := ih g1 (some o.w) y15 y16 y17 (E.trans E1) (nt.ext E1) (nc.ext E1) fun T hT => (no T (List.mem_cons_of_mem _ hT)).ext E1
    exact ⟨g2, z14, z15, z16, z17, f_cons (show stands (some (c6, xs)) g from E _ _ h6) (forF_in rfl e1) e2, E1.trans E2⟩
theorem Dv_none {s t : Tr} (h : one s t = none) : ∀ n, Dv n s t = []
  | 0 => rfl
  | n + 1 => by rw [Dv, h]
theorem strOk1 {s : Str} (h : (s.cps.toList.all fun c => decide (c < 0x110000)) = true) : PyData.strOk s = true := by
  unfold PyData.strOk; rw [← Array.all_toList]; exact h
abbrev cA : Str := "a"
abbrev cB : Str := "b"
theorem okA : PyData.strOk cA = true := strOk1 (by decide)
theorem okB : PyData.strOk cB = true := strOk1 (by decide)
theorem leaf_nt {g : Store} {s : Str} (h : PyData.strOk s = true) : Nt (g ++ [.lst []]) (.nd s g.length []) :=
  ⟨.nd app_new (fun _ h => nomatch h), by rw [er_nd]; exact good_nd.mpr ⟨h, fun _ h => nomatch h⟩, by rw [er_nd, Tr.lev]; show 0 + 1 ≤ 31; omega, by rw [er_nd, Tr.siz]; show 0 + 1 ≤ 17000; omega⟩
abbrev eLeaf (s : Str) : E := .tup [(.c (.str s)), (.lst [])]
/-- a node over leaves b -/
theorem over_e {Φ : Ora} {ρ : Bi.Env} {g : Store} (m : Nat) (hm : m = 1 ∨ m = 2) : ∃ g' T, ev Φ (.tup [(.c (.str cA)), (.lst (List.replicate m (eLeaf cB)))]) ρ g = some (.ok (LT.w T), g') ∧ Ext g g' ∧ Nt g' T ∧ T.er = .nd cA (List.replicate m (.nd cB [])) := by
  rcases hm with rfl | rfl
  · let g1 := g ++ [O.lst []]
    let b1 : LT := .nd cB g.length []
    have n1 : Nt g1 b1 := leaf_nt okB
    let g2 := g1 ++ [O.lst [b1.w]]
    refine ⟨g2, .nd cA g1.length [b1], e_tup (es_cons e_c (es_cons (e_lst (h1 := g1) (es_cons leaf_e es_nil) (szw rfl)) es_nil)) (szw rfl), Ext.app.trans Ext.app, ⟨.nd app_new fun y hy => by rw [List.mem_singleton.mp hy]; exact n1.i.ext Ext.app, ?_, ?_, ?_⟩, by rw [er_nd]; rfl⟩
    · rw [er_nd]; exact good_nd.mpr ⟨okA, fun y hy => by rw [List.mem_singleton.mp hy]; exact n1.gd⟩
    · rw [er_nd, Tr.lev]
      have := levL_le (ts := [b1].map LT.er) (n := 1) fun y hy => by rw [List.mem_singleton.mp hy, er_nd, Tr.lev]; exact Nat.le_refl _
      omega
    · rw [er_nd, Tr.siz]
      show b1.er.siz + 0 + 1 ≤ _
      rw [er_nd, Tr.siz]; show 0 + 1 + 0 + 1 ≤ _; omega
  · let g1 := g ++ [O.lst []]
    let b1 : LT := .nd cB g.length []
    have n1 : Nt g1 b1 := leaf_nt okB
    let g2 := g1 ++ [O.lst []]
    let b2 : LT := .nd cB g1.length []
    have n2 : Nt g2 b2 := leaf_nt okB
    let g3 := g2 ++ [O.lst [b1.w, b2.w]]
    have hm : ∀ y ∈ [b1, b2], Nt g2 y := fun y hy => by
      rcases List.mem_cons.mp hy with rfl | hy
      · exact n1.ext Ext.app
      · rw [List.mem_singleton.mp hy]; exact n2
    have he : ∀ y ∈ [b1, b2].map LT.er, y = .nd cB [] := fun y hy => by
      obtain ⟨z, hz, rfl⟩ := List.mem_map.mp hy
      rcases List.mem_cons.mp hz with rfl | hz
      · rw [er_nd]; rfl
      · rw [List.mem_singleton.mp hz, er_nd]; rfl
    refine ⟨g3, .nd cA g2.length [b1, b2], e_tup (es_cons e_c (es_cons (e_lst (h1 := g2) (es_cons (h1 := g1) leaf_e (es_cons leaf_e es_nil)) (szw rfl)) es_nil)) (szw rfl), (Ext.app.trans Ext.app).trans Ext.app, ⟨.nd app_new fun y hy => (hm y hy).i.ext Ext.app, ?_, ?_, ?_⟩, by rw [er_nd]; rfl⟩
    · rw [er_nd]; exact good_nd.mpr ⟨okA, fun y hy => by rw [he y hy]; exact good_nd.mpr ⟨okB, fun _ h => nomatch h⟩⟩
    · rw [er_nd, Tr.lev]
      have := levL_le (ts := [b1, b2].map LT.er) (n := 1) fun y hy => by rw [he y hy, Tr.lev]; exact Nat.le_refl _
      omega
    · rw [er_nd, Tr.siz]
      show b1.er.siz + (b2.er.siz + 0) + 1 ≤ _
      rw [er_nd, er_nd, Tr.siz]; show 0 + 1 + (0 + 1 + 0) + 1 ≤ _; omega
abbrev eFin : E := .and (.b2 .eq (.call 11 [(.tup [(.c (.str "a")), (.lst [])]), (.tup [(.c (.str "b")), (.lst [])])]) (.tup [(.tup []), (.tup [(.c (.str "a")), (.lst [])]), (.tup [(.c (.str "b")), (.lst [])])])) (.b2 .eq (.call 11 [(.tup [(.c (.str "a")), (.lst [(.tup [(.c (.str "b")), (.lst [])]), (.tup [(.c (.str "b")), (.lst [])])])]), (.tup [(.c (.str "a")), (.lst [(.tup [(.c (.str "b")), (.lst [])])])])]) (.tup [(.tup []), (.tup [(.c (.str "a")), (.lst [(.tup [(.c (.str "b")), (.lst [])]), (.tup [(.c (.str "b")), (.lst [])])])]), (.tup [(.c (.str "a")), (.lst [(.tup [(.c (.str "b")), (.lst [])])])])]))
theorem fin_ok {ρ : Bi.Env} {g : Store} : ∃ g', ev (Phi 59) eFin ρ g = some (.ok (.bl true), g') := by
  let g1 := g ++ [O.lst []]
  let a : LT := .nd cA g.length []
  have na : Nt g1 a := leaf_nt okA
  let g2 := g1 ++ [O.lst []]
  let b : LT := .nd cB g1.length []
  have nb : Nt g2 b := leaf_nt okB
  have one1 : one a.er b.er = none := by
    unfold one
    rw [if_neg]
    rintro ⟨z, _⟩
    rw [er_l, er_l] at z
    exact absurd (show cA = cB from z) (by decide)
  have ne1 : a.er ≠ b.er := fun z => by
    have z2 := congrArg Tr.l z
    rw [er_l, er_l] at z2
    exact absurd (show cA = cB from z2) (by decide)
  obtain ⟨g3, A, B, e3, E3, nA, nB, eA, eB, _, _⟩ := dif59 (S := a) (T := b) (A' := a) (B' := b) (na.ext Ext.app) nb rfl rfl ne1 (D := []) (Dv_none one1 _) rfl rfl
  let g4 := g3 ++ [O.lst []]
  let a' : LT := .nd cA g3.length []
  have na' : Nt g4 a' := leaf_nt okA
  let g5 := g4 ++ [O.lst []]
  let b' : LT := .nd cB g4.length []
  have nb' : Nt g5 b' := leaf_nt okB
  have E35 : Ext g3 g5 := Ext.app.trans Ext.app
  have q1 : op2 .eq (.tup [.tup (plW []), A.w, B.w]) (.tup [.tup (plW []), a'.w, b'.w]) g5 = some (.ok (.bl true), g5) := o_eq3 (nA.ext E35) (nB.ext E35) (na'.ext Ext.app) nb' (by rw [eA, er_nd, er_nd]) (by rw [eB, er_nd, er_nd])
  have first : ev (Phi 59) (.b2 .eq (.call 11 [(.tup [(.c (.str "a")), (.lst [])]), (.tup [(.c (.str "b")), (.lst [])])]) (.tup [(.tup []), (.tup [(.c (.str "a")), (.lst [])]), (.tup [(.c (.str "b")), (.lst [])])])) ρ g = some (.ok (.bl true), g5) :=
    e_b2 (h1 := g3) (h2 := g5) (e_call (h1 := g2) (es_cons (h1 := g1) leaf_e (es_cons leaf_e es_nil)) e3) (e_tup (es_cons (h1 := g3) (e_tup es_nil (szw rfl)) (es_cons (h1 := g4) leaf_e (es_cons leaf_e es_nil))) (szw rfl)) q1
  -- the second
  obtain ⟨k1, S, f1, F1, nS, eS⟩ := over_e (Φ := Phi 59) (ρ := ρ) (g := g5) 2 (.inr rfl)
  obtain ⟨k2, T, f2, F2, nT, eT⟩ := over_e (Φ := Phi 59) (ρ := ρ) (g := k1) 1 (.inl rfl)
  have one2 : one S.er T.er = none := by
    unfold one
    rw [if_neg]
    rintro ⟨_, z⟩
    rw [eS, eT] at z
    exact absurd (show (2 : Nat) = 1 from z) (by decide)
  have ne2 : S.er ≠ T.er := fun z => by
    rw [eS, eT] at z
    have := congrArg (fun t => t.ch.length) z
    exact absurd (show (2 : Nat) = 1 from this) (by decide)
  obtain ⟨k3, A2, B2', f3, F3, nA2, nB2, eA2, eB2, _, _⟩ := dif59 (S := S) (T := T) (A' := S) (B' := T) (nS.ext F2) nT rfl rfl ne2 (D := []) (Dv_none one2 _) rfl rfl
  obtain ⟨k4, S2, f4, F4, nS2, eS2⟩ := over_e (Φ := Phi 59) (ρ := ρ) (g := k3) 2 (.inr rfl)
  obtain ⟨k5, T2, f5, F5, nT2, eT2⟩ := over_e (Φ := Phi 59) (ρ := ρ) (g := k4) 1 (.inl rfl)
  have q2 : op2 .eq (.tup [.tup (plW []), A2.w, B2'.w]) (.tup [.tup (plW []), S2.w, T2.w]) k5 = some (.ok (.bl true), k5) := o_eq3 (nA2.ext (F4.trans F5)) (nB2.ext (F4.trans F5)) (nS2.ext F5) nT2 (by rw [eA2, eS, eS2]) (by rw [eB2, eT, eT2])
  refine ⟨k5, e_and1 first rfl ?_⟩
  exact e_b2 (h1 := k3) (h2 := k5) (e_call (h1 := k2) (es_cons (h1 := k1) f1 (es_cons f2 es_nil)) f3) (e_tup (es_cons (h1 := k3) (e_tup es_nil (szw rfl)) (es_cons (h1 := k4) f4 (es_cons f5 es_nil))) (szw rfl)) q2
theorem law_true (ns : List Int) (h : ns.length ≤ 63) : ∃ h', Phi 60 20 [.scr ns] [] = some (.ok (.bl true), h') := by
  obtain ⟨h1, r, labs, e1, E1, hr, lne, ll, lok⟩ := lab_ok 57 (ns := ns) (which := 0) (many := 4) (h := []) (by omega) (by omega)
  obtain ⟨h2, t, e2, E2, it, gt, lt, zt⟩ := tree_ok 57 (ns := ns) (which := 1) (most := 14) hr lne (by omega) lok (by omega) (by omega)
  obtain ⟨h3, x, e3, E3, ix, gx, lx, zx⟩ := tree_ok 57 (ns := ns) (which := 2) (most := 4) (E2 _ _ hr) lne (by omega) lok (by omega) (by omega)
  have bt : Bt t.er 14 8192 := ⟨gt, lt, Nat.le_trans zt (by decide)⟩
  have bx : Bt x.er 4 8 := ⟨gx, lx, Nat.le_trans zx (by decide)⟩
  have tz := bt.sz
  obtain ⟨outs, e4, l4, b4⟩ := num_ok 58 (ns := ns) (which := 3) (many := 30) (h := h3) (by omega)
  let h4 := h3 ++ [O.lst (intW outs)]
  have E34 : Ext h3 h4 := Ext.app
  have a4 : h4[h3.length]? = some (.lst (intW outs)) := app_new
  have it4 := it.ext (E3.trans E34)
  have ix4 := ix.ext E34
  obtain ⟨h5, r5, e5, E5, a5⟩ := lnodes_ok t [] (59 - t.er.lev) h4 it4 (by omega) (by simp; omega)
  rw [Nat.sub_add_cancel (by omega)] at e5
  obtain ⟨h6, t4, e6, E6, it46, gt4, lt4, zt4⟩ := tree_ok 57 (ns := ns) (which := 4) (most := 14) (h := h5) ((E2.trans (E3.trans (E34.trans E5))) _ _ hr) lne (by omega) lok (by omega) (by omega)
  have bt4 : Bt t4.er 14 8192 := ⟨gt4, lt4, Nat.le_trans zt4 (by decide)⟩
  have E46 := E5.trans E6
  let ρ5 : Bi.Env := [some (.scr ns), some (.loc r), some t.w, some x.w, some (.loc h3.length), some (.loc r5), none, none, none, none, none, none, none, none, none, none, none, none]
  obtain ⟨h7, X, e7, E7, iX, eX, _⟩ := ext_e (Φ := Phi 59) (ρ := ρ5) (g := h6) (t := t) (x := x) (i := 2) (j := 3) rfl rfl (it4.ext E46) (ix4.ext E46) (by have := ch_siz t; omega)
  have bX : Bt X.er 14 8200 := by rw [eX, ← er_c t, ← er_l t]; exact (bt.ext bx).mono (by omega) (by omega)
  have E47 := E46.trans E7
  obtain ⟨h8, Y, e8, E8, iY, eY⟩ := cut_e (Φ := Phi 59) (ρ := ρ5) (g := h7) (t := t) (i := 2) rfl (it4.ext E47) rfl
  have bY : Bt Y.er 14 8192 := by rw [eY, ← er_c t, ← er_l t]; exact bt.cut
  have E48 := E47.trans E8
  obtain ⟨h9, Z, e9, E9, iZ, eZ⟩ := rev_e (Φ := Phi 59) (ρ := ρ5) (g := h8) (t := t) (i := 2) rfl (it4.ext E48)
  have bZ : Bt Z.er 14 8192 := by rw [eZ, ← er_c t, ← er_l t]; exact bt.rev
  have E49 := E48.trans E9
  let ts : List LT := [t, x, t4, X, Y, Z]
  let h10 := h9 ++ [O.lst (ts.map LT.w)]
  have E410 : Ext h4 h10 := E49.trans Ext.app
  have E910 : Ext h9 h10 := Ext.app
  have nts : ∀ T ∈ ts, Nt h10 T := by
    intro T hT
    rcases List.mem_cons.mp hT with rfl | hT
    · exact (bt.nt it4 (by omega) (by omega)).ext E410
    rcases List.mem_cons.mp hT with rfl | hT
    · exact (bx.nt ix4 (by omega) (by omega)).ext E410
    rcases List.mem_cons.mp hT with rfl | hT
    · exact (bt4.nt it46 (by omega) (by omega)).ext ((E7.trans (E8.trans E9)).trans E910)
    rcases List.mem_cons.mp hT with rfl | hT
    · exact (bX.nt iX (by omega) (by omega)).ext ((E8.trans E9).trans E910)
    rcases List.mem_cons.mp hT with rfl | hT
    · exact (bY.nt iY (by omega) (by omega)).ext (E9.trans E910)
    · rw [List.mem_singleton.mp hT]
      exact (bZ.nt iZ (by omega) (by omega)).ext E910
  obtain ⟨h11, c6, ts', y7, y8, y9, y10, y11, y12, e11, E11, a11, n11, l11⟩ := loop_b (v0 := some (.scr ns)) (v1 := some (.loc r)) (R := [none, none, none, none, none]) bt bx l4 5 0 h10 h9.length ts none none none none none none (it4.ext E410) (ix4.ext E410) (E410 _ _ a4) ((E6.trans (E7.trans (E8.trans (E9.trans E910)))) _ _ a5) app_new nts (by simp [ts]) (by omega)
  have nt11 : Nt h11 t := (bt.nt it4 (by omega) (by omega)).ext (E410.trans E11)
  obtain ⟨h12, c, e12, E12, nc, ec⟩ := copy59 nt11
  obtain ⟨h13, y14, y15, y16, y17, e13, E13⟩ := loop_c (v0 := some (.scr ns)) (v1 := some (.loc r)) (v3 := some x.w) (v4 := some (.loc h3.length)) (v5 := some (.loc r5)) (v6 := some (.loc c6)) (v7 := y7) (v8 := y8) (v9 := y9) (v10 := y10) (v11 := y11) (v12 := y12) (E12 _ _ a11) ec ts' h12 none none none none Ext.refl (nt11.ext E12) nc (fun T hT => (n11 T hT).ext E12)
  obtain ⟨h14, e14⟩ := fin_ok (ρ := [some (.scr ns), some (.loc r), some t.w, some x.w, some (.loc h3.length), some (.loc r5), some (.loc c6), y7, y8, y9, y10, y11, y12, some c.w, y14, y15, y16, y17]) (g := h13)
  refine ⟨h14, ?_⟩
  show runD (Phi 59) ir_law 18 [.scr ns] [] = _
  refine d_ret (ρ' := [some (.scr ns), some (.loc r), some t.w, some x.w, some (.loc h3.length), some (.loc r5), some (.loc c6), y7, y8, y9, y10, y11, y12, some c.w, y14, y15, y16, y17]) ?_
  refine b_cons (ρ' := [some (.scr ns), some (.loc r), none, none, none, none, none, none, none, none, none, none, none, none, none, none, none, none]) (h1 := h1) (x_asg (e_call (h1 := []) (es_cons (e_v rfl) (es_cons e_c (es_cons e_c es_nil))) e1) rfl) ?_
  refine b_cons (ρ' := [some (.scr ns), some (.loc r), some t.w, some x.w, none, none, none, none, none, none, none, none, none, none, none, none, none, none]) (h1 := h3) (x_asg (e_tup (es_cons (e_call (h1 := h1) (es_cons (e_v rfl) (es_cons e_c (es_cons (e_v rfl) (es_cons e_c es_nil)))) e2) (es_cons (e_call (h1 := h2) (es_cons (e_v rfl) (es_cons e_c (es_cons (e_v rfl) (es_cons e_c es_nil)))) e3) es_nil)) (szw rfl)) rfl) ?_
  refine b_cons (ρ' := [some (.scr ns), some (.loc r), some t.w, some x.w, some (.loc h3.length), none, none, none, none, none, none, none, none, none, none, none, none, none]) (h1 := h4) (x_asg (e_call (h1 := h3) (es_cons (e_v rfl) (es_cons e_c (es_cons e_c es_nil))) e4) rfl) ?_
  refine b_cons (ρ' := ρ5) (h1 := h5) (x_asg (e_call (h1 := h4) (es_cons (e_v rfl) (es_cons (e_tup es_nil (szw rfl)) es_nil)) e5) rfl) ?_
  refine b_cons (ρ' := [some (.scr ns), some (.loc r), some t.w, some x.w, some (.loc h3.length), some (.loc r5), some (.loc h9.length), none, none, none, none, none, none, none, none, none, none, none]) (h1 := h10) (x_asg (e_lst (ws := ts.map LT.w) (h1 := h9) (es_cons (h1 := h5) (e_v rfl) (es_cons (h1 := h5) (e_v rfl) (es_cons (h1 := h6) (e_call (h1 := h5) (es_cons (e_v rfl) (es_cons e_c (es_cons (e_v rfl) (es_cons e_c es_nil)))) e6) (es_cons (h1 := h7) e7 (es_cons (h1 := h8) e8 (es_cons (h1 := h9) e9 es_nil)))))) (szw rfl)) rfl) ?_
  refine b_cons (ρ' := [some (.scr ns), some (.loc r), some t.w, some x.w, some (.loc h3.length), some (.loc r5), some (.loc c6), y7, y8, y9, y10, y11, y12, none, none, none, none, none]) (h1 := h11) (x_for (ws := [.int 5]) (h1 := h10) (es_cons e_c es_nil) (i_up (m := 5) (by omega)) e11) ?_
  refine b_cons (ρ' := [some (.scr ns), some (.loc r), some t.w, some x.w, some (.loc h3.length), some (.loc r5), some (.loc c6), y7, y8, y9, y10, y11, y12, some c.w, none, none, none, none]) (h1 := h12) (x_asg (e_call (h1 := h11) (es_cons (e_v rfl) es_nil) e12) rfl) ?_
  refine b_cons (ρ' := [some (.scr ns), some (.loc r), some t.w, some x.w, some (.loc h3.length), some (.loc r5), some (.loc c6), y7, y8, y9, y10, y11, y12, some c.w, y14, y15, y16, y17]) (h1 := h13) (x_for (ws := [.loc c6]) (h1 := h12) (es_cons (e_v rfl) es_nil) (i_lst (E12 _ _ a11)) e13) ?_
  exact b_ret (x_ret e14)
end Lw
set_option maxHeartbeats 4000000
namespace Lw
open PySem PySem.Spec PyProof.Rows L2 Bi
theorem fact_mk {K : PySem.W.Frag} {h : Heap} {mg : Str → Option Value} {x qual : Str} {st : Stmt} {f : Addr} {ps : List Str} {oc : Value} {od an : Option Addr} {sl : Array (Option Value)} {kV dc pm cd ct : Value} (X : K.In h) (G : h.Ns mainGlobals mg)
    (a : PySem.W.nsIn K mainGlobals x = some (some (.ref f))) (l : K.lookup f = some ⟨oc, od, .func (PySem.W.fnOf x qual (defArgs st) (defBody st) (defScope st) .none kV dc pm an cd ct), sl⟩) (c : PySem.W.codeIn K cd qual = true) (k : PySem.W.keepIn K (.ref f) = true)
    (hb : ∀ (kV doc pm : Value) (an : Option Addr) (cdv ct : Value) (us : List Value), us.length = ps.length → bindArgs (PySem.W.fnOf x qual (defArgs st) (defBody st) (defScope st) .none kV doc pm an cdv ct) ⟨us, []⟩ = pure (ps.zip us)) :
    ∃ f fd, Fun K x qual st f fd ∧ mg x = some (.ref f) ∧ Binds K fd ps [] :=
  have F := fun_mk (st := st) l c k
  ⟨f, _, F, PySem.W.mg_of X G a, F.binds hb⟩
theorem all_mk {w : World} {K : PySem.W.Frag} {h : Heap} {mg : Str → Option Value} {fa : Addr} (X : K.In h) (G : h.Ns mainGlobals mg) (hfa : mg "law" = some (.ref fa))
    {f0 : Addr} {oc0 kV0 dc0 pm0 cd0 ct0 : Value} {od0 an0 : Option Addr} {sl0 : Array (Option Value)}
    {f1 : Addr} {oc1 kV1 dc1 pm1 cd1 ct1 : Value} {od1 an1 : Option Addr} {sl1 : Array (Option Value)}
    {f2 : Addr} {oc2 kV2 dc2 pm2 cd2 ct2 : Value} {od2 an2 : Option Addr} {sl2 : Array (Option Value)}
    {f3 : Addr} {oc3 kV3 dc3 pm3 cd3 ct3 : Value} {od3 an3 : Option Addr} {sl3 : Array (Option Value)}
    {f4 : Addr} {oc4 kV4 dc4 pm4 cd4 ct4 : Value} {od4 an4 : Option Addr} {sl4 : Array (Option Value)}
    {f5 : Addr} {oc5 kV5 dc5 pm5 cd5 ct5 : Value} {od5 an5 : Option Addr} {sl5 : Array (Option Value)}
    {f6 : Addr} {oc6 kV6 dc6 pm6 cd6 ct6 : Value} {od6 an6 : Option Addr} {sl6 : Array (Option Value)}
    {f7 : Addr} {oc7 kV7 dc7 pm7 cd7 ct7 : Value} {od7 an7 : Option Addr} {sl7 : Array (Option Value)}
    {f8 : Addr} {oc8 kV8 dc8 pm8 cd8 ct8 : Value} {od8 an8 : Option Addr} {sl8 : Array (Option Value)}
    {f9 : Addr} {oc9 kV9 dc9 pm9 cd9 ct9 : Value} {od9 an9 : Option Addr} {sl9 : Array (Option Value)}
    {f10 : Addr} {oc10 kV10 dc10 pm10 cd10 ct10 : Value} {od10 an10 : Option Addr} {sl10 : Array (Option Value)}
    {f11 : Addr} {oc11 kV11 dc11 pm11 cd11 ct11 : Value} {od11 an11 : Option Addr} {sl11 : Array (Option Value)}
    {f12 : Addr} {oc12 kV12 dc12 pm12 cd12 ct12 : Value} {od12 an12 : Option Addr} {sl12 : Array (Option Value)}
    {f13 : Addr} {oc13 kV13 dc13 pm13 cd13 ct13 : Value} {od13 an13 : Option Addr} {sl13 : Array (Option Value)}
    {f14 : Addr} {oc14 kV14 dc14 pm14 cd14 ct14 : Value} {od14 an14 : Option Addr} {sl14 : Array (Option Value)}
    {f15 : Addr} {oc15 kV15 dc15 pm15 cd15 ct15 : Value} {od15 an15 : Option Addr} {sl15 : Array (Option Value)}
    {f16 : Addr} {oc16 kV16 dc16 pm16 cd16 ct16 : Value} {od16 an16 : Option Addr} {sl16 : Array (Option Value)}
    {f17 : Addr} {oc17 kV17 dc17 pm17 cd17 ct17 : Value} {od17 an17 : Option Addr} {sl17 : Array (Option Value)}
    {f18 : Addr} {oc18 kV18 dc18 pm18 cd18 ct18 : Value} {od18 an18 : Option Addr} {sl18 : Array (Option Value)}
    {f19 : Addr} {oc19 kV19 dc19 pm19 cd19 ct19 : Value} {od19 an19 : Option Addr} {sl19 : Array (Option Value)}
    {f20 : Addr} {oc20 kV20 dc20 pm20 cd20 ct20 : Value} {od20 an20 : Option Addr} {sl20 : Array (Option Value)}
    (a0 : PySem.W.nsIn K mainGlobals "is_whole" = some (some (.ref f0))) (l0 : K.lookup f0 = some ⟨oc0, od0, .func (PySem.W.fnOf "is_whole" "is_whole" (defArgs st_is_whole) (defBody st_is_whole) (defScope st_is_whole) .none kV0 dc0 pm0 an0 cd0 ct0), sl0⟩) (c0 : PySem.W.codeIn K cd0 "is_whole" = true) (k0 : PySem.W.keepIn K (.ref f0) = true)
    (a1 : PySem.W.nsIn K mainGlobals "is_place_form" = some (some (.ref f1))) (l1 : K.lookup f1 = some ⟨oc1, od1, .func (PySem.W.fnOf "is_place_form" "is_place_form" (defArgs st_is_place_form) (defBody st_is_place_form) (defScope st_is_place_form) .none kV1 dc1 pm1 an1 cd1 ct1), sl1⟩) (c1 : PySem.W.codeIn K cd1 "is_place_form" = true) (k1 : PySem.W.keepIn K (.ref f1) = true)
    (a2 : PySem.W.nsIn K mainGlobals "children_back" = some (some (.ref f2))) (l2 : K.lookup f2 = some ⟨oc2, od2, .func (PySem.W.fnOf "children_back" "children_back" (defArgs st_children_back) (defBody st_children_back) (defScope st_children_back) .none kV2 dc2 pm2 an2 cd2 ct2), sl2⟩) (c2 : PySem.W.codeIn K cd2 "children_back" = true) (k2 : PySem.W.keepIn K (.ref f2) = true)
    (a3 : PySem.W.nsIn K mainGlobals "all_nodes" = some (some (.ref f3))) (l3 : K.lookup f3 = some ⟨oc3, od3, .func (PySem.W.fnOf "all_nodes" "all_nodes" (defArgs st_all_nodes) (defBody st_all_nodes) (defScope st_all_nodes) .none kV3 dc3 pm3 an3 cd3 ct3), sl3⟩) (c3 : PySem.W.codeIn K cd3 "all_nodes" = true) (k3 : PySem.W.keepIn K (.ref f3) = true)
    (a4 : PySem.W.nsIn K mainGlobals "find_node" = some (some (.ref f4))) (l4 : K.lookup f4 = some ⟨oc4, od4, .func (PySem.W.fnOf "find_node" "find_node" (defArgs st_find_node) (defBody st_find_node) (defScope st_find_node) .none kV4 dc4 pm4 an4 cd4 ct4), sl4⟩) (c4 : PySem.W.codeIn K cd4 "find_node" = true) (k4 : PySem.W.keepIn K (.ref f4) = true)
    (a5 : PySem.W.nsIn K mainGlobals "with_node" = some (some (.ref f5))) (l5 : K.lookup f5 = some ⟨oc5, od5, .func (PySem.W.fnOf "with_node" "with_node" (defArgs st_with_node) (defBody st_with_node) (defScope st_with_node) .none kV5 dc5 pm5 an5 cd5 ct5), sl5⟩) (c5 : PySem.W.codeIn K cd5 "with_node" = true) (k5 : PySem.W.keepIn K (.ref f5) = true)
    (a6 : PySem.W.nsIn K mainGlobals "fresh" = some (some (.ref f6))) (l6 : K.lookup f6 = some ⟨oc6, od6, .func (PySem.W.fnOf "fresh" "fresh" (defArgs st_fresh) (defBody st_fresh) (defScope st_fresh) .none kV6 dc6 pm6 an6 cd6 ct6), sl6⟩) (c6 : PySem.W.codeIn K cd6 "fresh" = true) (k6 : PySem.W.keepIn K (.ref f6) = true)
    (a7 : PySem.W.nsIn K mainGlobals "is_place" = some (some (.ref f7))) (l7 : K.lookup f7 = some ⟨oc7, od7, .func (PySem.W.fnOf "is_place" "is_place" (defArgs st_is_place) (defBody st_is_place) (defScope st_is_place) .none kV7 dc7 pm7 an7 cd7 ct7), sl7⟩) (c7 : PySem.W.codeIn K cd7 "is_place" = true) (k7 : PySem.W.keepIn K (.ref f7) = true)
    (a8 : PySem.W.nsIn K mainGlobals "check_place" = some (some (.ref f8))) (l8 : K.lookup f8 = some ⟨oc8, od8, .func (PySem.W.fnOf "check_place" "check_place" (defArgs st_check_place) (defBody st_check_place) (defScope st_check_place) .none kV8 dc8 pm8 an8 cd8 ct8), sl8⟩) (c8 : PySem.W.codeIn K cd8 "check_place" = true) (k8 : PySem.W.keepIn K (.ref f8) = true)
    (a9 : PySem.W.nsIn K mainGlobals "replaced" = some (some (.ref f9))) (l9 : K.lookup f9 = some ⟨oc9, od9, .func (PySem.W.fnOf "replaced" "replaced" (defArgs st_replaced) (defBody st_replaced) (defScope st_replaced) .none kV9 dc9 pm9 an9 cd9 ct9), sl9⟩) (c9 : PySem.W.codeIn K cd9 "replaced" = true) (k9 : PySem.W.keepIn K (.ref f9) = true)
    (a10 : PySem.W.nsIn K mainGlobals "one_differs" = some (some (.ref f10))) (l10 : K.lookup f10 = some ⟨oc10, od10, .func (PySem.W.fnOf "one_differs" "one_differs" (defArgs st_one_differs) (defBody st_one_differs) (defScope st_one_differs) .none kV10 dc10 pm10 an10 cd10 ct10), sl10⟩) (c10 : PySem.W.codeIn K cd10 "one_differs" = true) (k10 : PySem.W.keepIn K (.ref f10) = true)
    (a11 : PySem.W.nsIn K mainGlobals "difference" = some (some (.ref f11))) (l11 : K.lookup f11 = some ⟨oc11, od11, .func (PySem.W.fnOf "difference" "difference" (defArgs st_difference) (defBody st_difference) (defScope st_difference) .none kV11 dc11 pm11 an11 cd11 ct11), sl11⟩) (c11 : PySem.W.codeIn K cd11 "difference" = true) (k11 : PySem.W.keepIn K (.ref f11) = true)
    (a12 : PySem.W.nsIn K mainGlobals "_law_numbers" = some (some (.ref f12))) (l12 : K.lookup f12 = some ⟨oc12, od12, .func (PySem.W.fnOf "_law_numbers" "_law_numbers" (defArgs st__law_numbers) (defBody st__law_numbers) (defScope st__law_numbers) .none kV12 dc12 pm12 an12 cd12 ct12), sl12⟩) (c12 : PySem.W.codeIn K cd12 "_law_numbers" = true) (k12 : PySem.W.keepIn K (.ref f12) = true)
    (a13 : PySem.W.nsIn K mainGlobals "_law_labels" = some (some (.ref f13))) (l13 : K.lookup f13 = some ⟨oc13, od13, .func (PySem.W.fnOf "_law_labels" "_law_labels" (defArgs st__law_labels) (defBody st__law_labels) (defScope st__law_labels) .none kV13 dc13 pm13 an13 cd13 ct13), sl13⟩) (c13 : PySem.W.codeIn K cd13 "_law_labels" = true) (k13 : PySem.W.keepIn K (.ref f13) = true)
    (a14 : PySem.W.nsIn K mainGlobals "_law_tree" = some (some (.ref f14))) (l14 : K.lookup f14 = some ⟨oc14, od14, .func (PySem.W.fnOf "_law_tree" "_law_tree" (defArgs st__law_tree) (defBody st__law_tree) (defScope st__law_tree) .none kV14 dc14 pm14 an14 cd14 ct14), sl14⟩) (c14 : PySem.W.codeIn K cd14 "_law_tree" = true) (k14 : PySem.W.keepIn K (.ref f14) = true)
    (a15 : PySem.W.nsIn K mainGlobals "_law_copy" = some (some (.ref f15))) (l15 : K.lookup f15 = some ⟨oc15, od15, .func (PySem.W.fnOf "_law_copy" "_law_copy" (defArgs st__law_copy) (defBody st__law_copy) (defScope st__law_copy) .none kV15 dc15 pm15 an15 cd15 ct15), sl15⟩) (c15 : PySem.W.codeIn K cd15 "_law_copy" = true) (k15 : PySem.W.keepIn K (.ref f15) = true)
    (a16 : PySem.W.nsIn K mainGlobals "_law_nodes" = some (some (.ref f16))) (l16 : K.lookup f16 = some ⟨oc16, od16, .func (PySem.W.fnOf "_law_nodes" "_law_nodes" (defArgs st__law_nodes) (defBody st__law_nodes) (defScope st__law_nodes) .none kV16 dc16 pm16 an16 cd16 ct16), sl16⟩) (c16 : PySem.W.codeIn K cd16 "_law_nodes" = true) (k16 : PySem.W.keepIn K (.ref f16) = true)
    (a17 : PySem.W.nsIn K mainGlobals "_law_at" = some (some (.ref f17))) (l17 : K.lookup f17 = some ⟨oc17, od17, .func (PySem.W.fnOf "_law_at" "_law_at" (defArgs st__law_at) (defBody st__law_at) (defScope st__law_at) .none kV17 dc17 pm17 an17 cd17 ct17), sl17⟩) (c17 : PySem.W.codeIn K cd17 "_law_at" = true) (k17 : PySem.W.keepIn K (.ref f17) = true)
    (a18 : PySem.W.nsIn K mainGlobals "_law_put" = some (some (.ref f18))) (l18 : K.lookup f18 = some ⟨oc18, od18, .func (PySem.W.fnOf "_law_put" "_law_put" (defArgs st__law_put) (defBody st__law_put) (defScope st__law_put) .none kV18 dc18 pm18 an18 cd18 ct18), sl18⟩) (c18 : PySem.W.codeIn K cd18 "_law_put" = true) (k18 : PySem.W.keepIn K (.ref f18) = true)
    (a19 : PySem.W.nsIn K mainGlobals "_law_due" = some (some (.ref f19))) (l19 : K.lookup f19 = some ⟨oc19, od19, .func (PySem.W.fnOf "_law_due" "_law_due" (defArgs st__law_due) (defBody st__law_due) (defScope st__law_due) .none kV19 dc19 pm19 an19 cd19 ct19), sl19⟩) (c19 : PySem.W.codeIn K cd19 "_law_due" = true) (k19 : PySem.W.keepIn K (.ref f19) = true)
    (a20 : PySem.W.nsIn K mainGlobals "law" = some (some (.ref f20))) (l20 : K.lookup f20 = some ⟨oc20, od20, .func (PySem.W.fnOf "law" "law" (defArgs st_law) (defBody st_law) (defScope st_law) .none kV20 dc20 pm20 an20 cd20 ct20), sl20⟩) (c20 : PySem.W.codeIn K cd20 "law" = true) (k20 : PySem.W.keepIn K (.ref f20) = true)
    (z_isinstance : PySem.W.nsIn K mainGlobals "isinstance" = some none)
    (z_int : PySem.W.nsIn K mainGlobals "int" = some none)
    (z_bool : PySem.W.nsIn K mainGlobals "bool" = some none)
    (z_tuple : PySem.W.nsIn K mainGlobals "tuple" = some none)
    (z_all : PySem.W.nsIn K mainGlobals "all" = some none)
    (z_range : PySem.W.nsIn K mainGlobals "range" = some none)
    (z_len : PySem.W.nsIn K mainGlobals "len" = some none)
    (z_enumerate : PySem.W.nsIn K mainGlobals "enumerate" = some none)
    (z_sorted : PySem.W.nsIn K mainGlobals "sorted" = some none)
    (z_list : PySem.W.nsIn K mainGlobals "list" = some none)
    (z_max : PySem.W.nsIn K mainGlobals "max" = some none) :
    Facts K mg ∧ Txt K mg ∧ mg "law" = some (.ref fa) ∧ ∃ fd, Fun K "law" "law" st_law fa fd ∧ ∀ (s : Shared) (u : Value), BindsTo s fd ⟨[u], []⟩ [("script", u)] := by
  have e := hfa.symm.trans (PySem.W.mg_of X G a20)
  cases e
  refine ⟨⟨fact_mk X G a0 l0 c0 k0 (fun _ _ _ _ _ _ us hl => match us, hl with | [_], _ => rfl), fact_mk X G a1 l1 c1 k1 (fun _ _ _ _ _ _ us hl => match us, hl with | [_], _ => rfl), fact_mk X G a2 l2 c2 k2 (fun _ _ _ _ _ _ us hl => match us, hl with | [_, _], _ => rfl), fact_mk X G a3 l3 c3 k3 (fun _ _ _ _ _ _ us hl => match us, hl with | [_], _ => rfl), fact_mk X G a4 l4 c4 k4 (fun _ _ _ _ _ _ us hl => match us, hl with | [_, _], _ => rfl), fact_mk X G a5 l5 c5 k5 (fun _ _ _ _ _ _ us hl => match us, hl with | [_, _, _], _ => rfl), fact_mk X G a6 l6 c6 k6 (fun _ _ _ _ _ _ us hl => match us, hl with | [_], _ => rfl), fact_mk X G a7 l7 c7 k7 (fun _ _ _ _ _ _ us hl => match us, hl with | [_, _], _ => rfl), fact_mk X G a8 l8 c8 k8 (fun _ _ _ _ _ _ us hl => match us, hl with | [_, _], _ => rfl), fact_mk X G a9 l9 c9 k9 (fun _ _ _ _ _ _ us hl => match us, hl with | [_, _, _], _ => rfl), fact_mk X G a10 l10 c10 k10 (fun _ _ _ _ _ _ us hl => match us, hl with | [_, _], _ => rfl), fact_mk X G a11 l11 c11 k11 (fun _ _ _ _ _ _ us hl => match us, hl with | [_, _], _ => rfl), fact_mk X G a12 l12 c12 k12 (fun _ _ _ _ _ _ us hl => match us, hl with | [_, _, _], _ => rfl), fact_mk X G a13 l13 c13 k13 (fun _ _ _ _ _ _ us hl => match us, hl with | [_, _, _], _ => rfl), fact_mk X G a14 l14 c14 k14 (fun _ _ _ _ _ _ us hl => match us, hl with | [_, _, _, _], _ => rfl), fact_mk X G a15 l15 c15 k15 (fun _ _ _ _ _ _ us hl => match us, hl with | [_], _ => rfl), fact_mk X G a16 l16 c16 k16 (fun _ _ _ _ _ _ us hl => match us, hl with | [_, _], _ => rfl), fact_mk X G a17 l17 c17 k17 (fun _ _ _ _ _ _ us hl => match us, hl with | [_, _], _ => rfl), fact_mk X G a18 l18 c18 k18 (fun _ _ _ _ _ _ us hl => match us, hl with | [_, _, _], _ => rfl), fact_mk X G a19 l19 c19 k19 (fun _ _ _ _ _ _ us hl => match us, hl with | [_, _], _ => rfl), fact_mk X G a20 l20 c20 k20 (fun _ _ _ _ _ _ us hl => match us, hl with | [_], _ => rfl)⟩, ⟨PySem.W.mg_none_of X G z_isinstance, PySem.W.mg_none_of X G z_int, PySem.W.mg_none_of X G z_bool, PySem.W.mg_none_of X G z_tuple, PySem.W.mg_none_of X G z_all, PySem.W.mg_none_of X G z_range, PySem.W.mg_none_of X G z_len, PySem.W.mg_none_of X G z_enumerate, PySem.W.mg_none_of X G z_sorted, PySem.W.mg_none_of X G z_list, PySem.W.mg_none_of X G z_max⟩, hfa, _, fun_mk (st := st_law) l20 c20 k20, fun s v => .of_eq rfl⟩
theorem walk {l : PySem.W.OpenLaw} {q : Program} {loose : List Str} {XP : (Str → Option Value) → Heap → Prop} {YP : World → Heap → Prop} {d : DefRec} {K : Params → PySem.W.Frag} (hn : l.most = some 63) (hdf : d.params.defaults = [])
    (hY : ∀ (w : World) (h : Heap), YP w h → (K w.params).In h)
    (hF : ∀ (w : World) (mg : Str → Option Value) (fa : Addr) (h : Heap), (K w.params).In h → h.Ns mainGlobals mg → mg d.name = some (.ref fa) →
      Facts (K w.params) mg ∧ Txt (K w.params) mg ∧ mg "law" = some (.ref fa) ∧ ∃ fd, Fun (K w.params) "law" "law" st_law fa fd ∧ ∀ (s : Shared) (u : Value), BindsTo s fd ⟨[u], []⟩ [("script", u)]) :
    PySem.W.WalkO q loose XP YP l.row.toRowW d [] (fun f vs => PySem.call f vs) := by
  refine L2.walk_of (l := l) (K := K) (n := 63) (k := 60) (x := "script") (CX := fun _ => CX0) (sp := fun w => spB (K w.params) cls0 1 (Phi 60 20)) hn (by decide) hdf ⟨rfl, by decide, by decide⟩ hY ?_ ?_ fun _ _ _ _ _ z => z
  · intro w mg fa h hK hG hm
    obtain ⟨C, T, hl, fd, F, hb⟩ := hF w mg fa h hK hG hm
    refine ⟨fd, hb, fun base _ _ => ?_⟩
    exact ok_law F T (tab C T 59)
  · intro w H a ns hlen hO hS
    obtain ⟨h', e⟩ := law_true ns hlen
    refine ⟨[], [], [.scr ns], .ok (.bl true), h', rfl, ⟨rfl, .nil, fun i o a e => by simp at e⟩, .cons (.scr ?_) .nil, e, fun as' H' v m R rw => by cases rw; rfl⟩
    rcases hS with (hS | ⟨o, hS⟩) | hS
    · rcases hO a with q | ⟨o, xs, q⟩
      · rw [q] at hS; cases hS
      · rw [q] at hS; cases hS
    · exact .inl ⟨o, hS⟩
    · exact .inr hS
end Lw

open PySem PySem.W PyProof.Rows in
set_option maxRecDepth 100000 in
set_option maxHeartbeats 0 in
theorem PySem.Challenge.cw_treesasked_k69_differences_of_trees_holds : PySem.Challenge.rw_treesasked_k69_differences_of_trees.Holds := by
  w_on; o_law; k_head; (case hw => w_witness2)
  k_fill
  refine Lw.walk (l := PySem.Challenge.rw_treesasked_k69_differences_of_trees) rfl rfl (fun w h Y => PySem.W.kIn_of Y) ?F
  case F =>
    intro w mg fa h KX G hmg
    refine' Lw.all_mk (w := w) KX G hmg ?a0 ?l0 ?c0 ?k0 ?a1 ?l1 ?c1 ?k1 ?a2 ?l2 ?c2 ?k2 ?a3 ?l3 ?c3 ?k3 ?a4 ?l4 ?c4 ?k4 ?a5 ?l5 ?c5 ?k5 ?a6 ?l6 ?c6 ?k6 ?a7 ?l7 ?c7 ?k7 ?a8 ?l8 ?c8 ?k8 ?a9 ?l9 ?c9 ?k9 ?a10 ?l10 ?c10 ?k10 ?a11 ?l11 ?c11 ?k11 ?a12 ?l12 ?c12 ?k12 ?a13 ?l13 ?c13 ?k13 ?a14 ?l14 ?c14 ?k14 ?a15 ?l15 ?c15 ?k15 ?a16 ?l16 ?c16 ?k16 ?a17 ?l17 ?c17 ?k17 ?a18 ?l18 ?c18 ?k18 ?a19 ?l19 ?c19 ?k19 ?a20 ?l20 ?c20 ?k20 ?z_isinstance ?z_int ?z_bool ?z_tuple ?z_all ?z_range ?z_len ?z_enumerate ?z_sorted ?z_list ?z_max
    (case a0 => k_is)
    (case l0 => k_is)
    (case c0 => k_is)
    (case k0 => k_is)
    (case a1 => k_is)
    (case l1 => k_is)
    (case c1 => k_is)
    (case k1 => k_is)
    (case a2 => k_is)
    (case l2 => k_is)
    (case c2 => k_is)
    (case k2 => k_is)
    (case a3 => k_is)
    (case l3 => k_is)
    (case c3 => k_is)
    (case k3 => k_is)
    (case a4 => k_is)
    (case l4 => k_is)
    (case c4 => k_is)
    (case k4 => k_is)
    (case a5 => k_is)
    (case l5 => k_is)
    (case c5 => k_is)
    (case k5 => k_is)
    (case a6 => k_is)
    (case l6 => k_is)
    (case c6 => k_is)
    (case k6 => k_is)
    (case a7 => k_is)
    (case l7 => k_is)
    (case c7 => k_is)
    (case k7 => k_is)
    (case a8 => k_is)
    (case l8 => k_is)
    (case c8 => k_is)
    (case k8 => k_is)
    (case a9 => k_is)
    (case l9 => k_is)
    (case c9 => k_is)
    (case k9 => k_is)
    (case a10 => k_is)
    (case l10 => k_is)
    (case c10 => k_is)
    (case k10 => k_is)
    (case a11 => k_is)
    (case l11 => k_is)
    (case c11 => k_is)
    (case k11 => k_is)
    (case a12 => k_is)
    (case l12 => k_is)
    (case c12 => k_is)
    (case k12 => k_is)
    (case a13 => k_is)
    (case l13 => k_is)
    (case c13 => k_is)
    (case k13 => k_is)
    (case a14 => k_is)
    (case l14 => k_is)
    (case c14 => k_is)
    (case k14 => k_is)
    (case a15 => k_is)
    (case l15 => k_is)
    (case c15 => k_is)
    (case k15 => k_is)
    (case a16 => k_is)
    (case l16 => k_is)
    (case c16 => k_is)
    (case k16 => k_is)
    (case a17 => k_is)
    (case l17 => k_is)
    (case c17 => k_is)
    (case k17 => k_is)
    (case a18 => k_is)
    (case l18 => k_is)
    (case c18 => k_is)
    (case k18 => k_is)
    (case a19 => k_is)
    (case l19 => k_is)
    (case c19 => k_is)
    (case k19 => k_is)
    (case a20 => k_is)
    (case l20 => k_is)
    (case c20 => k_is)
    (case k20 => k_is)
    (case z_isinstance => k_is)
    (case z_int => k_is)
    (case z_bool => k_is)
    (case z_tuple => k_is)
    (case z_all => k_is)
    (case z_range => k_is)
    (case z_len => k_is)
    (case z_enumerate => k_is)
    (case z_sorted => k_is)
    (case z_list => k_is)
    (case z_max => k_is)
