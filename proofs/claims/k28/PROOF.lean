import PyProof.Rows.All
import Wide.All
import OpenK.AllK
import Wide.FinOn
import HandS.HeadNt
import HandS.HeadHook2
import HandS.Head0
import HandS.Head1
import HandS.Head2
import HandS.ForMost
import HandS.Exc
import HandS.ExcOwn
import HandS.ExcIs
import HandS.CallSlots
import HandS.Property
import HandS.Flow
import HandS.IsInst
import HandS.TryOnly
import HandS.WordsExc
import HandS.FStr
import HandS.Comp
import HandS.ClsMeth
import HandS.CallLocal
import HandS.StrMore
import HandS.Star
import KE.KOpsOwn
import KE.GoesMore
import HandS.HeadEnd
import PySem.Challenge.RW_boxedmiddles_k28_middles_that_fit
set_option Elab.async false
section
set_option autoImplicit false
/-! The Py layer, part 1 (plain Lean): data, stores, results, an intermediate form of Python, what it means. -/
namespace Py
abbrev S := List Nat
/-- the most that a text, a list holds -/
abbrev line : Nat := 16777216
inductive D where
  | non
  | bl (b : Bool)
  | int (i : Int)
  | str (s : S)
  | tup (ds : List D)
  | obj (i : Nat)
  | cls (c : String)
  | ty (n : String)
  /-- a list that nobody writes into -/
  | fz (ds : List D)
  | opq
  deriving Inhabited
/-- a changeable object -/
inductive MO where
  | lst (ds : List D)
  | ins (c : String) (fs : List (String × D))
  deriving Inhabited
abbrev Store := List MO
structure X where
  cls : String
  fs : List (String × D)
inductive R (α : Type) where
  | ok (a : α) (μ : Store)
  | err (x : X) (μ : Store)
  | bad
abbrev Env := List (Option D)
def R.bind {α β : Type} (r : R α) (f : α → Store → R β) : R β := match r with
  | .ok a μ => f a μ
  | .err x μ => .err x μ
  | .bad => .bad
@[simp] theorem R.bind_ok {α β : Type} (a : α) (μ : Store) (f : α → Store → R β) : (R.ok a μ).bind f = f a μ := rfl
@[simp] theorem R.bind_err {α β : Type} (x : X) (μ : Store) (f : α → Store → R β) : (R.err x μ : R α).bind f = .err x μ := rfl
@[simp] theorem R.bind_bad {α β : Type} (f : α → Store → R β) : (R.bad : R α).bind f = .bad := rfl
/-! ### values -/
mutual
def D.eqv : D → D → Bool
  | .non, .non => true
  | .bl a, .bl b => a == b
  | .bl a, .int j => (if a then 1 else 0) == j
  | .int i, .bl b => i == (if b then 1 else 0)
  | .int i, .int j => i == j
  | .str x, .str y => x == y
  | .tup xs, .tup ys => D.eqvs xs ys
  | _, _ => false
def D.eqvs : List D → List D → Bool
  | [], [] => true
  | x :: xs, y :: ys => D.eqv x y && D.eqvs xs ys
  | _, _ => false
end
/-- plain data: no object in it; at most n deep; signs of texts are code points -/
def okS (s : S) : Bool := s.all fun c => decide (c < 1114112)
mutual
def D.plain : Nat → D → Bool
  | _, .non => true
  | _, .bl _ => true
  | _, .int _ => true
  | _, .str s => okS s && decide (s.length ≤ line)
  | 0, .tup _ => false
  | n + 1, .tup ds => D.plains n ds
  | _, _ => false
def D.plains : Nat → List D → Bool
  | _, [] => true
  | n, d :: ds => D.plain n d && D.plains n ds
end
def lstOf (μ : Store) (i : Nat) : Option (List D) := match μ[i]? with
  | some (.lst ds) => some ds
  | _ => none
def truth (d : D) (μ : Store) : R Bool := match d with
  | .non => .ok false μ
  | .bl b => .ok b μ
  | .int i => .ok (i != 0) μ
  | .str s => if s.length ≤ line then .ok (!s.isEmpty) μ else .bad
  | .tup ds => .ok (!ds.isEmpty) μ
  | .obj i => (match lstOf μ i with
    | some ds => .ok (!ds.isEmpty) μ
    | none => .bad)
  | _ => .bad
inductive BO where | add | sub | mul | fdiv | mod | pow | bitand | bitor | shr
  deriving DecidableEq
inductive UO where | neg | inv
inductive CO where | eq | ne | lt | le | gt | ge | is_ | isn | in_ | nin
/-- within 2^64 on one side -/
def okMul (i j : Int) : Bool := (decide (-(2 ^ 64) < i) && decide (i < 2 ^ 64)) || (decide (-(2 ^ 64) < j) && decide (j < 2 ^ 64))
def bop (o : BO) (x y : D) (μ : Store) : R D := match o, x, y with
  | .add, .int i, .int j => .ok (.int (i + j)) μ
  | .add, .str s, .str t => if s.length + t.length ≤ line then .ok (.str (s ++ t)) μ else .bad
  | .add, .obj i, .obj j => (match lstOf μ i, lstOf μ j with
    | some a, some b => if a.length + b.length ≤ line then .ok (.obj μ.length) (μ ++ [.lst (a ++ b)]) else .bad
    | _, _ => .bad)
  | .add, .tup a, .tup b => if a.isEmpty = false ∧ a.length + b.length ≤ line then .ok (.tup (a ++ b)) μ else .bad
  | .sub, .int i, .int j => .ok (.int (i - j)) μ
  | .mul, .int i, .int j => if okMul i j = true then .ok (.int (i * j)) μ else .bad
  | .mul, .obj i, .int j => (match lstOf μ i with
    | some a => if 0 ≤ j ∧ j ≤ 1000 ∧ a.length ≤ 1000 then .ok (.obj μ.length) (μ ++ [.lst (List.replicate j.toNat a).flatten]) else .bad
    | none => .bad)
  | .mul, .str s, .int j => if 0 ≤ j ∧ j ≤ 1000 ∧ s.length ≤ 1000 then .ok (.str (List.replicate j.toNat s).flatten) μ else .bad
  | .fdiv, .int i, .int j => if j ≠ 0 ∧ j.natAbs < 1073741824 then .ok (.int (i.fdiv j)) μ else .bad
  | .mod, .int i, .int j => if j ≠ 0 then .ok (.int (i.fmod j)) μ else .bad
  | .pow, .int i, .int j => if 0 ≤ j ∧ j ≤ 1000000 ∧ i.natAbs < 2 ^ 64 then .ok (.int (i ^ j.toNat)) μ else .bad
  | _, _, _ => .bad
/-- x += y, x -= y of what isn't changed in place -/
def augD (o : BO) (x y : D) (μ : Store) : R D := match o, x, y with
  | .add, .int i, .int j => .ok (.int (i + j)) μ
  | .add, .str s, .str t => if s.length + t.length ≤ line then .ok (.str (s ++ t)) μ else .bad
  | .sub, .int i, .int j => .ok (.int (i - j)) μ
  | _, _, _ => .bad
def flat : D → Bool
  | .non => true
  | .bl _ => true
  | .int _ => true
  | .str _ => true
  | _ => false
/-- == of plain data; of two lists of such -/
def eqD (x y : D) (μ : Store) : R Bool := match x, y with
  | .obj i, .obj j => (match lstOf μ i, lstOf μ j with
    | some ds, some es => if D.plains 60 ds && D.plains 60 es then .ok (D.eqvs ds es) μ else .bad
    | _, _ => .bad)
  | _, _ => if x.plain 60 && y.plain 60 then .ok (D.eqv x y) μ else .bad
def itemsOf (y : D) (μ : Store) : Option (List D) := match y with
  | .tup ds => some ds
  | .obj i => lstOf μ i
  | _ => none
def inD (x y : D) (μ : Store) : R Bool := match x, y with
  | .str [c], .str t => .ok (decide (c ∈ t)) μ
  | _, _ => (match itemsOf y μ with
    | some ds => if flat x && ds.all flat then .ok (ds.any fun d => D.eqv d x) μ else .bad
    | none => .bad)
def isNon : D → Bool
  | .non => true
  | _ => false
/-- what can be asked of None by is -/
def isAble : D → Bool
  | .opq => false
  | _ => true
def cop (o : CO) (x y : D) (μ : Store) : R D := match o with
  | .eq => (eqD x y μ).bind fun b μ => .ok (.bl b) μ
  | .ne => (eqD x y μ).bind fun b μ => .ok (.bl (!b)) μ
  | .lt => (match x, y with | .int i, .int j => .ok (.bl (decide (i < j))) μ | _, _ => .bad)
  | .le => (match x, y with | .int i, .int j => .ok (.bl (decide (i ≤ j))) μ | _, _ => .bad)
  | .gt => (match x, y with | .int i, .int j => .ok (.bl (decide (j < i))) μ | _, _ => .bad)
  | .ge => (match x, y with | .int i, .int j => .ok (.bl (decide (j ≤ i))) μ | _, _ => .bad)
  | .is_ => if isNon y && isAble x then .ok (.bl (isNon x)) μ else .bad
  | .isn => if isNon y && isAble x then .ok (.bl (!isNon x)) μ else .bad
  | .in_ => (inD x y μ).bind fun b μ => .ok (.bl b) μ
  | .nin => (inD x y μ).bind fun b μ => .ok (.bl (!b)) μ
/-- the place of an index -/
def ixN (n : Nat) (i : Int) : Option Nat := if 0 ≤ i then (if i < n then some i.toNat else none) else if -(n : Int) ≤ i then some (i + n).toNat else none
def atI {α : Type} (xs : List α) (i : Int) : Option α := (ixN xs.length i).bind fun j => xs[j]?
def idx (x y : D) (μ : Store) : R D := match x, y with
  | .tup ds, .int i => (match atI ds i with
    | some d => .ok d μ
    | none => .bad)
  | .obj o, .int i => (match lstOf μ o with
    | some ds => (match atI ds i with
      | some d => .ok d μ
      | none => .bad)
    | none => .bad)
  | .str s, .int i => if s.length ≤ line then (match atI s i with
    | some c => .ok (.str [c]) μ
    | none => .bad) else .bad
  | _, _ => .bad
def sIx (n d : Nat) : Option Int → Nat
  | none => d
  | some i => if i < 0 then (i + n).toNat else min i.toNat n
def cut {α : Type} (xs : List α) (lo hi : Option Int) : List α := (xs.drop (sIx xs.length 0 lo)).take (sIx xs.length xs.length hi - sIx xs.length 0 lo)
def slc (x : D) (lo hi : Option Int) (μ : Store) : R D := match x with
  | .str s => if s.length ≤ line then .ok (.str (cut s lo hi)) μ else .bad
  | .obj o => (match lstOf μ o with
    | some ds => .ok (.obj μ.length) (μ ++ [.lst (cut ds lo hi)])
    | none => .bad)
  | _ => .bad
/-- a part of a slice -/
def part : List D → Option (Option Int)
  | [] => some none
  | [.int i] => some (some i)
  | _ => none
def partD (ds : List D) (μ : Store) : R (Option Int) := match part ds with
  | some o => .ok o μ
  | none => .bad
/-! ### the form -/
inductive Tg where
  | name (i : Nat)
  | tup (is : List Nat)
mutual
inductive E where
  | var (i : Nat)
  | lit (d : D)
  | glo (x : String)
  | bin (o : BO) (a b : E)
  | cmp (o : CO) (a b : E)
  | chain (o p : CO) (a b c : E)
  | band (es : Es)
  | bor (es : Es)
  | not_ (a : E)
  | un (o : UO) (a : E)
  | ite (t a b : E)
  | tup (es : Es)
  | lst (es : Es)
  | idx (a i : E)
  | slc (a : E) (lo hi : Es)
  | call (f : String) (es : Es)
  | new (c : String) (es : Es)
  /-- with a star behind the first argument -/
  | newS (c : String) (es : Es)
  | bif (b : String) (es : Es)
  | isi (a : E) (many : Bool) (cs : List String)
  | ise (i : Nat) (many : Bool) (cs : List String)
  | meth (o : E) (m : String) (es : Es)
  | attr (o : E) (f : String)
  | clm (c m : String) (es : Es)
  | callv (i : Nat) (es : Es)
  | comp (t : Tg) (x : E) (it : It) (ifs : Es)
  | fmt (e : E)
  | cval (c f : String)
  /-- what is not come to -/
  | nope
  | fstr (es : Es)
inductive Es where
  | nil
  | cons (e : E) (r : Es)
  /-- *e -/
  | star (e : E) (r : Es)
/-- what is walked -/
inductive It where
  | over (e : E)
  | range1 (a : E)
  | range2 (a b : E)
  | enum (e : E)
end
mutual
inductive St where
  | expr (e : E)
  | set (t : Tg) (e : E)
  | aug (i : Nat) (o : BO) (e : E)
  | ret (e : E)
  | retN
  | iff (t : E) (a b : Ss)
  | whl (t : E) (b : Ss)
  | whlW (i : Nat) (e : E) (o : CO) (a : E) (b : Ss)
  | for_ (t : Tg) (it : It) (b : Ss)
  | raise (c : String)
  | try_ (b : Ss) (c : String) (i : Option Nat) (h : Ss)
  | pass
  | brk
  | cont
  | setA (o : E) (f : String) (e : E)
  | setI (o i e : E)
  | nope
inductive Ss where
  | nil
  | cons (s : St) (r : Ss)
end
/-- what is around: the calls, the classes -/
structure Gs where
  glo : String → Option D
  meth : String → String → Option String
  prop : String → String → Option String
  con : String → String → Option D
  fld : String → String → Bool
  init : String → Option String
  clm : String → String → Option String
  /-- a class's constant, asked of the class -/
  cval : String → String → Option D
  /-- how many parameters, the defaults -/
  par : String → Nat × List D
  /-- is the class c one of those that T names: none where nothing is known -/
  sub : String → String → Option Bool
  exn : String → Bool
  /-- does an except clause that names c take an error of the class t -/
  exm : String → String → Option Bool
  insc : String → Bool
  /-- a thing of the class t isn't asked ahead of one of the class c -/
  nfst : String → String → Bool
  /-- != is the opposite of the own == -/
  dne : String → Bool
  clsn : String → Bool
  fnk : String → Bool
  wf : Nat
  /-- the last parameter takes what is left over -/
  va : String → Bool
  /-- c's own operator serves a thing of the class t on the right; c's turned one a thing of the class t on the left -/
  bl : String → String → BO → Bool
  br : String → String → BO → Bool
  /-- no sequence of the built-in kind -/
  nsq : String → Bool
structure G extends Gs where
  call : String → List D → Store → R D
instance : Coe G Gs := ⟨G.toGs⟩
/-- where nothing of the text's own is called -/
def G.cold (g : G) : G := { g with call := fun _ _ _ => .bad }
/-- the arguments and the defaults that fill up -/
def fill (p : Nat × List D) (ds : List D) : List D := ds ++ p.2.drop (p.2.length + ds.length - p.1)
def G.callF (g : G) (f : String) (ds : List D) (μ : Store) : R D :=
  if g.va f = true then (if (g.par f).1 ≤ ds.length + 1 ∧ 1 ≤ (g.par f).1 ∧ ds.length ≤ line then g.call f (ds.take ((g.par f).1 - 1) ++ [.tup (ds.drop ((g.par f).1 - 1))]) μ else .bad)
  else if (fill (g.par f) ds).length = (g.par f).1 ∧ ds.length ≤ (g.par f).1 then g.call f (fill (g.par f) ds) μ else .bad
/-- == <= < & .. by an own method -/
def BO.dun : BO → String
  | .add => "__add__" | .sub => "__sub__" | .mul => "__mul__" | .fdiv => "__floordiv__" | .mod => "__mod__" | .pow => "__pow__" | .bitand => "__and__" | .bitor => "__or__" | .shr => "__rshift__"
def CO.dun : CO → String
  | .eq => "__eq__" | .ne => "__ne__" | .lt => "__lt__" | .le => "__le__" | .gt => "__gt__" | .ge => "__ge__" | .is_ => "" | .isn => "" | .in_ => "" | .nin => ""
def UO.dun : UO → String
  | .neg => "__neg__" | .inv => "__invert__"
def BO.rdun : BO → String
  | .add => "__radd__" | .sub => "__rsub__" | .mul => "__rmul__" | .fdiv => "__rfloordiv__" | .mod => "__rmod__" | .pow => "__rpow__" | .bitand => "__rand__" | .bitor => "__ror__" | .shr => "__rrshift__"
def BO.idun : BO → String
  | .add => "__iadd__" | .sub => "__isub__" | .mul => "__imul__" | .fdiv => "__ifloordiv__" | .mod => "__imod__" | .pow => "__ipow__" | .bitand => "__iand__" | .bitor => "__ior__" | .shr => "__irshift__"
/-- the class of an instance -/
def insOf (d : D) (μ : Store) : Option String := match d with
  | .obj i => (match μ[i]? with
    | some (.ins c _) => some c
    | _ => none)
  | _ => none
def CO.isB : CO → Bool
  | .is_ => true | .isn => true | _ => false
/-- the class of a thing, by name -/
def tyOf (g : G) (d : D) (μ : Store) : Option String := match d with
  | .non => some "NoneType"
  | .bl _ => some "bool"
  | .int _ => some "int"
  | .str _ => some "str"
  | .tup _ => some "tuple"
  | .obj i => (match μ[i]? with
    | some (.lst _) => some "list"
    | some (.ins c _) => if g.insc c = true then some c else none
    | none => none)
  | _ => none
def bopG (g : G) (o : BO) (x y : D) (μ : Store) : R D := match insOf x μ with
  | some c => (match insOf y μ with
    | some c' => if c = c' then (match g.meth c o.dun with
        | some key => g.callF key [x, y] μ
        | none => .bad)
      else if g.bl c c' o = true then (match g.meth c o.dun with
        | some key => g.callF key [x, y] μ
        | none => .bad)
      else if g.br c' c o = true then (match g.meth c' o.rdun with
        | some key => g.callF key [y, x] μ
        | none => .bad)
      else .bad
    | none => .bad)
  | none => bop o x y μ
/-- x += y -/
def augG (g : G) (o : BO) (x y : D) (μ : Store) : R D := match insOf x μ with
  | some c => (match g.meth c o.idun with
    | some key => g.callF key [x, y] μ
    | none => .bad)
  | none => augD o x y μ
/-- the right one's own method doesn't come first -/
def second (g : G) (c : String) (y : D) (μ : Store) : Bool := insOf y μ == some c || (match tyOf g y μ with
  | some t => g.nfst c t
  | none => false)
def copG (g : G) (o : CO) (x y : D) (μ : Store) : R D := if o.isB = true then cop o x y μ else match insOf x μ with
  | some c => (match g.meth c o.dun with
    | some key => if second g c y μ = true then (g.callF key [x, y] μ).bind fun d μ => (match d with | .bl b => .ok (.bl b) μ | _ => .bad) else .bad
    | none => if g.dne c = true ∧ second g c y μ = true then (match o, g.meth c "__eq__" with
      | .ne, some key => (g.callF key [x, y] μ).bind fun d μ => (match d with | .bl b => .ok (.bl (!b)) μ | _ => .bad)
      | _, _ => .bad) else .bad)
  | none => cop o x y μ
def unG (g : G) (o : UO) (x : D) (μ : Store) : R D := match insOf x μ with
  | some c => (match g.meth c o.dun with
    | some key => g.callF key [x] μ
    | none => .bad)
  | none => (match o, x with
    | .neg, .int i => .ok (.int (-i)) μ
    | _, _ => .bad)
def putF (f : String) (v : D) : List (String × D) → List (String × D)
  | [] => [(f, v)]
  | (g, u) :: r => if g = f then (f, v) :: r else (g, u) :: putF f v r
def anySub (g : G) (t : String) : List String → Option Bool
  | [] => some false
  | c :: cs => match g.sub t c with
    | some true => some true
    | some false => anySub g t cs
    | none => none
def isiD (g : G) (d : D) (cs : List String) (μ : Store) : R D := match tyOf g d μ with
  | some t => (match anySub g t cs with
    | some b => .ok (.bl b) μ
    | none => .bad)
  | none => .bad
/-- a built-in function -/
def bifN : String → Option String
  | "abs" => some "__abs__"
  | "len" => some "__len__"
  | "str" => some "__str__"
  | _ => none
/-- what an own method may give back to a built-in function -/
def bifR (b : String) (r : R D) : R D := match b with
  | "len" => r.bind fun d μ => (match d with
    | .int i => if 0 ≤ i ∧ i < 2 ^ 63 then .ok (.int i) μ else .bad
    | _ => .bad)
  | "str" => r.bind fun d μ => (match d with
    | .str s => .ok (.str s) μ
    | _ => .bad)
  | _ => r
def bifD (b : String) (ds : List D) (μ : Store) : R D := match b, ds with
  | "len", [.str s] => if s.length ≤ line then .ok (.int s.length) μ else .bad
  | "len", [.tup xs] => .ok (.int xs.length) μ
  | "len", [.obj i] => (match lstOf μ i with
    | some xs => .ok (.int xs.length) μ
    | none => .bad)
  | "int", [.int i] => .ok (.int i) μ
  | "int", [.bl b] => .ok (.int (if b then 1 else 0)) μ
  | "bool", [.bl b] => .ok (.bl b) μ
  | "bool", [.int i] => .ok (.bl (i != 0)) μ
  | "abs", [.int i] => .ok (.int (if i < 0 then -i else i)) μ
  | "list", [.tup xs] => .ok (.obj μ.length) (μ ++ [.lst xs])
  | "list", [.obj i] => (match lstOf μ i with
    | some xs => .ok (.obj μ.length) (μ ++ [.lst xs])
    | none => .bad)
  | "str", [.int i] => if i.natAbs.log2 < 1920 then .ok (.str ((toString i).toList.map Char.toNat)) μ else .bad
  | "tuple", [.tup xs] => .ok (.tup xs) μ
  | "tuple", [.obj i] => (match lstOf μ i with
    | some xs => .ok (.tup xs) μ
    | none => .bad)
  | _, _ => .bad
def bifG (g : G) (b : String) (ds : List D) (μ : Store) : R D := match ds with
  | [x] => (match insOf x μ with
    | some c => (match bifN b with
      | some m => (match g.meth c m with
        | some key => bifR b (g.callF key [x] μ)
        | none => .bad)
      | none => .bad)
    | none => bifD b [x] μ)
  | _ => bifD b ds μ
def pre : S → S → Bool
  | [], _ => true
  | _ :: _, [] => false
  | a :: x, b :: y => a == b && pre x y
/-- a method of a list, of a text -/
def lmeth (i : Nat) (m : String) (as : List D) (μ : Store) : R D := match m, as, μ[i]? with
  | "append", [x], some (.lst ds) => if ds.length < line then .ok .non (μ.set i (.lst (ds ++ [x]))) else .bad
  | "pop", [], some (.lst ds) => (match ds.getLast? with
    | some x => .ok x (μ.set i (.lst ds.dropLast))
    | none => .bad)
  | "reverse", [], some (.lst ds) => .ok .non (μ.set i (.lst ds.reverse))
  | _, _, _ => .bad
def smeth (s : S) (m : String) (as : List D) (μ : Store) : R D := match m, as with
  | "startswith", [.str p] => .ok (.bl (pre p s)) μ
  | "removeprefix", [.str p] => if s.length ≤ line then .ok (.str (if pre p s then s.drop p.length else s)) μ else .bad
  | _, _ => .bad
/-- who serves a method -/
inductive RK where
  | lst (i : Nat)
  | str (s : S)
  | own (key : String)
def recv (g : G) (d : D) (m : String) (μ : Store) : Option RK := match d with
  | .str s => if m = "startswith" ∨ m = "removeprefix" then some (.str s) else none
  | .obj i => (match μ[i]? with
    | some (.lst _) => if m = "append" ∨ m = "pop" ∨ m = "reverse" then some (.lst i) else none
    | some (.ins c fs) => (match g.meth c m, fs.lookup m with
      | some key, none => some (.own key)
      | _, _ => none)
    | _ => none)
  | _ => none
def methD (g : G) (k : RK) (d : D) (m : String) (as : List D) (μ : Store) : R D := match k with
  | .lst i => lmeth i m as μ
  | .str s => smeth s m as μ
  | .own key => g.callF key (d :: as) μ
def attrD (g : G) (d : D) (f : String) (μ : Store) : R D := match d with
  | .obj i => (match μ[i]? with
    | some (.ins c fs) => (match g.prop c f with
      | some key => (match g.callF key [d] μ with
        | .ok v μ' => .ok v μ'
        | _ => .bad)
      | none => (match fs.lookup f with
        | some v => if g.fld c f = true then .ok v μ else .bad
        | none => (match g.con c f with
          | some v => .ok v μ
          | none => .bad)))
    | _ => .bad)
  | _ => .bad
def newD (g : G) (c : String) (as : List D) (μ : Store) : R D := match g.init c with
  | some key => (g.callF key (.obj μ.length :: as) (μ ++ [.ins c []])).bind fun v μ' => if isNon v = true then .ok (.obj μ.length) μ' else .bad
  | none => .bad
/-- what is walked, begun -/
inductive Wk where
  | items (ds : List D)
  | list (i : Nat)
def overD (d : D) (μ : Store) : R Wk := match d with
  | .tup ds => .ok (.items ds) μ
  | .fz ds => .ok (.items ds) μ
  | .str s => .ok (.items (s.map fun c => .str [c])) μ
  | .obj i => (match lstOf μ i with
    | some _ => .ok (.list i) μ
    | none => .bad)
  | _ => .bad
def rints (lo : Int) : Nat → List D
  | 0 => []
  | n + 1 => .int lo :: rints (lo + 1) n
def okR (i : Int) : Bool := decide (-(2 ^ 62) ≤ i) && decide (i < 2 ^ 62)
/-- the items with their places -/
def enumP (i : Int) : List D → List D
  | [] => []
  | d :: ds => .tup [.int i, d] :: enumP (i + 1) ds
def enumD (d : D) (μ : Store) : R Wk := match d with
  | .tup ds => .ok (.items (enumP 0 ds)) μ
  | _ => .bad
def rangeD (x y : D) (μ : Store) : R Wk := match x, y with
  | .int i, .int j => if okR i && okR j then .ok (.items (rints i (j - i).toNat)) μ else .bad
  | _, _ => .bad
/-- the list D at o grows by what f makes of each item -/
def compP (f : D → Store → R (Option D)) (o : Nat) : List D → Store → R Unit
  | [], μ => .ok () μ
  | d :: ds, μ => (f d μ).bind fun y μ1 => match y with
    | none => compP f o ds μ1
    | some v => (match μ1[o]? with
      | some (.lst acc) => if acc.length < line then compP f o ds (μ1.set o (.lst (acc ++ [v]))) else .bad
      | _ => .bad)
def compL (f : D → Store → R (Option D)) (o l : Nat) : Nat → Nat → Store → R Unit
  | 0, _, _ => .bad
  | n + 1, i, μ => match lstOf μ l with
    | none => .bad
    | some ds => (match ds[i]? with
      | none => .ok () μ
      | some d => (f d μ).bind fun y μ1 => match y with
        | none => compL f o l n (i + 1) μ1
        | some v => (match μ1[o]? with
          | some (.lst acc) => if acc.length < line then compL f o l n (i + 1) (μ1.set o (.lst (acc ++ [v]))) else .bad
          | _ => .bad))
def setAll : List Nat → List D → Env → Env
  | i :: is, d :: ds, ρ => setAll is ds (ρ.set i (some d))
  | _, _, ρ => ρ
def Tg.put : Tg → D → Env → Store → Option Env
  | .name i, d, ρ, _ => some (ρ.set i (some d))
  | .tup is, .tup ds, ρ, _ => if ds.length = is.length then some (setAll is ds ρ) else none
  | .tup is, .obj l, ρ, μ => (match lstOf μ l with
    | some ds => if ds.length = is.length then some (setAll is ds ρ) else none
    | none => none)
  | .tup _, _, _, _ => none
def Tg.slots : Tg → List Nat
  | .name i => [i]
  | .tup is => is
/-- an error here is not allowed -/
def R.hard {α : Type} (r : R α) : R α := match r with
  | .ok a μ => .ok a μ
  | _ => .bad
@[simp] theorem R.hard_ok {α : Type} (a : α) (μ : Store) : (R.ok a μ).hard = .ok a μ := rfl
@[simp] theorem R.hard_err {α : Type} (x : X) (μ : Store) : (R.err x μ : R α).hard = .bad := rfl
@[simp] theorem R.hard_bad {α : Type} : (R.bad : R α).hard = .bad := rfl
/-- an int's text -/
def decS (i : Int) : S := (toString i).toList.map Char.toNat
def fmtD (d : D) (μ : Store) : R D := match d with
  | .str s => if s.length ≤ line then .ok (.str s) μ else .bad
  | .int i => if i.natAbs.log2 < 1920 then .ok (.str (decS i)) μ else .bad
  | _ => .bad
def compD (f : D → Store → R (Option D)) (w : Wk) (μ : Store) : R D := (match w with
      | .items ds => compP f μ.length ds (μ ++ [MO.lst []])
      | .list l => (match lstOf μ l with
        | some ds => compL f μ.length l (ds.length + 1) 0 (μ ++ [MO.lst []])
        | none => .bad)).bind fun _ μ' => .ok (.obj μ.length) μ'
def getV (ρ : Env) (i : Nat) (μ : Store) : R D := match ρ[i]? with
  | some (some d) => .ok d μ
  | _ => .bad
mutual
def E.den (g : G) (h : Option X) : E → Env → Store → R D
  | .var i, ρ, μ => getV ρ i μ
  | .lit d, _, μ => .ok d μ
  | .glo x, _, μ => (match g.glo x with
    | some d => .ok d μ
    | none => .bad)
  | .bin o a b, ρ, μ => (E.den g h a ρ μ).bind fun x μ => (E.den g h b ρ μ).bind fun y μ => bopG g o x y μ
  | .cmp o a b, ρ, μ => (E.den g h a ρ μ).bind fun x μ => (E.den g h b ρ μ).bind fun y μ => copG g o x y μ
  | .un o a, ρ, μ => (E.den g h a ρ μ).bind fun x μ => unG g o x μ
  | .chain o p a b c, ρ, μ => (E.den g h a ρ μ).bind fun x μ => (E.den g h b ρ μ).bind fun y μ => (cop o x y μ).bind fun z μ => match z with
    | .bl true => (E.den g h c ρ μ).bind fun w μ => cop p y w μ
    | .bl false => .ok (.bl false) μ
    | _ => .bad
  | .band es, ρ, μ => Es.denAnd g h es ρ μ
  | .bor es, ρ, μ => Es.denOr g h es ρ μ
  | .not_ a, ρ, μ => (E.den g h a ρ μ).bind fun x μ => (truth x μ).bind fun b μ => .ok (.bl (!b)) μ
  | .ite t a b, ρ, μ => (E.den g h t ρ μ).bind fun x μ => (truth x μ).bind fun k μ => if k = true then E.den g h a ρ μ else E.den g h b ρ μ
  | .tup es, ρ, μ => (Es.den g h es ρ μ).bind fun ds μ => if ds.length ≤ line then .ok (.tup ds) μ else .bad
  | .lst es, ρ, μ => (Es.den g h es ρ μ).bind fun ds μ => if ds.length ≤ line then .ok (.obj μ.length) (μ ++ [.lst ds]) else .bad
  | .idx a i, ρ, μ => (E.den g h a ρ μ).bind fun x μ => (E.den g h i ρ μ).bind fun y μ => idx x y μ
  | .slc a lo hi, ρ, μ => (E.den g h a ρ μ).bind fun x μ => ((Es.den g h lo ρ μ).bind fun ds μ => partD ds μ).bind fun l μ => ((Es.den g h hi ρ μ).bind fun ds μ => partD ds μ).bind fun u μ => slc x l u μ
  | .call f es, ρ, μ => (Es.den g h es ρ μ).bind fun ds μ => g.callF f ds μ
  | .new c es, ρ, μ => (Es.den g h es ρ μ).bind fun ds μ => newD g c ds μ
  | .newS c es, ρ, μ => (Es.den g h es ρ μ).bind fun ds μ => newD g c ds μ
  | .bif b es, ρ, μ => (Es.den g h es ρ μ).bind fun ds μ => bifG g b ds μ
  | .isi a _ cs, ρ, μ => (E.den g h a ρ μ).bind fun x μ => isiD g x cs μ
  | .ise _ _ cs, _, μ => (match h with
    | some x => (match anySub g x.cls cs with
      | some b => .ok (.bl b) μ
      | none => .bad)
    | none => .bad)
  | .meth o m es, ρ, μ => (E.den g h o ρ μ).bind fun d μ => match recv g d m μ with
    | some k => (Es.den g h es ρ μ).bind fun ds μ => methD g k d m ds μ
    | none => .bad
  | .attr o f, ρ, μ => (E.den g h o ρ μ).bind fun d μ => attrD g d f μ
  | .clm c m es, ρ, μ => (Es.den g h es ρ μ).bind fun ds μ => match g.clm c m with
    | some key => g.callF key (.cls c :: ds) μ
    | none => .bad
  | .callv i es, ρ, μ => (getV ρ i μ).bind fun d μ => match d with
    | .cls c => if (g.init c).isSome = true then (Es.den g h es ρ μ).bind fun ds μ => newD g c ds μ else .bad
    | _ => .bad
  | .comp t x it ifs, ρ, μ => (It.den g h it ρ μ).bind fun w μ => compD (fun d μ => match t.put d ρ μ with
    | some ρ' => ((Es.denTests g h ifs ρ' μ).bind fun b μ => if b = true then (E.den g h x ρ' μ).bind fun y μ => R.ok (some y) μ else R.ok none μ).hard
    | none => .bad) w μ
  | .fmt e, ρ, μ => (E.den g h e ρ μ).bind fun d μ => fmtD d μ
  | .cval c f, _, μ => (match g.cval c f with
    | some d => .ok d μ
    | none => .bad)
  | .nope, _, _ => .bad
  | .fstr es, ρ, μ => Es.denJ g h es [] ρ μ
def Es.den (g : G) (h : Option X) : Es → Env → Store → R (List D)
  | .nil, _, μ => .ok [] μ
  | .cons e r, ρ, μ => (E.den g h e ρ μ).bind fun d μ => (Es.den g h r ρ μ).bind fun ds μ => .ok (d :: ds) μ
  | .star e r, ρ, μ => (E.den g h e ρ μ).bind fun d μ => match itemsOf d μ with
    | some xs => (Es.den g h r ρ μ).bind fun ds μ => .ok (xs ++ ds) μ
    | none => .bad
def Es.denAnd (g : G) (h : Option X) : Es → Env → Store → R D
  | .nil, _, _ => .bad
  | .star _ _, _, _ => .bad
  | .cons _ (.star _ _), _, _ => .bad
  | .cons e .nil, ρ, μ => E.den g h e ρ μ
  | .cons e (.cons e' r), ρ, μ => (E.den g h e ρ μ).bind fun d μ => (truth d μ).bind fun k μ => if k = true then Es.denAnd g h (.cons e' r) ρ μ else .ok d μ
def Es.denOr (g : G) (h : Option X) : Es → Env → Store → R D
  | .nil, _, _ => .bad
  | .star _ _, _, _ => .bad
  | .cons _ (.star _ _), _, _ => .bad
  | .cons e .nil, ρ, μ => E.den g h e ρ μ
  | .cons e (.cons e' r), ρ, μ => (E.den g h e ρ μ).bind fun d μ => (truth d μ).bind fun k μ => if k = true then .ok d μ else Es.denOr g h (.cons e' r) ρ μ
/-- texts one behind the other -/
def Es.denJ (g : G) (h : Option X) : Es → S → Env → Store → R D
  | .nil, acc, _, μ => .ok (.str acc) μ
  | .star _ _, _, _, _ => .bad
  | .cons e r, acc, ρ, μ => (E.den g h e ρ μ).bind fun d μ => match d with
    | .str s => if (acc ++ s).length ≤ line then Es.denJ g h r (acc ++ s) ρ μ else .bad
    | _ => .bad
/-- a comprehension's tests: none or one -/
def Es.denTests (g : G) (h : Option X) : Es → Env → Store → R Bool
  | .nil, _, μ => .ok true μ
  | .star _ _, _, _ => .bad
  | .cons _ (.star _ _), _, _ => .bad
  | .cons e .nil, ρ, μ => (E.den g h e ρ μ).bind fun d μ => truth d μ
  | .cons _ (.cons _ _), _, _ => .bad
def It.den (g : G) (h : Option X) : It → Env → Store → R Wk
  | .over e, ρ, μ => (E.den g h e ρ μ).bind fun d μ => overD d μ
  | .range1 a, ρ, μ => (E.den g h a ρ μ).bind fun d μ => rangeD (.int 0) d μ
  | .range2 a b, ρ, μ => (E.den g h a ρ μ).bind fun x μ => (E.den g h b ρ μ).bind fun y μ => rangeD x y μ
  | .enum e, ρ, μ => (E.den g h e ρ μ).bind fun d μ => enumD d μ
end
/-! ### statements -/
inductive SR where
  | nx (ρ : Env) (μ : Store)
  | rt (d : D) (μ : Store)
  | bk (ρ : Env) (μ : Store)
  | ct (ρ : Env) (μ : Store)
  | er (x : X) (ρ : Env) (μ : Store)
  | bad
def R.st {α : Type} (r : R α) (ρ : Env) (f : α → Store → SR) : SR := match r with
  | .ok a μ => f a μ
  | .err x μ => .er x ρ μ
  | .bad => .bad
@[simp] theorem R.st_ok {α : Type} (a : α) (μ : Store) (ρ : Env) (f : α → Store → SR) : (R.ok a μ).st ρ f = f a μ := rfl
@[simp] theorem R.st_err {α : Type} (x : X) (μ : Store) (ρ : Env) (f : α → Store → SR) : (R.err x μ : R α).st ρ f = .er x ρ μ := rfl
@[simp] theorem R.st_bad {α : Type} (ρ : Env) (f : α → Store → SR) : (R.bad : R α).st ρ f = .bad := rfl
def SR.seq (r : SR) (f : Env → Store → SR) : SR := match r with
  | .nx ρ μ => f ρ μ
  | r => r
@[simp] theorem SR.seq_nx (ρ : Env) (μ : Store) (f : Env → Store → SR) : (SR.nx ρ μ).seq f = f ρ μ := rfl
@[simp] theorem SR.seq_rt (d : D) (μ : Store) (f : Env → Store → SR) : (SR.rt d μ).seq f = .rt d μ := rfl
@[simp] theorem SR.seq_er (x : X) (ρ : Env) (μ : Store) (f : Env → Store → SR) : (SR.er x ρ μ).seq f = .er x ρ μ := rfl
@[simp] theorem SR.seq_bk (ρ : Env) (μ : Store) (f : Env → Store → SR) : (SR.bk ρ μ).seq f = .bk ρ μ := rfl
@[simp] theorem SR.seq_ct (ρ : Env) (μ : Store) (f : Env → Store → SR) : (SR.ct ρ μ).seq f = .ct ρ μ := rfl
@[simp] theorem SR.seq_bad (f : Env → Store → SR) : (SR.bad).seq f = .bad := rfl
def Tg.den (t : Tg) (d : D) (ρ : Env) (μ : Store) : SR := match t.put d ρ μ with
  | some ρ' => .nx ρ' μ
  | none => .bad
/-- behind a turn -/
def SR.turn (r : SR) (f : Env → Store → SR) : SR := match r with
  | .nx ρ μ => f ρ μ
  | .ct ρ μ => f ρ μ
  | .bk ρ μ => .nx ρ μ
  | r => r
@[simp] theorem SR.turn_nx (ρ : Env) (μ : Store) (f : Env → Store → SR) : (SR.nx ρ μ).turn f = f ρ μ := rfl
@[simp] theorem SR.turn_ct (ρ : Env) (μ : Store) (f : Env → Store → SR) : (SR.ct ρ μ).turn f = f ρ μ := rfl
@[simp] theorem SR.turn_bk (ρ : Env) (μ : Store) (f : Env → Store → SR) : (SR.bk ρ μ).turn f = .nx ρ μ := rfl
@[simp] theorem SR.turn_rt (d : D) (μ : Store) (f : Env → Store → SR) : (SR.rt d μ).turn f = .rt d μ := rfl
@[simp] theorem SR.turn_er (x : X) (ρ : Env) (μ : Store) (f : Env → Store → SR) : (SR.er x ρ μ).turn f = .er x ρ μ := rfl
@[simp] theorem SR.turn_bad (f : Env → Store → SR) : (SR.bad).turn f = .bad := rfl
def forP (body : D → Env → Store → SR) : List D → Env → Store → SR
  | [], ρ, μ => .nx ρ μ
  | d :: ds, ρ, μ => (body d ρ μ).turn fun ρ μ => forP body ds ρ μ
def forL (body : D → Env → Store → SR) (l : Nat) : Nat → Nat → Env → Store → SR
  | 0, _, _, _ => .bad
  | n + 1, i, ρ, μ => match lstOf μ l with
    | none => .bad
    | some ds => (match ds[i]? with
      | none => .nx ρ μ
      | some d => (body d ρ μ).turn fun ρ μ => forL body l n (i + 1) ρ μ)
def whlF (test : Env → Store → SR) (body : Env → Store → SR) : Nat → Env → Store → SR
  | 0, _, _ => .bad
  | n + 1, ρ, μ => match test ρ μ with
    | .ct ρ1 μ1 => (body ρ1 μ1).turn fun ρ μ => whlF test body n ρ μ
    | r => r
/-- a while's test: go on (ct) or behind it (nx) -/
def testR (r : R Bool) (ρ : Env) : SR := r.st ρ fun b μ => if b = true then .ct ρ μ else .nx ρ μ
def forD (body : D → Env → Store → SR) (w : Wk) (ρ : Env) (μ : Store) : SR := match w with
  | .items ds => forP body ds ρ μ
  | .list l => (match lstOf μ l with
    | some ds => forL body l (ds.length + 1) 0 ρ μ
    | none => .bad)
def clear (i : Option Nat) (ρ : Env) : Env := match i with
  | some i => ρ.set i none
  | none => ρ
def seen (i : Option Nat) (ρ : Env) : Env := match i with
  | some i => ρ.set i (some .opq)
  | none => ρ
def SR.mapE (r : SR) (f : Env → Env) : SR := match r with
  | .nx ρ μ => .nx (f ρ) μ
  | .bk ρ μ => .bk (f ρ) μ
  | .ct ρ μ => .ct (f ρ) μ
  | .rt d μ => .rt d μ
  | _ => .bad
def setID (o i v : D) (μ : Store) : Option Store := match o, i with
  | .obj l, .int k => (match μ[l]? with
    | some (.lst ds) => (match ixN ds.length k with
      | some j => some (μ.set l (.lst (ds.set j v)))
      | none => none)
    | _ => none)
  | _, _ => none
/-- o[i] = v -/
def setIR (g : G) (o i v : D) (μ : Store) : R D := match insOf o μ with
  | some c => (match g.meth c "__setitem__" with
    | some key => if g.nsq c = true then g.callF key [o, i, v] μ else .bad
    | none => .bad)
  | none => (match setID o i v μ with
    | some μ' => .ok .non μ'
    | none => .bad)
def setAD (g : G) (o : D) (f : String) (v : D) (μ : Store) : Option Store := match o with
  | .obj l => (match μ[l]? with
    | some (.ins c fs) => if g.fld c f = true ∧ fs.length < 1000 then some (μ.set l (.ins c (putF f v fs))) else none
    | _ => none)
  | _ => none
mutual
def St.den (g : G) (h : Option X) : St → Env → Store → SR
  | .expr e, ρ, μ => (E.den g h e ρ μ).st ρ fun _ μ => .nx ρ μ
  | .set t e, ρ, μ => (E.den g h e ρ μ).st ρ fun d μ => t.den d ρ μ
  | .aug i o e, ρ, μ => (getV ρ i μ).st ρ fun x μ => (E.den g h e ρ μ).st ρ fun y μ => (augG g o x y μ).st ρ fun z μ => .nx (ρ.set i (some z)) μ
  | .ret e, ρ, μ => (E.den g h e ρ μ).st ρ fun d μ => .rt d μ
  | .retN, _, μ => .rt .non μ
  | .iff t a b, ρ, μ => (E.den g h t ρ μ).st ρ fun x μ => (truth x μ).st ρ fun k μ => if k = true then Ss.den g h a ρ μ else Ss.den g h b ρ μ
  | .whl t b, ρ, μ => whlF (fun ρ μ => testR ((E.den g h t ρ μ).bind fun x μ => truth x μ) ρ) (fun ρ μ => Ss.den g h b ρ μ) g.wf ρ μ
  | .whlW i e o a b, ρ, μ => whlF (fun ρ μ => (E.den g h e ρ μ).st ρ fun x μ => testR ((E.den g h a (ρ.set i (some x)) μ).bind fun y μ => (cop o x y μ).bind fun z μ => truth z μ) (ρ.set i (some x))) (fun ρ μ => Ss.den g h b ρ μ) g.wf ρ μ
  | .for_ t it b, ρ, μ => (It.den g h it ρ μ).st ρ fun w μ => forD (fun d ρ μ => (t.den d ρ μ).seq fun ρ μ => Ss.den g h b ρ μ) w ρ μ
  | .raise c, ρ, μ => if g.exn c = true then .er ⟨c, []⟩ ρ μ else .bad
  | .try_ b c i s, ρ, μ => (match Ss.den g h b ρ μ with
    | .er x ρ1 μ1 => (match g.exm x.cls c with
      | some true => if x.fs.isEmpty = true then (Ss.den g.cold (some x) s (seen i ρ1) μ1).mapE (clear i) else .bad
      | some false => .er x ρ1 μ1
      | none => .bad)
    | r => r)
  | .pass, ρ, μ => .nx ρ μ
  | .brk, ρ, μ => .bk ρ μ
  | .cont, ρ, μ => .ct ρ μ
  | .nope, _, _ => .bad
  | .setA o f e, ρ, μ => (E.den g h e ρ μ).st ρ fun v μ => (E.den g h o ρ μ).st ρ fun d μ => match setAD g d f v μ with
    | some μ' => .nx ρ μ'
    | none => .bad
  | .setI o i e, ρ, μ => (E.den g h e ρ μ).st ρ fun v μ => (E.den g h o ρ μ).st ρ fun d μ => (E.den g h i ρ μ).st ρ fun k μ => (setIR g d k v μ).st ρ fun _ μ => .nx ρ μ
def Ss.den (g : G) (h : Option X) : Ss → Env → Store → SR
  | .nil, ρ, μ => .nx ρ μ
  | .cons s r, ρ, μ => (St.den g h s ρ μ).seq fun ρ μ => Ss.den g h r ρ μ
end
/-! ### a program -/
structure FD where
  key : String
  np : Nat
  nn : Nat
  dfl : List D
  body : Ss
  /-- *args stands last -/
  va : Bool
def startE (n : Nat) (ds : List D) : Env := ds.map some ++ List.replicate (n - ds.length) none
/-- a def run -/
def FD.run (d : FD) (g : G) (as : List D) (μ : Store) : R D := if as.length = d.np then (match Ss.den g none d.body (startE d.nn as) μ with
  | .nx _ μ => .ok .non μ
  | .rt v μ => .ok v μ
  | .er x _ μ => .err x μ
  | _ => .bad) else .bad
def findF (fs : List FD) (k : String) : Option FD := fs.find? fun f => f.key == k
/-- the calls, n deep -/
def callN (fs : List FD) (g0 : Gs) : Nat → String → List D → Store → R D
  | 0, _, _, _ => .bad
  | n + 1, k, as, μ => match findF fs k with
    | some f => f.run { toGs := g0, call := callN fs g0 n } as μ
    | none => .bad
def gN (fs : List FD) (g0 : Gs) (n : Nat) : G := { toGs := g0, call := callN fs g0 n }
end Py
end

section
set_option autoImplicit false
/-! The defs that many laws share (printed by reg.py). -/
namespace Py.C
open Py
def b_Kind___abs__ : Ss := (.cons (.ret (.call "kind_height" (.cons (.attr (.var 0) "tree") .nil)))
    .nil)
def f_Kind___abs__ : FD := ⟨"Kind.__abs__", 1, 1, [], b_Kind___abs__, false⟩
def b_Kind___and__ : Ss := (.cons (.iff (.not_ (.isi (.var 1) false ["Kind"]))
    (.cons (.ret .nope)
    .nil)
    .nil)
    (.cons (.set (.name 2) (.call "meet" (.cons (.attr (.var 0) "tree") (.cons (.attr (.var 1) "tree") .nil))))
    (.cons (.iff (.cmp .is_ (.var 2) (.lit .non))
    (.cons (.raise "NoMeet")
    .nil)
    .nil)
    (.cons (.ret (.new "Kind" (.cons (.var 2) .nil)))
    .nil))))
def f_Kind___and__ : FD := ⟨"Kind.__and__", 2, 3, [], b_Kind___and__, false⟩
def b_Kind___eq__ : Ss := (.cons (.ret (.band (.cons (.isi (.var 1) false ["Kind"]) (.cons (.cmp .eq (.attr (.var 0) "tree") (.attr (.var 1) "tree")) .nil))))
    .nil)
def f_Kind___eq__ : FD := ⟨"Kind.__eq__", 2, 2, [], b_Kind___eq__, false⟩
def b_Kind___init__ : Ss := (.cons (.iff (.cmp .gt (.call "kind_height" (.cons (.var 1) .nil)) (.attr (.var 0) "LIMIT"))
    (.cons (.raise "TooLarge")
    .nil)
    .nil)
    (.cons (.setA (.var 0) "tree" (.var 1))
    .nil))
def f_Kind___init__ : FD := ⟨"Kind.__init__", 2, 2, [], b_Kind___init__, false⟩
def b_Kind___le__ : Ss := (.cons (.iff (.not_ (.isi (.var 1) false ["Kind"]))
    (.cons (.ret .nope)
    .nil)
    .nil)
    (.cons (.ret (.call "as_precise" (.cons (.attr (.var 0) "tree") (.cons (.attr (.var 1) "tree") .nil))))
    .nil))
def f_Kind___le__ : FD := ⟨"Kind.__le__", 2, 2, [], b_Kind___le__, false⟩
def b_Kind___or__ : Ss := (.cons (.iff (.not_ (.isi (.var 1) false ["Kind"]))
    (.cons (.ret .nope)
    .nil)
    .nil)
    (.cons (.ret (.new "Kind" (.cons (.call "join" (.cons (.attr (.var 0) "tree") (.cons (.attr (.var 1) "tree") .nil))) .nil)))
    .nil))
def f_Kind___or__ : FD := ⟨"Kind.__or__", 2, 2, [], b_Kind___or__, false⟩
def b_Kind_below : Ss := (.cons (.ret (.call "is_below" (.cons (.attr (.var 0) "tree") (.cons (.attr (.var 1) "tree") .nil))))
    .nil)
def f_Kind_below : FD := ⟨"Kind.below", 2, 2, [], b_Kind_below, false⟩
def b_Kind_negatively_below : Ss := (.cons (.ret (.call "negatively_below_orders" (.cons (.attr (.var 0) "tree") (.cons (.attr (.var 1) "tree") .nil))))
    .nil)
def f_Kind_negatively_below : FD := ⟨"Kind.negatively_below", 2, 2, [], b_Kind_negatively_below, false⟩
def b_Kind_positively_below : Ss := (.cons (.ret (.call "positively_below_orders" (.cons (.attr (.var 0) "tree") (.cons (.attr (.var 1) "tree") .nil))))
    .nil)
def f_Kind_positively_below : FD := ⟨"Kind.positively_below", 2, 2, [], b_Kind_positively_below, false⟩
def b_Middle___eq__ : Ss := (.cons (.ret (.band (.cons (.isi (.var 1) false ["Middle"]) (.cons (.cmp .eq (.attr (.var 0) "source") (.attr (.var 1) "source")) (.cons (.cmp .eq (.attr (.var 0) "tree") (.attr (.var 1) "tree")) (.cons (.cmp .eq (.attr (.var 0) "target") (.attr (.var 1) "target")) .nil))))))
    .nil)
def f_Middle___eq__ : FD := ⟨"Middle.__eq__", 2, 2, [], b_Middle___eq__, false⟩
def b_Middle___init__ : Ss := (.cons (.iff (.cmp .gt (.call "tree_height" (.cons (.var 2) .nil)) (.cval "Kind" "LIMIT"))
    (.cons (.raise "TooLarge")
    .nil)
    .nil)
    (.cons (.iff (.not_ (.call "fits_tree" (.cons (.var 2) (.cons (.attr (.var 1) "tree") (.cons (.attr (.var 3) "tree") .nil)))))
    (.cons (.raise "BadMiddle")
    .nil)
    .nil)
    (.cons (.setA (.var 0) "source" (.var 1))
    (.cons (.setA (.var 0) "tree" (.var 2))
    (.cons (.setA (.var 0) "target" (.var 3))
    .nil)))))
def f_Middle___init__ : FD := ⟨"Middle.__init__", 4, 4, [], b_Middle___init__, false⟩
def b_Middle___rshift__ : Ss := (.cons (.iff (.not_ (.isi (.var 1) false ["Middle"]))
    (.cons (.ret .nope)
    .nil)
    .nil)
    (.cons (.iff (.cmp .ne (.attr (.var 0) "target") (.attr (.var 1) "source"))
    (.cons .nope
    .nil)
    .nil)
    (.cons (.ret (.new "Middle" (.cons (.attr (.var 0) "source") (.cons (.call "join_trees" (.cons (.attr (.var 0) "tree") (.cons (.attr (.var 1) "tree") .nil))) (.cons (.attr (.var 1) "target") .nil)))))
    .nil)))
def f_Middle___rshift__ : FD := ⟨"Middle.__rshift__", 2, 2, [], b_Middle___rshift__, false⟩
def b_Middle_identity : Ss := (.cons (.ret (.callv 0 (.cons (.var 1) (.cons (.call "identity_tree" (.cons (.attr (.var 1) "tree") .nil)) (.cons (.var 1) .nil)))))
    .nil)
def f_Middle_identity : FD := ⟨"Middle.identity", 2, 2, [], b_Middle_identity, false⟩
def b__law_agree : Ss := (.cons (.iff (.bor (.cons (.cmp .eq (.var 0) (.lit (.str [63]))) (.cons (.cmp .eq (.var 1) (.lit (.str [63]))) .nil)))
    (.cons (.ret (.lit (.bl true)))
    .nil)
    .nil)
    (.cons (.iff (.call "_law_shaped" (.cons (.var 0) (.cons (.var 1) .nil)))
    (.cons (.ret (.band (.cons (.call "_law_agree" (.cons (.idx (.var 0) (.lit (.int 1))) (.cons (.idx (.var 1) (.lit (.int 1))) .nil))) (.cons (.call "_law_agree" (.cons (.idx (.var 0) (.lit (.int 2))) (.cons (.idx (.var 1) (.lit (.int 2))) .nil))) .nil))))
    .nil)
    .nil)
    (.cons (.ret (.cmp .eq (.var 0) (.var 1)))
    .nil)))
def f__law_agree : FD := ⟨"_law_agree", 2, 2, [], b__law_agree, false⟩
def b__law_agreeing : Ss := (.cons (.iff (.cmp .eq (.var 1) (.lit (.str [63])))
    (.cons (.ret (.call "_law_kind" (.cons (.var 0) (.cons (.var 2) .nil))))
    .nil)
    .nil)
    (.cons (.iff (.cmp .eq (.call "_law_draw" (.cons (.var 0) (.cons (.lit (.int 4)) .nil))) (.lit (.int 3)))
    (.cons (.ret (.lit (.str [63])))
    .nil)
    .nil)
    (.cons (.iff (.isi (.var 1) false ["tuple"])
    (.cons (.set (.name 3) (.call "_law_agreeing" (.cons (.var 0) (.cons (.idx (.var 1) (.lit (.int 1))) (.cons (.bin .sub (.var 2) (.lit (.int 1))) .nil)))))
    (.cons (.set (.name 4) (.call "_law_agreeing" (.cons (.var 0) (.cons (.idx (.var 1) (.lit (.int 2))) (.cons (.bin .sub (.var 2) (.lit (.int 1))) .nil)))))
    (.cons (.ret (.tup (.cons (.idx (.var 1) (.lit (.int 0))) (.cons (.var 3) (.cons (.var 4) .nil)))))
    .nil)))
    .nil)
    (.cons (.ret (.var 1))
    .nil))))
def f__law_agreeing : FD := ⟨"_law_agreeing", 3, 5, [], b__law_agreeing, false⟩
def b__law_check : Ss := (.cons (.iff (.cmp .eq (.idx (.var 0) (.lit (.int 0))) (.lit (.str [98, 97, 115, 101])))
    (.cons (.ret (.idx (.var 0) (.lit (.int 2))))
    .nil)
    .nil)
    (.cons (.ret (.idx (.var 0) (.lit (.int 1))))
    .nil))
def f__law_check : FD := ⟨"_law_check", 1, 1, [], b__law_check, false⟩
def b__law_dented : Ss := (.cons (.set (.name 2) (.call "_law_draw" (.cons (.var 0) (.cons (.lit (.int 4)) .nil))))
    (.cons (.iff (.not_ (.isi (.var 1) false ["tuple"]))
    (.cons (.ret (.call "_law_kind" (.cons (.var 0) (.cons (.lit (.int 0)) .nil))))
    .nil)
    .nil)
    (.cons (.iff (.cmp .eq (.var 2) (.lit (.int 0)))
    (.cons (.ret (.call "_law_kind" (.cons (.var 0) (.cons (.lit (.int 1)) .nil))))
    .nil)
    .nil)
    (.cons (.iff (.cmp .eq (.var 2) (.lit (.int 1)))
    (.cons (.ret (.tup (.cons (.idx (.lst (.cons (.lit (.str [112, 97, 105, 114])) (.cons (.lit (.str [102, 117, 110])) .nil))) (.bif "int" (.cons (.cmp .eq (.idx (.var 1) (.lit (.int 0))) (.lit (.str [112, 97, 105, 114]))) .nil))) (.cons (.idx (.var 1) (.lit (.int 1))) (.cons (.idx (.var 1) (.lit (.int 2))) .nil)))))
    .nil)
    .nil)
    (.cons (.iff (.cmp .eq (.var 2) (.lit (.int 2)))
    (.cons (.ret (.tup (.cons (.idx (.var 1) (.lit (.int 0))) (.cons (.call "_law_dented" (.cons (.var 0) (.cons (.idx (.var 1) (.lit (.int 1))) .nil))) (.cons (.idx (.var 1) (.lit (.int 2))) .nil)))))
    .nil)
    .nil)
    (.cons (.ret (.tup (.cons (.idx (.var 1) (.lit (.int 0))) (.cons (.idx (.var 1) (.lit (.int 1))) (.cons (.call "_law_dented" (.cons (.var 0) (.cons (.idx (.var 1) (.lit (.int 2))) .nil))) .nil)))))
    .nil))))))
def f__law_dented : FD := ⟨"_law_dented", 2, 3, [], b__law_dented, false⟩
def b__law_draw : Ss := (.cons (.iff (.cmp .eq (.bif "len" (.cons (.var 0) .nil)) (.lit (.int 0)))
    (.cons (.ret (.lit (.int 0)))
    .nil)
    .nil)
    (.cons (.ret (.bin .mod (.bif "int" (.cons (.meth (.var 0) "pop" .nil) .nil)) (.var 1)))
    .nil))
def f__law_draw : FD := ⟨"_law_draw", 2, 2, [], b__law_draw, false⟩
def b__law_draws : Ss := (.cons (.set (.name 1) (.lst .nil))
    (.cons (.for_ (.name 2) (.over (.var 0))
    (.cons (.set (.name 3) (.bif "int" (.cons (.var 2) .nil)))
    (.cons (.iff (.cmp .ge (.var 3) (.bin .pow (.lit (.int 10)) (.lit (.int 18))))
    (.cons (.for_ (.name 4) (.range1 (.lit (.int 60)))
    (.cons (.iff (.cmp .gt (.var 3) (.lit (.int 0)))
    (.cons (.expr (.meth (.var 1) "append" (.cons (.bin .mod (.bif "int" (.cons (.var 3) .nil)) (.lit (.int 1000))) .nil)))
    (.cons (.set (.name 3) (.bin .fdiv (.var 3) (.lit (.int 1000))))
    .nil))
    .nil)
    .nil))
    .nil)
    (.cons (.set (.name 3) (.bin .mod (.bif "int" (.cons (.bin .mul (.var 3) (.lit (.int 48271))) .nil)) (.lit (.int 2147483647))))
    (.cons (.for_ (.name 4) (.range1 (.lit (.int 4)))
    (.cons (.set (.name 3) (.bin .mod (.bif "int" (.cons (.bin .mul (.var 3) (.lit (.int 69621))) .nil)) (.lit (.int 2147483629))))
    (.cons (.expr (.meth (.var 1) "append" (.cons (.bin .mod (.bif "int" (.cons (.bin .fdiv (.var 3) (.lit (.int 7))) .nil)) (.lit (.int 1000))) .nil)))
    .nil)))
    .nil)))
    .nil)))
    (.cons (.expr (.meth (.var 1) "reverse" .nil))
    (.cons (.ret (.var 1))
    .nil))))
def f__law_draws : FD := ⟨"_law_draws", 1, 5, [], b__law_draws, false⟩
def b__law_fail_tree : Ss := (.cons (.set (.name 2) (.call "_law_label" (.cons (.var 0) .nil)))
    (.cons (.iff (.bor (.cons (.cmp .ne (.var 1) (.lit (.str [63]))) (.cons (.cmp .eq (.call "_law_draw" (.cons (.var 0) (.cons (.lit (.int 3)) .nil))) (.lit (.int 0))) .nil)))
    (.cons (.ret (.tup (.cons (.lit (.str [102, 97, 105, 108])) (.cons (.lit .non) (.cons (.var 2) .nil)))))
    .nil)
    .nil)
    (.cons (.set (.name 3) (.idx (.lst (.cons (.lit (.str [105, 110, 116])) (.cons (.lit (.str [98, 111, 111, 108])) (.cons (.lit (.str [117, 110, 105, 116])) (.cons (.lit (.str [102, 117, 110])) (.cons (.lit (.str [112, 97, 105, 114])) .nil)))))) (.call "_law_draw" (.cons (.var 0) (.cons (.lit (.int 5)) .nil)))))
    (.cons (.ret (.call "_law_failure" (.cons (.var 3) (.cons (.call "_law_label" (.cons (.var 0) .nil)) (.cons (.var 2) .nil)))))
    .nil))))
def f__law_fail_tree : FD := ⟨"_law_fail_tree", 2, 4, [], b__law_fail_tree, false⟩
def b__law_failure : Ss := (.cons (.iff (.bor (.cons (.cmp .is_ (.var 1) (.lit .non)) (.cons (.cmp .eq (.var 1) (.var 2)) .nil)))
    (.cons (.ret (.tup (.cons (.lit (.str [102, 97, 105, 108])) (.cons (.lit .non) (.cons (.var 2) .nil)))))
    .nil)
    .nil)
    (.cons (.ret (.tup (.cons (.lit (.str [102, 97, 105, 108])) (.cons (.tup (.cons (.var 0) (.cons (.var 1) .nil))) (.cons (.var 2) .nil)))))
    .nil))
def f__law_failure : FD := ⟨"_law_failure", 3, 3, [], b__law_failure, false⟩
def b__law_ground : Ss := (.cons (.iff (.cmp .eq (.idx (.var 0) (.lit (.int 0))) (.lit (.str [98, 97, 115, 101])))
    (.cons (.ret (.idx (.var 0) (.lit (.int 1))))
    .nil)
    .nil)
    (.cons (.ret (.idx (.var 0) (.lit (.int 0))))
    .nil))
def f__law_ground : FD := ⟨"_law_ground", 1, 1, [], b__law_ground, false⟩
def b__law_has : Ss := (.cons (.iff (.isi (.var 0) false ["tuple"])
    (.cons (.ret (.cmp .eq (.idx (.var 0) (.lit (.int 0))) (.var 1)))
    .nil)
    .nil)
    (.cons (.ret (.bor (.cons (.cmp .eq (.var 0) (.lit (.str [63]))) (.cons (.cmp .eq (.var 0) (.var 1)) .nil))))
    .nil))
def f__law_has : FD := ⟨"_law_has", 2, 2, [], b__law_has, false⟩
def b__law_is_middle : Ss := (.cons (.iff (.bor (.cons (.not_ (.isi (.var 0) false ["Middle"])) (.cons (.not_ (.isi (.attr (.var 0) "source") false ["Kind"])) (.cons (.not_ (.isi (.attr (.var 0) "target") false ["Kind"])) .nil))))
    (.cons (.ret (.lit (.bl false)))
    .nil)
    .nil)
    (.cons (.iff (.bor (.cons (.not_ (.call "_law_same" (.cons (.attr (.attr (.var 0) "source") "tree") (.cons (.var 1) .nil)))) (.cons (.not_ (.call "_law_same" (.cons (.attr (.attr (.var 0) "target") "tree") (.cons (.var 3) .nil)))) .nil)))
    (.cons (.ret (.lit (.bl false)))
    .nil)
    .nil)
    (.cons (.ret (.call "_law_same" (.cons (.attr (.var 0) "tree") (.cons (.var 2) .nil))))
    .nil)))
def f__law_is_middle : FD := ⟨"_law_is_middle", 4, 4, [], b__law_is_middle, false⟩
def b__law_kind : Ss := (.cons (.set (.name 2) (.call "_law_draw" (.cons (.var 0) (.cons (.lit (.int 9)) .nil))))
    (.cons (.iff (.band (.cons (.cmp .gt (.var 1) (.lit (.int 0))) (.cons (.cmp .ge (.var 2) (.lit (.int 6))) .nil)))
    (.cons (.set (.name 3) (.call "_law_kind" (.cons (.var 0) (.cons (.bin .sub (.var 1) (.lit (.int 1))) .nil))))
    (.cons (.set (.name 4) (.call "_law_kind" (.cons (.var 0) (.cons (.bin .sub (.var 1) (.lit (.int 1))) .nil))))
    (.cons (.iff (.cmp .eq (.var 2) (.lit (.int 8)))
    (.cons (.ret (.tup (.cons (.lit (.str [112, 97, 105, 114])) (.cons (.var 3) (.cons (.var 4) .nil)))))
    .nil)
    .nil)
    (.cons (.ret (.tup (.cons (.lit (.str [102, 117, 110])) (.cons (.var 3) (.cons (.var 4) .nil)))))
    .nil))))
    .nil)
    (.cons (.ret (.idx (.lst (.cons (.lit (.str [63])) (.cons (.lit (.str [105, 110, 116])) (.cons (.lit (.str [98, 111, 111, 108])) (.cons (.lit (.str [117, 110, 105, 116])) (.cons (.lit (.str [63])) (.cons (.lit (.str [105, 110, 116])) .nil))))))) (.bin .mod (.var 2) (.lit (.int 6)))))
    .nil)))
def f__law_kind : FD := ⟨"_law_kind", 2, 5, [], b__law_kind, false⟩
def b__law_label : Ss := (.cons (.set (.name 1) (.bin .mul (.lit (.str [126])) (.call "_law_draw" (.cons (.var 0) (.cons (.lit (.int 2)) .nil)))))
    (.cons (.ret (.bin .add (.var 1) (.call "_law_name" (.cons (.var 0) .nil))))
    .nil))
def f__law_label : FD := ⟨"_law_label", 1, 2, [], b__law_label, false⟩
def b__law_looser : Ss := (.cons (.iff (.cmp .eq (.call "_law_draw" (.cons (.var 0) (.cons (.lit (.int 3)) .nil))) (.lit (.int 2)))
    (.cons (.ret (.lit (.str [63])))
    .nil)
    .nil)
    (.cons (.iff (.isi (.var 1) false ["tuple"])
    (.cons (.set (.name 2) (.call "_law_looser" (.cons (.var 0) (.cons (.idx (.var 1) (.lit (.int 1))) .nil))))
    (.cons (.ret (.tup (.cons (.idx (.var 1) (.lit (.int 0))) (.cons (.var 2) (.cons (.call "_law_looser" (.cons (.var 0) (.cons (.idx (.var 1) (.lit (.int 2))) .nil))) .nil)))))
    .nil))
    .nil)
    (.cons (.ret (.var 1))
    .nil)))
def f__law_looser : FD := ⟨"_law_looser", 2, 3, [], b__law_looser, false⟩
def b__law_meet : Ss := (.cons (.iff (.cmp .eq (.var 0) (.lit (.str [63])))
    (.cons (.ret (.var 1))
    .nil)
    .nil)
    (.cons (.iff (.cmp .eq (.var 1) (.lit (.str [63])))
    (.cons (.ret (.var 0))
    .nil)
    .nil)
    (.cons (.iff (.call "_law_shaped" (.cons (.var 0) (.cons (.var 1) .nil)))
    (.cons (.ret (.tup (.cons (.idx (.var 0) (.lit (.int 0))) (.cons (.call "_law_meet" (.cons (.idx (.var 0) (.lit (.int 1))) (.cons (.idx (.var 1) (.lit (.int 1))) .nil))) (.cons (.call "_law_meet" (.cons (.idx (.var 0) (.lit (.int 2))) (.cons (.idx (.var 1) (.lit (.int 2))) .nil))) .nil)))))
    .nil)
    .nil)
    (.cons (.ret (.var 0))
    .nil))))
def f__law_meet : FD := ⟨"_law_meet", 2, 2, [], b__law_meet, false⟩
def b__law_minus : Ss := (.cons (.iff (.cmp .eq (.var 0) (.lit (.str [63])))
    (.cons (.ret (.lit (.bl true)))
    .nil)
    .nil)
    (.cons (.iff (.cmp .eq (.var 1) (.lit (.str [63])))
    (.cons (.iff (.not_ (.isi (.var 0) false ["tuple"]))
    (.cons (.ret (.lit (.bl true)))
    .nil)
    .nil)
    (.cons (.set (.name 1) (.call "_law_open" (.cons (.var 1) (.cons (.idx (.var 0) (.lit (.int 0))) .nil))))
    .nil))
    .nil)
    (.cons (.iff (.not_ (.call "_law_shaped" (.cons (.var 0) (.cons (.var 1) .nil))))
    (.cons (.ret (.cmp .eq (.var 0) (.var 1)))
    .nil)
    .nil)
    (.cons (.iff (.cmp .eq (.idx (.var 0) (.lit (.int 0))) (.lit (.str [102, 117, 110])))
    (.cons (.ret (.band (.cons (.call "_law_plus" (.cons (.idx (.var 1) (.lit (.int 1))) (.cons (.idx (.var 0) (.lit (.int 1))) .nil))) (.cons (.call "_law_minus" (.cons (.idx (.var 0) (.lit (.int 2))) (.cons (.idx (.var 1) (.lit (.int 2))) .nil))) .nil))))
    .nil)
    .nil)
    (.cons (.ret (.band (.cons (.call "_law_minus" (.cons (.idx (.var 0) (.lit (.int 1))) (.cons (.idx (.var 1) (.lit (.int 1))) .nil))) (.cons (.call "_law_minus" (.cons (.idx (.var 0) (.lit (.int 2))) (.cons (.idx (.var 1) (.lit (.int 2))) .nil))) .nil))))
    .nil)))))
def f__law_minus : FD := ⟨"_law_minus", 2, 2, [], b__law_minus, false⟩
def b__law_name : Ss := (.cons (.set (.name 1) (.lit (.str [97, 98, 99, 100, 101, 102, 103, 104, 105, 106, 107, 108, 109, 110, 111, 112, 113, 114, 115, 116, 117, 118, 119, 120, 121, 122, 48, 49, 50, 51, 52, 53, 54, 55, 56, 57])))
    (.cons (.set (.name 2) (.call "_law_draw" (.cons (.var 0) (.cons (.lit (.int 4)) .nil))))
    (.cons (.iff (.cmp .lt (.var 2) (.lit (.int 2)))
    (.cons (.ret (.idx (.lit (.str [112, 113, 114, 115])) (.call "_law_draw" (.cons (.var 0) (.cons (.lit (.int 4)) .nil)))))
    .nil)
    .nil)
    (.cons (.set (.name 3) (.bin .add (.lit (.int 1)) (.call "_law_draw" (.cons (.var 0) (.cons (.lit (.int 8)) .nil)))))
    (.cons (.iff (.cmp .eq (.var 2) (.lit (.int 2)))
    (.cons (.set (.name 5) (.idx (.var 1) (.call "_law_draw" (.cons (.var 0) (.cons (.lit (.int 26)) .nil)))))
    (.cons (.for_ (.name 6) (.range1 (.bin .sub (.var 3) (.lit (.int 1))))
    (.cons (.set (.name 5) (.bin .add (.var 5) (.idx (.var 1) (.call "_law_draw" (.cons (.var 0) (.cons (.lit (.int 36)) .nil))))))
    .nil))
    (.cons (.ret (.var 5))
    .nil)))
    .nil)
    (.cons (.set (.name 4) (.call "_law_draw" (.cons (.var 0) (.cons (.var 3) .nil))))
    (.cons (.ret (.bin .add (.bin .add (.bin .mul (.lit (.str [97])) (.var 4)) (.idx (.var 1) (.call "_law_draw" (.cons (.var 0) (.cons (.lit (.int 26)) .nil))))) (.bin .mul (.lit (.str [97])) (.bin .sub (.bin .sub (.var 3) (.var 4)) (.lit (.int 1))))))
    .nil)))))))
def f__law_name : FD := ⟨"_law_name", 1, 7, [], b__law_name, false⟩
def b__law_nest : Ss := (.cons (.set (.name 2) (.lst (.cons (.tup (.cons (.lit (.str [97, 110, 121])) .nil)) (.cons (.tup (.cons (.lit (.str [98, 97, 115, 101])) (.cons (.lit (.str [105, 110, 116])) (.cons (.lit (.str [112])) .nil)))) (.cons (.tup (.cons (.lit (.str [102, 97, 105, 108])) (.cons (.lit .non) (.cons (.lit (.str [113])) .nil)))) (.cons (.tup (.cons (.lit (.str [102, 97, 105, 108])) (.cons (.tup (.cons (.lit (.str [112, 97, 105, 114])) (.cons (.lit (.str [112])) .nil))) (.cons (.lit (.str [113])) .nil)))) .nil))))))
    (.cons (.expr (.meth (.var 2) "append" (.cons (.tup (.cons (.lit (.str [102, 97, 105, 108])) (.cons (.tup (.cons (.lit (.str [105, 110, 116])) (.cons (.lit (.str [112])) .nil))) (.cons (.lit (.str [126, 112])) .nil)))) .nil)))
    (.cons (.set (.name 3) (.idx (.var 2) (.call "_law_draw" (.cons (.var 0) (.cons (.lit (.int 5)) .nil)))))
    (.cons (.for_ (.name 4) (.range1 (.var 1))
    (.cons (.set (.name 5) (.call "_law_label" (.cons (.var 0) .nil)))
    (.cons (.set (.name 6) (.call "_law_draw" (.cons (.var 0) (.cons (.lit (.int 4)) .nil))))
    (.cons (.iff (.cmp .eq (.var 6) (.lit (.int 0)))
    (.cons (.set (.name 3) (.tup (.cons (.lit (.str [112, 97, 105, 114])) (.cons (.var 5) (.cons (.var 3) (.cons (.tup (.cons (.lit (.str [97, 110, 121])) .nil)) .nil))))))
    .nil)
    (.cons (.iff (.cmp .eq (.var 6) (.lit (.int 1)))
    (.cons (.set (.name 3) (.tup (.cons (.lit (.str [112, 97, 105, 114])) (.cons (.var 5) (.cons (.tup (.cons (.lit (.str [98, 97, 115, 101])) (.cons (.lit (.str [98, 111, 111, 108])) (.cons (.lit (.str [114])) .nil)))) (.cons (.var 3) .nil))))))
    .nil)
    (.cons (.iff (.cmp .eq (.var 6) (.lit (.int 2)))
    (.cons (.set (.name 3) (.tup (.cons (.lit (.str [102, 117, 110])) (.cons (.var 5) (.cons (.tup (.cons (.lit (.str [97, 110, 121])) .nil)) (.cons (.var 3) .nil))))))
    .nil)
    (.cons (.iff (.cmp .eq (.idx (.var 3) (.lit (.int 0))) (.lit (.str [102, 97, 105, 108])))
    (.cons (.set (.name 3) (.tup (.cons (.lit (.str [102, 117, 110])) (.cons (.var 5) (.cons (.var 3) (.cons (.lit .non) .nil))))))
    .nil)
    (.cons (.set (.name 3) (.tup (.cons (.lit (.str [102, 117, 110])) (.cons (.var 5) (.cons (.var 3) (.cons (.tup (.cons (.lit (.str [98, 97, 115, 101])) (.cons (.lit (.str [105, 110, 116])) (.cons (.lit (.str [115])) .nil)))) .nil))))))
    .nil))
    .nil))
    .nil))
    .nil))
    .nil))))
    (.cons (.ret (.var 3))
    .nil)))))
def f__law_nest : FD := ⟨"_law_nest", 2, 7, [], b__law_nest, false⟩
def b__law_open : Ss := (.cons (.iff (.cmp .eq (.var 0) (.lit (.str [63])))
    (.cons (.ret (.tup (.cons (.var 1) (.cons (.lit (.str [63])) (.cons (.lit (.str [63])) .nil)))))
    .nil)
    .nil)
    (.cons (.ret (.var 0))
    .nil))
def f__law_open : FD := ⟨"_law_open", 2, 2, [], b__law_open, false⟩
def b__law_other : Ss := (.cons (.set (.name 2) (.call "_law_draw" (.cons (.var 0) (.cons (.lit (.int 6)) .nil))))
    (.cons (.iff (.cmp .lt (.var 2) (.lit (.int 2)))
    (.cons (.ret (.call "_law_agreeing" (.cons (.var 0) (.cons (.var 1) (.cons (.lit (.int 3)) .nil)))))
    .nil)
    .nil)
    (.cons (.iff (.cmp .eq (.var 2) (.lit (.int 2)))
    (.cons (.ret (.call "_law_dented" (.cons (.var 0) (.cons (.var 1) .nil))))
    .nil)
    .nil)
    (.cons (.iff (.cmp .eq (.var 2) (.lit (.int 3)))
    (.cons (.ret (.call "_law_dented" (.cons (.var 0) (.cons (.call "_law_agreeing" (.cons (.var 0) (.cons (.var 1) (.cons (.lit (.int 3)) .nil)))) .nil))))
    .nil)
    .nil)
    (.cons (.iff (.cmp .eq (.var 2) (.lit (.int 4)))
    (.cons (.ret (.call "_law_looser" (.cons (.var 0) (.cons (.var 1) .nil))))
    .nil)
    .nil)
    (.cons (.ret (.call "_law_some_kind" (.cons (.var 0) .nil)))
    .nil))))))
def f__law_other : FD := ⟨"_law_other", 2, 3, [], b__law_other, false⟩
def b__law_parts : Ss := (.cons (.iff (.band (.cons (.cmp .ne (.idx (.var 0) (.lit (.int 0))) (.lit (.str [102, 117, 110]))) (.cons (.cmp .ne (.idx (.var 0) (.lit (.int 0))) (.lit (.str [112, 97, 105, 114]))) .nil)))
    (.cons (.ret (.lst .nil))
    .nil)
    .nil)
    (.cons (.ret (.comp (.name 1) (.var 1) (.over (.lst (.cons (.idx (.var 0) (.lit (.int 2))) (.cons (.idx (.var 0) (.lit (.int 3))) .nil)))) (.cons (.cmp .isn (.var 1) (.lit .non)) .nil)))
    .nil))
def f__law_parts : FD := ⟨"_law_parts", 1, 2, [], b__law_parts, false⟩
def b__law_plus : Ss := (.cons (.iff (.cmp .eq (.var 1) (.lit (.str [63])))
    (.cons (.ret (.lit (.bl true)))
    .nil)
    .nil)
    (.cons (.iff (.not_ (.call "_law_shaped" (.cons (.var 0) (.cons (.var 1) .nil))))
    (.cons (.ret (.cmp .eq (.var 0) (.var 1)))
    .nil)
    .nil)
    (.cons (.iff (.cmp .eq (.idx (.var 0) (.lit (.int 0))) (.lit (.str [102, 117, 110])))
    (.cons (.ret (.band (.cons (.call "_law_minus" (.cons (.idx (.var 1) (.lit (.int 1))) (.cons (.idx (.var 0) (.lit (.int 1))) .nil))) (.cons (.call "_law_plus" (.cons (.idx (.var 0) (.lit (.int 2))) (.cons (.idx (.var 1) (.lit (.int 2))) .nil))) .nil))))
    .nil)
    .nil)
    (.cons (.ret (.band (.cons (.call "_law_plus" (.cons (.idx (.var 0) (.lit (.int 1))) (.cons (.idx (.var 1) (.lit (.int 1))) .nil))) (.cons (.call "_law_plus" (.cons (.idx (.var 0) (.lit (.int 2))) (.cons (.idx (.var 1) (.lit (.int 2))) .nil))) .nil))))
    .nil))))
def f__law_plus : FD := ⟨"_law_plus", 2, 2, [], b__law_plus, false⟩
def b__law_precise : Ss := (.cons (.iff (.cmp .eq (.var 1) (.lit (.str [63])))
    (.cons (.ret (.lit (.bl true)))
    .nil)
    .nil)
    (.cons (.iff (.call "_law_shaped" (.cons (.var 0) (.cons (.var 1) .nil)))
    (.cons (.ret (.band (.cons (.call "_law_precise" (.cons (.idx (.var 0) (.lit (.int 1))) (.cons (.idx (.var 1) (.lit (.int 1))) .nil))) (.cons (.call "_law_precise" (.cons (.idx (.var 0) (.lit (.int 2))) (.cons (.idx (.var 1) (.lit (.int 2))) .nil))) .nil))))
    .nil)
    .nil)
    (.cons (.ret (.cmp .eq (.var 0) (.var 1)))
    .nil)))
def f__law_precise : FD := ⟨"_law_precise", 2, 2, [], b__law_precise, false⟩
def b__law_rich : Ss := (.cons (.iff (.bor (.cons (.cmp .le (.var 1) (.lit (.int 0))) (.cons (.cmp .eq (.call "_law_draw" (.cons (.var 0) (.cons (.lit (.int 4)) .nil))) (.lit (.int 0))) .nil)))
    (.cons (.ret (.call "_law_kind" (.cons (.var 0) (.cons (.lit (.int 0)) .nil))))
    .nil)
    .nil)
    (.cons (.set (.name 2) (.idx (.lst (.cons (.lit (.str [102, 117, 110])) (.cons (.lit (.str [112, 97, 105, 114])) .nil))) (.call "_law_draw" (.cons (.var 0) (.cons (.lit (.int 2)) .nil)))))
    (.cons (.set (.name 3) (.call "_law_rich" (.cons (.var 0) (.cons (.bin .sub (.var 1) (.lit (.int 1))) .nil))))
    (.cons (.ret (.tup (.cons (.var 2) (.cons (.var 3) (.cons (.call "_law_rich" (.cons (.var 0) (.cons (.bin .sub (.var 1) (.lit (.int 1))) .nil))) .nil)))))
    .nil))))
def f__law_rich : FD := ⟨"_law_rich", 2, 4, [], b__law_rich, false⟩
def b__law_same : Ss := (.cons (.iff (.bor (.cons (.isi (.var 1) false ["bool"]) (.cons (.isi (.var 0) false ["bool"]) .nil)))
    (.cons (.ret (.band (.cons (.isi (.var 1) false ["bool"]) (.cons (.isi (.var 0) false ["bool"]) (.cons (.cmp .eq (.var 0) (.var 1)) .nil)))))
    .nil)
    .nil)
    (.cons (.iff (.bor (.cons (.cmp .is_ (.var 1) (.lit .non)) (.cons (.cmp .is_ (.var 0) (.lit .non)) .nil)))
    (.cons (.ret (.band (.cons (.cmp .is_ (.var 1) (.lit .non)) (.cons (.cmp .is_ (.var 0) (.lit .non)) .nil))))
    .nil)
    .nil)
    (.cons (.iff (.isi (.var 1) false ["int"])
    (.cons (.ret (.band (.cons (.isi (.var 0) false ["int"]) (.cons (.cmp .eq (.var 0) (.var 1)) .nil))))
    .nil)
    .nil)
    (.cons (.iff (.isi (.var 1) false ["str"])
    (.cons (.ret (.band (.cons (.isi (.var 0) false ["str"]) (.cons (.cmp .eq (.var 0) (.var 1)) .nil))))
    .nil)
    .nil)
    (.cons (.iff (.band (.cons (.isi (.var 1) false ["tuple"]) (.cons (.not_ (.isi (.var 0) false ["tuple"])) .nil)))
    (.cons (.ret (.lit (.bl false)))
    .nil)
    .nil)
    (.cons (.iff (.band (.cons (.isi (.var 1) false ["list"]) (.cons (.not_ (.isi (.var 0) false ["list"])) .nil)))
    (.cons (.ret (.lit (.bl false)))
    .nil)
    .nil)
    (.cons (.iff (.cmp .ne (.bif "len" (.cons (.var 0) .nil)) (.bif "len" (.cons (.var 1) .nil)))
    (.cons (.ret (.lit (.bl false)))
    .nil)
    .nil)
    (.cons (.for_ (.name 2) (.range1 (.bif "len" (.cons (.var 1) .nil)))
    (.cons (.iff (.not_ (.call "_law_same" (.cons (.idx (.var 0) (.var 2)) (.cons (.idx (.var 1) (.var 2)) .nil))))
    (.cons (.ret (.lit (.bl false)))
    .nil)
    .nil)
    .nil))
    (.cons (.ret (.lit (.bl true)))
    .nil)))))))))
def f__law_same : FD := ⟨"_law_same", 2, 3, [], b__law_same, false⟩
def b__law_shaped : Ss := (.cons (.ret (.band (.cons (.isi (.var 0) false ["tuple"]) (.cons (.isi (.var 1) false ["tuple"]) (.cons (.cmp .eq (.idx (.var 0) (.lit (.int 0))) (.idx (.var 1) (.lit (.int 0)))) .nil)))))
    .nil)
def f__law_shaped : FD := ⟨"_law_shaped", 2, 2, [], b__law_shaped, false⟩
def b__law_some_kind : Ss := (.cons (.set (.name 1) (.call "_law_draw" (.cons (.var 0) (.cons (.lit (.int 5)) .nil))))
    (.cons (.iff (.cmp .eq (.var 1) (.lit (.int 4)))
    (.cons (.ret (.call "_law_tall" (.cons (.var 0) .nil)))
    .nil)
    .nil)
    (.cons (.iff (.cmp .eq (.var 1) (.lit (.int 3)))
    (.cons (.ret (.call "_law_kind" (.cons (.var 0) (.cons (.lit (.int 1)) .nil))))
    .nil)
    .nil)
    (.cons (.ret (.call "_law_rich" (.cons (.var 0) (.cons (.lit (.int 3)) .nil))))
    .nil))))
def f__law_some_kind : FD := ⟨"_law_some_kind", 1, 2, [], b__law_some_kind, false⟩
def b__law_tall : Ss := (.cons (.set (.name 1) (.call "_law_kind" (.cons (.var 0) (.cons (.lit (.int 0)) .nil))))
    (.cons (.for_ (.name 2) (.range1 (.call "_law_draw" (.cons (.var 0) (.cons (.lit (.int 9)) .nil))))
    (.cons (.set (.name 3) (.call "_law_kind" (.cons (.var 0) (.cons (.lit (.int 0)) .nil))))
    (.cons (.set (.name 4) (.call "_law_draw" (.cons (.var 0) (.cons (.lit (.int 4)) .nil))))
    (.cons (.iff (.cmp .eq (.var 4) (.lit (.int 0)))
    (.cons (.set (.name 1) (.tup (.cons (.lit (.str [102, 117, 110])) (.cons (.var 1) (.cons (.var 3) .nil)))))
    .nil)
    (.cons (.iff (.cmp .eq (.var 4) (.lit (.int 1)))
    (.cons (.set (.name 1) (.tup (.cons (.lit (.str [102, 117, 110])) (.cons (.var 3) (.cons (.var 1) .nil)))))
    .nil)
    (.cons (.iff (.cmp .eq (.var 4) (.lit (.int 2)))
    (.cons (.set (.name 1) (.tup (.cons (.lit (.str [112, 97, 105, 114])) (.cons (.var 1) (.cons (.var 3) .nil)))))
    .nil)
    (.cons (.set (.name 1) (.tup (.cons (.lit (.str [112, 97, 105, 114])) (.cons (.var 3) (.cons (.var 1) .nil)))))
    .nil))
    .nil))
    .nil))
    .nil))))
    (.cons (.ret (.var 1))
    .nil)))
def f__law_tall : FD := ⟨"_law_tall", 1, 5, [], b__law_tall, false⟩
def b__law_tree : Ss := (.cons (.set (.name 4) (.call "_law_draw" (.cons (.var 0) (.cons (.lit (.int 8)) .nil))))
    (.cons (.set (.name 5) (.var 1))
    (.cons (.iff (.cmp .eq (.var 1) (.lit (.str [63])))
    (.cons (.set (.name 5) (.var 2))
    .nil)
    .nil)
    (.cons (.iff (.bor (.cons (.band (.cons (.cmp .ne (.var 1) (.lit (.str [63]))) (.cons (.cmp .ne (.var 2) (.lit (.str [63]))) (.cons (.not_ (.call "_law_has" (.cons (.var 2) (.cons (.ite (.not_ (.isi (.var 1) false ["tuple"])) (.var 1) (.idx (.var 1) (.lit (.int 0)))) .nil)))) .nil)))) (.cons (.cmp .eq (.var 4) (.lit (.int 7))) .nil)))
    (.cons (.ret (.call "_law_fail_tree" (.cons (.var 0) (.cons (.var 1) .nil))))
    .nil)
    .nil)
    (.cons (.iff (.cmp .eq (.var 5) (.lit (.str [63])))
    (.cons (.iff (.cmp .lt (.var 4) (.lit (.int 2)))
    (.cons (.ret (.tup (.cons (.lit (.str [97, 110, 121])) .nil)))
    .nil)
    .nil)
    (.cons (.iff (.bor (.cons (.cmp .lt (.var 4) (.lit (.int 5))) (.cons (.cmp .le (.var 3) (.lit (.int 0))) .nil)))
    (.cons (.set (.name 5) (.idx (.lst (.cons (.lit (.str [105, 110, 116])) (.cons (.lit (.str [98, 111, 111, 108])) (.cons (.lit (.str [117, 110, 105, 116])) .nil)))) (.call "_law_draw" (.cons (.var 0) (.cons (.lit (.int 3)) .nil)))))
    .nil)
    (.cons (.set (.name 5) (.idx (.lst (.cons (.tup (.cons (.lit (.str [102, 117, 110])) (.cons (.lit (.str [63])) (.cons (.lit (.str [63])) .nil)))) (.cons (.tup (.cons (.lit (.str [112, 97, 105, 114])) (.cons (.lit (.str [63])) (.cons (.lit (.str [63])) .nil)))) .nil))) (.call "_law_draw" (.cons (.var 0) (.cons (.lit (.int 2)) .nil)))))
    .nil))
    .nil))
    .nil)
    (.cons (.set (.name 6) (.lit .non))
    (.cons (.iff (.cmp .eq (.var 1) (.lit (.str [63])))
    (.cons (.set (.name 6) (.call "_law_label" (.cons (.var 0) .nil)))
    .nil)
    .nil)
    (.cons (.iff (.not_ (.isi (.var 5) false ["tuple"]))
    (.cons (.ret (.tup (.cons (.lit (.str [98, 97, 115, 101])) (.cons (.var 5) (.cons (.var 6) .nil)))))
    .nil)
    .nil)
    (.cons (.set (.name 7) (.call "_law_open" (.cons (.var 1) (.cons (.idx (.var 5) (.lit (.int 0))) .nil))))
    (.cons (.set (.name 8) (.call "_law_open" (.cons (.var 2) (.cons (.idx (.var 5) (.lit (.int 0))) .nil))))
    (.cons (.iff (.cmp .eq (.idx (.var 5) (.lit (.int 0))) (.lit (.str [112, 97, 105, 114])))
    (.cons (.set (.name 10) (.call "_law_tree" (.cons (.var 0) (.cons (.idx (.var 7) (.lit (.int 1))) (.cons (.idx (.var 8) (.lit (.int 1))) (.cons (.bin .sub (.var 3) (.lit (.int 1))) .nil))))))
    (.cons (.ret (.tup (.cons (.lit (.str [112, 97, 105, 114])) (.cons (.var 6) (.cons (.var 10) (.cons (.call "_law_tree" (.cons (.var 0) (.cons (.idx (.var 7) (.lit (.int 2))) (.cons (.idx (.var 8) (.lit (.int 2))) (.cons (.bin .sub (.var 3) (.lit (.int 1))) .nil))))) .nil))))))
    .nil))
    .nil)
    (.cons (.set (.name 9) (.call "_law_tree" (.cons (.var 0) (.cons (.idx (.var 8) (.lit (.int 1))) (.cons (.idx (.var 7) (.lit (.int 1))) (.cons (.bin .sub (.var 3) (.lit (.int 1))) .nil))))))
    (.cons (.iff (.cmp .eq (.idx (.var 9) (.lit (.int 0))) (.lit (.str [102, 97, 105, 108])))
    (.cons (.ret (.tup (.cons (.lit (.str [102, 117, 110])) (.cons (.var 6) (.cons (.var 9) (.cons (.lit .non) .nil))))))
    .nil)
    .nil)
    (.cons (.ret (.tup (.cons (.lit (.str [102, 117, 110])) (.cons (.var 6) (.cons (.var 9) (.cons (.call "_law_tree" (.cons (.var 0) (.cons (.idx (.var 7) (.lit (.int 2))) (.cons (.idx (.var 8) (.lit (.int 2))) (.cons (.bin .sub (.var 3) (.lit (.int 1))) .nil))))) .nil))))))
    .nil))))))))))))))
def f__law_tree : FD := ⟨"_law_tree", 4, 11, [], b__law_tree, false⟩
def b__law_tree_fits : Ss := (.cons (.iff (.cmp .eq (.idx (.var 0) (.lit (.int 0))) (.lit (.str [97, 110, 121])))
    (.cons (.ret (.band (.cons (.cmp .eq (.var 1) (.lit (.str [63]))) (.cons (.cmp .eq (.var 2) (.lit (.str [63]))) .nil))))
    .nil)
    .nil)
    (.cons (.iff (.cmp .eq (.idx (.var 0) (.lit (.int 0))) (.lit (.str [102, 97, 105, 108])))
    (.cons (.ret (.bor (.cons (.cmp .is_ (.idx (.var 0) (.lit (.int 1))) (.lit .non)) (.cons (.band (.cons (.cmp .eq (.var 1) (.lit (.str [63]))) (.cons (.cmp .ne (.idx (.idx (.var 0) (.lit (.int 1))) (.lit (.int 1))) (.idx (.var 0) (.lit (.int 2)))) .nil))) .nil))))
    .nil)
    .nil)
    (.cons (.iff (.cmp .eq (.cmp .is_ (.call "_law_check" (.cons (.var 0) .nil)) (.lit .non)) (.cmp .eq (.var 1) (.lit (.str [63]))))
    (.cons (.ret (.lit (.bl false)))
    .nil)
    .nil)
    (.cons (.set (.name 3) (.call "_law_ground" (.cons (.var 0) .nil)))
    (.cons (.iff (.bor (.cons (.not_ (.call "_law_has" (.cons (.var 1) (.cons (.var 3) .nil)))) (.cons (.not_ (.call "_law_has" (.cons (.var 2) (.cons (.var 3) .nil)))) .nil)))
    (.cons (.ret (.lit (.bl false)))
    .nil)
    .nil)
    (.cons (.iff (.cmp .eq (.idx (.var 0) (.lit (.int 0))) (.lit (.str [98, 97, 115, 101])))
    (.cons (.ret (.lit (.bl true)))
    .nil)
    .nil)
    (.cons (.set (.name 4) (.call "_law_open" (.cons (.var 1) (.cons (.var 3) .nil))))
    (.cons (.set (.name 5) (.call "_law_open" (.cons (.var 2) (.cons (.var 3) .nil))))
    (.cons (.iff (.cmp .eq (.idx (.var 0) (.lit (.int 0))) (.lit (.str [112, 97, 105, 114])))
    (.cons (.ret (.band (.cons (.call "_law_tree_fits" (.cons (.idx (.var 0) (.lit (.int 2))) (.cons (.idx (.var 4) (.lit (.int 1))) (.cons (.idx (.var 5) (.lit (.int 1))) .nil)))) (.cons (.call "_law_tree_fits" (.cons (.idx (.var 0) (.lit (.int 3))) (.cons (.idx (.var 4) (.lit (.int 2))) (.cons (.idx (.var 5) (.lit (.int 2))) .nil)))) .nil))))
    .nil)
    .nil)
    (.cons (.iff (.not_ (.call "_law_tree_fits" (.cons (.idx (.var 0) (.lit (.int 2))) (.cons (.idx (.var 5) (.lit (.int 1))) (.cons (.idx (.var 4) (.lit (.int 1))) .nil)))))
    (.cons (.ret (.lit (.bl false)))
    .nil)
    .nil)
    (.cons (.iff (.bor (.cons (.cmp .eq (.idx (.idx (.var 0) (.lit (.int 2))) (.lit (.int 0))) (.lit (.str [102, 97, 105, 108]))) (.cons (.cmp .is_ (.idx (.var 0) (.lit (.int 3))) (.lit .non)) .nil)))
    (.cons (.ret (.band (.cons (.cmp .eq (.idx (.idx (.var 0) (.lit (.int 2))) (.lit (.int 0))) (.lit (.str [102, 97, 105, 108]))) (.cons (.cmp .is_ (.idx (.var 0) (.lit (.int 3))) (.lit .non)) .nil))))
    .nil)
    .nil)
    (.cons (.ret (.call "_law_tree_fits" (.cons (.idx (.var 0) (.lit (.int 3))) (.cons (.idx (.var 4) (.lit (.int 2))) (.cons (.idx (.var 5) (.lit (.int 2))) .nil)))))
    .nil))))))))))))
def f__law_tree_fits : FD := ⟨"_law_tree_fits", 3, 6, [], b__law_tree_fits, false⟩
def b__law_tree_high : Ss := (.cons (.set (.name 1) (.bif "int" (.cons (.band (.cons (.cmp .eq (.idx (.var 0) (.lit (.int 0))) (.lit (.str [102, 97, 105, 108]))) (.cons (.cmp .isn (.idx (.var 0) (.lit (.int 1))) (.lit .non)) (.cons (.cmp .in_ (.idx (.idx (.var 0) (.lit (.int 1))) (.lit (.int 0))) (.tup (.cons (.lit (.str [102, 117, 110])) (.cons (.lit (.str [112, 97, 105, 114])) .nil)))) .nil)))) .nil)))
    (.cons (.for_ (.name 2) (.over (.call "_law_parts" (.cons (.var 0) .nil)))
    (.cons (.set (.name 3) (.bin .add (.lit (.int 1)) (.call "_law_tree_high" (.cons (.var 2) .nil))))
    (.cons (.iff (.cmp .gt (.var 3) (.var 1))
    (.cons (.set (.name 1) (.var 3))
    .nil)
    .nil)
    .nil)))
    (.cons (.ret (.var 1))
    .nil)))
def f__law_tree_high : FD := ⟨"_law_tree_high", 1, 4, [], b__law_tree_high, false⟩
def b__law_upper : Ss := (.cons (.iff (.call "_law_shaped" (.cons (.var 0) (.cons (.var 1) .nil)))
    (.cons (.ret (.tup (.cons (.idx (.var 0) (.lit (.int 0))) (.cons (.call "_law_upper" (.cons (.idx (.var 0) (.lit (.int 1))) (.cons (.idx (.var 1) (.lit (.int 1))) .nil))) (.cons (.call "_law_upper" (.cons (.idx (.var 0) (.lit (.int 2))) (.cons (.idx (.var 1) (.lit (.int 2))) .nil))) .nil)))))
    .nil)
    .nil)
    (.cons (.iff (.cmp .eq (.var 0) (.var 1))
    (.cons (.ret (.var 0))
    .nil)
    .nil)
    (.cons (.ret (.lit (.str [63])))
    .nil)))
def f__law_upper : FD := ⟨"_law_upper", 2, 2, [], b__law_upper, false⟩
def b_agree : Ss := (.cons (.iff (.bor (.cons (.cmp .eq (.var 0) (.lit (.str [63]))) (.cons (.cmp .eq (.var 1) (.lit (.str [63]))) .nil)))
    (.cons (.ret (.lit (.bl true)))
    .nil)
    .nil)
    (.cons (.iff (.call "same_shape" (.cons (.var 0) (.cons (.var 1) .nil)))
    (.cons (.ret (.band (.cons (.call "agree" (.cons (.idx (.var 0) (.lit (.int 1))) (.cons (.idx (.var 1) (.lit (.int 1))) .nil))) (.cons (.call "agree" (.cons (.idx (.var 0) (.lit (.int 2))) (.cons (.idx (.var 1) (.lit (.int 2))) .nil))) .nil))))
    .nil)
    .nil)
    (.cons (.ret (.cmp .eq (.var 0) (.var 1)))
    .nil)))
def f_agree : FD := ⟨"agree", 2, 2, [], b_agree, false⟩
def b_as_precise : Ss := (.cons (.iff (.cmp .eq (.var 1) (.lit (.str [63])))
    (.cons (.ret (.lit (.bl true)))
    .nil)
    .nil)
    (.cons (.iff (.call "same_shape" (.cons (.var 0) (.cons (.var 1) .nil)))
    (.cons (.ret (.band (.cons (.call "as_precise" (.cons (.idx (.var 0) (.lit (.int 1))) (.cons (.idx (.var 1) (.lit (.int 1))) .nil))) (.cons (.call "as_precise" (.cons (.idx (.var 0) (.lit (.int 2))) (.cons (.idx (.var 1) (.lit (.int 2))) .nil))) .nil))))
    .nil)
    .nil)
    (.cons (.ret (.cmp .eq (.var 0) (.var 1)))
    .nil)))
def f_as_precise : FD := ⟨"as_precise", 2, 2, [], b_as_precise, false⟩
def b_below_in_parts : Ss := (.cons (.iff (.cmp .eq (.idx (.var 0) (.lit (.int 0))) (.lit (.str [102, 117, 110])))
    (.cons (.ret (.band (.cons (.call "is_below" (.cons (.idx (.var 1) (.lit (.int 1))) (.cons (.idx (.var 0) (.lit (.int 1))) .nil))) (.cons (.call "is_below" (.cons (.idx (.var 0) (.lit (.int 2))) (.cons (.idx (.var 1) (.lit (.int 2))) .nil))) .nil))))
    .nil)
    .nil)
    (.cons (.ret (.band (.cons (.call "is_below" (.cons (.idx (.var 0) (.lit (.int 1))) (.cons (.idx (.var 1) (.lit (.int 1))) .nil))) (.cons (.call "is_below" (.cons (.idx (.var 0) (.lit (.int 2))) (.cons (.idx (.var 1) (.lit (.int 2))) .nil))) .nil))))
    .nil))
def f_below_in_parts : FD := ⟨"below_in_parts", 2, 2, [], b_below_in_parts, false⟩
def b_blamed_by : Ss := (.cons (.iff (.band (.cons (.cmp .isn (.idx (.var 0) (.lit (.int 1))) (.lit .non)) (.cons (.cmp .ne (.idx (.idx (.var 0) (.lit (.int 1))) (.lit (.int 0))) (.var 1)) .nil)))
    (.cons (.ret (.idx (.idx (.var 0) (.lit (.int 1))) (.lit (.int 1))))
    .nil)
    .nil)
    (.cons (.ret (.idx (.var 0) (.lit (.int 2))))
    .nil))
def f_blamed_by : FD := ⟨"blamed_by", 2, 2, [], b_blamed_by, false⟩
def b_cast_tree : Ss := (.cons (.iff (.band (.cons (.cmp .eq (.var 0) (.lit (.str [63]))) (.cons (.cmp .eq (.var 2) (.lit (.str [63]))) .nil)))
    (.cons (.ret (.tup (.cons (.lit (.str [97, 110, 121])) .nil)))
    .nil)
    .nil)
    (.cons (.set (.name 3) (.lit .non))
    (.cons (.set (.name 4) (.var 0))
    (.cons (.iff (.cmp .eq (.var 0) (.lit (.str [63])))
    (.cons (.set (.name 3) (.var 1))
    (.cons (.set (.name 4) (.var 2))
    .nil))
    .nil)
    (.cons (.iff (.not_ (.isi (.var 4) false ["tuple"]))
    (.cons (.ret (.tup (.cons (.lit (.str [98, 97, 115, 101])) (.cons (.var 4) (.cons (.var 3) .nil)))))
    .nil)
    .nil)
    (.cons (.set (.name 5) (.idx (.var 4) (.lit (.int 0))))
    (.cons (.set (.name 6) (.call "opened" (.cons (.var 0) (.cons (.var 5) .nil))))
    (.cons (.set (.name 7) (.call "opened" (.cons (.var 2) (.cons (.var 5) .nil))))
    (.cons (.set (.name 8) (.call "cast_tree" (.cons (.idx (.var 6) (.lit (.int 2))) (.cons (.var 1) (.cons (.idx (.var 7) (.lit (.int 2))) .nil)))))
    (.cons (.iff (.cmp .eq (.var 5) (.lit (.str [102, 117, 110])))
    (.cons (.ret (.tup (.cons (.lit (.str [102, 117, 110])) (.cons (.var 3) (.cons (.call "cast_tree" (.cons (.idx (.var 7) (.lit (.int 1))) (.cons (.call "opposite" (.cons (.var 1) .nil)) (.cons (.idx (.var 6) (.lit (.int 1))) .nil)))) (.cons (.var 8) .nil))))))
    .nil)
    .nil)
    (.cons (.ret (.tup (.cons (.lit (.str [112, 97, 105, 114])) (.cons (.var 3) (.cons (.call "cast_tree" (.cons (.idx (.var 6) (.lit (.int 1))) (.cons (.var 1) (.cons (.idx (.var 7) (.lit (.int 1))) .nil)))) (.cons (.var 8) .nil))))))
    .nil)))))))))))
def f_cast_tree : FD := ⟨"cast_tree", 3, 9, [], b_cast_tree, false⟩
def b_check_of : Ss := (.cons (.iff (.cmp .eq (.idx (.var 0) (.lit (.int 0))) (.lit (.str [98, 97, 115, 101])))
    (.cons (.ret (.idx (.var 0) (.lit (.int 2))))
    .nil)
    .nil)
    (.cons (.ret (.idx (.var 0) (.lit (.int 1))))
    .nil))
def f_check_of : FD := ⟨"check_of", 1, 1, [], b_check_of, false⟩
def b_consists_of : Ss := (.cons (.for_ (.name 2) (.over (.var 0))
    (.cons (.iff (.cmp .nin (.var 2) (.var 1))
    (.cons (.ret (.lit (.bl false)))
    .nil)
    .nil)
    .nil))
    (.cons (.ret (.lit (.bl true)))
    .nil))
def f_consists_of : FD := ⟨"consists_of", 2, 3, [], b_consists_of, false⟩
def b_failure : Ss := (.cons (.iff (.bor (.cons (.cmp .is_ (.var 1) (.lit .non)) (.cons (.cmp .eq (.var 1) (.var 2)) .nil)))
    (.cons (.ret (.tup (.cons (.lit (.str [102, 97, 105, 108])) (.cons (.lit .non) (.cons (.var 2) .nil)))))
    .nil)
    .nil)
    (.cons (.ret (.tup (.cons (.lit (.str [102, 97, 105, 108])) (.cons (.tup (.cons (.var 0) (.cons (.var 1) .nil))) (.cons (.var 2) .nil)))))
    .nil))
def f_failure : FD := ⟨"failure", 3, 3, [], b_failure, false⟩
def b_fits_tree : Ss := (.cons (.set (.name 3) (.idx (.var 0) (.lit (.int 0))))
    (.cons (.iff (.cmp .eq (.var 3) (.lit (.str [97, 110, 121])))
    (.cons (.ret (.band (.cons (.cmp .eq (.var 1) (.lit (.str [63]))) (.cons (.cmp .eq (.var 2) (.lit (.str [63]))) .nil))))
    .nil)
    .nil)
    (.cons (.iff (.cmp .eq (.var 3) (.lit (.str [102, 97, 105, 108])))
    (.cons (.ret (.bor (.cons (.cmp .is_ (.idx (.var 0) (.lit (.int 1))) (.lit .non)) (.cons (.band (.cons (.cmp .eq (.var 1) (.lit (.str [63]))) (.cons (.cmp .ne (.idx (.idx (.var 0) (.lit (.int 1))) (.lit (.int 1))) (.idx (.var 0) (.lit (.int 2)))) .nil))) .nil))))
    .nil)
    .nil)
    (.cons (.iff (.cmp .eq (.cmp .is_ (.call "check_of" (.cons (.var 0) .nil)) (.lit .non)) (.cmp .eq (.var 1) (.lit (.str [63]))))
    (.cons (.ret (.lit (.bl false)))
    .nil)
    .nil)
    (.cons (.set (.name 4) (.call "ground_of" (.cons (.var 0) .nil)))
    (.cons (.iff (.bor (.cons (.not_ (.call "has_ground" (.cons (.var 1) (.cons (.var 4) .nil)))) (.cons (.not_ (.call "has_ground" (.cons (.var 2) (.cons (.var 4) .nil)))) .nil)))
    (.cons (.ret (.lit (.bl false)))
    .nil)
    .nil)
    (.cons (.iff (.cmp .eq (.var 3) (.lit (.str [98, 97, 115, 101])))
    (.cons (.ret (.lit (.bl true)))
    .nil)
    .nil)
    (.cons (.set (.name 5) (.call "opened" (.cons (.var 1) (.cons (.var 4) .nil))))
    (.cons (.set (.name 6) (.call "opened" (.cons (.var 2) (.cons (.var 4) .nil))))
    (.cons (.iff (.cmp .eq (.var 3) (.lit (.str [112, 97, 105, 114])))
    (.cons (.ret (.band (.cons (.call "fits_tree" (.cons (.idx (.var 0) (.lit (.int 2))) (.cons (.idx (.var 5) (.lit (.int 1))) (.cons (.idx (.var 6) (.lit (.int 1))) .nil)))) (.cons (.call "fits_tree" (.cons (.idx (.var 0) (.lit (.int 3))) (.cons (.idx (.var 5) (.lit (.int 2))) (.cons (.idx (.var 6) (.lit (.int 2))) .nil)))) .nil))))
    .nil)
    .nil)
    (.cons (.iff (.not_ (.call "fits_tree" (.cons (.idx (.var 0) (.lit (.int 2))) (.cons (.idx (.var 6) (.lit (.int 1))) (.cons (.idx (.var 5) (.lit (.int 1))) .nil)))))
    (.cons (.ret (.lit (.bl false)))
    .nil)
    .nil)
    (.cons (.iff (.bor (.cons (.cmp .eq (.idx (.idx (.var 0) (.lit (.int 2))) (.lit (.int 0))) (.lit (.str [102, 97, 105, 108]))) (.cons (.cmp .is_ (.idx (.var 0) (.lit (.int 3))) (.lit .non)) .nil)))
    (.cons (.ret (.band (.cons (.cmp .eq (.idx (.idx (.var 0) (.lit (.int 2))) (.lit (.int 0))) (.lit (.str [102, 97, 105, 108]))) (.cons (.cmp .is_ (.idx (.var 0) (.lit (.int 3))) (.lit .non)) .nil))))
    .nil)
    .nil)
    (.cons (.ret (.call "fits_tree" (.cons (.idx (.var 0) (.lit (.int 3))) (.cons (.idx (.var 5) (.lit (.int 2))) (.cons (.idx (.var 6) (.lit (.int 2))) .nil)))))
    .nil)))))))))))))
def f_fits_tree : FD := ⟨"fits_tree", 3, 7, [], b_fits_tree, false⟩
def b_ground_of : Ss := (.cons (.iff (.cmp .eq (.idx (.var 0) (.lit (.int 0))) (.lit (.str [98, 97, 115, 101])))
    (.cons (.ret (.idx (.var 0) (.lit (.int 1))))
    .nil)
    .nil)
    (.cons (.ret (.idx (.var 0) (.lit (.int 0))))
    .nil))
def f_ground_of : FD := ⟨"ground_of", 1, 1, [], b_ground_of, false⟩
def b_has_ground : Ss := (.cons (.iff (.isi (.var 0) false ["tuple"])
    (.cons (.ret (.cmp .eq (.idx (.var 0) (.lit (.int 0))) (.var 1)))
    .nil)
    .nil)
    (.cons (.ret (.bor (.cons (.cmp .eq (.var 0) (.lit (.str [63]))) (.cons (.cmp .eq (.var 0) (.var 1)) .nil))))
    .nil))
def f_has_ground : FD := ⟨"has_ground", 2, 2, [], b_has_ground, false⟩
def b_identity_tree : Ss := (.cons (.ret (.call "cast_tree" (.cons (.var 0) (.cons (.lit (.str [120])) (.cons (.var 0) .nil)))))
    .nil)
def f_identity_tree : FD := ⟨"identity_tree", 1, 1, [], b_identity_tree, false⟩
def b_is_below : Ss := (.cons (.iff (.cmp .eq (.var 0) (.var 1))
    (.cons (.ret (.lit (.bl true)))
    .nil)
    .nil)
    (.cons (.iff (.cmp .eq (.var 0) (.lit (.str [63])))
    (.cons (.ret (.lit (.bl false)))
    .nil)
    .nil)
    (.cons (.iff (.cmp .eq (.var 1) (.lit (.str [63])))
    (.cons (.iff (.not_ (.isi (.var 0) false ["tuple"]))
    (.cons (.ret (.lit (.bl true)))
    .nil)
    .nil)
    (.cons (.set (.name 1) (.call "opened" (.cons (.var 1) (.cons (.idx (.var 0) (.lit (.int 0))) .nil))))
    .nil))
    .nil)
    (.cons (.ret (.band (.cons (.call "same_shape" (.cons (.var 0) (.cons (.var 1) .nil))) (.cons (.call "below_in_parts" (.cons (.var 0) (.cons (.var 1) .nil))) .nil))))
    .nil))))
def f_is_below : FD := ⟨"is_below", 2, 2, [], b_is_below, false⟩
def b_is_label_name : Ss := (.cons (.iff (.bor (.cons (.not_ (.chain .le .le (.lit (.int 1)) (.bif "len" (.cons (.var 0) .nil)) (.glo "LONGEST_NAME"))) (.cons (.cmp .nin (.idx (.var 0) (.lit (.int 0))) (.glo "LETTERS")) .nil)))
    (.cons (.ret (.lit (.bl false)))
    .nil)
    .nil)
    (.cons (.ret (.call "consists_of" (.cons (.var 0) (.cons (.bin .add (.glo "LETTERS") (.glo "DIGITS")) .nil))))
    .nil))
def f_is_label_name : FD := ⟨"is_label_name", 1, 1, [], b_is_label_name, false⟩
def b_join : Ss := (.cons (.iff (.call "same_shape" (.cons (.var 0) (.cons (.var 1) .nil)))
    (.cons (.ret (.tup (.cons (.idx (.var 0) (.lit (.int 0))) (.cons (.call "join" (.cons (.idx (.var 0) (.lit (.int 1))) (.cons (.idx (.var 1) (.lit (.int 1))) .nil))) (.cons (.call "join" (.cons (.idx (.var 0) (.lit (.int 2))) (.cons (.idx (.var 1) (.lit (.int 2))) .nil))) .nil)))))
    .nil)
    .nil)
    (.cons (.iff (.cmp .eq (.var 0) (.var 1))
    (.cons (.ret (.var 0))
    .nil)
    .nil)
    (.cons (.ret (.lit (.str [63])))
    .nil)))
def f_join : FD := ⟨"join", 2, 2, [], b_join, false⟩
def b_join_trees : Ss := (.cons (.iff (.cmp .eq (.idx (.var 0) (.lit (.int 0))) (.lit (.str [97, 110, 121])))
    (.cons (.ret (.var 1))
    .nil)
    .nil)
    (.cons (.iff (.bor (.cons (.cmp .eq (.idx (.var 1) (.lit (.int 0))) (.lit (.str [97, 110, 121]))) (.cons (.cmp .eq (.idx (.var 0) (.lit (.int 0))) (.lit (.str [102, 97, 105, 108]))) .nil)))
    (.cons (.ret (.var 0))
    .nil)
    .nil)
    (.cons (.set (.name 2) (.call "ground_of" (.cons (.var 0) .nil)))
    (.cons (.set (.name 3) (.call "check_of" (.cons (.var 0) .nil)))
    (.cons (.iff (.cmp .eq (.idx (.var 1) (.lit (.int 0))) (.lit (.str [102, 97, 105, 108])))
    (.cons (.ret (.call "failure" (.cons (.var 2) (.cons (.var 3) (.cons (.call "blamed_by" (.cons (.var 1) (.cons (.var 2) .nil))) .nil)))))
    .nil)
    .nil)
    (.cons (.iff (.cmp .ne (.call "ground_of" (.cons (.var 1) .nil)) (.var 2))
    (.cons (.ret (.call "failure" (.cons (.var 2) (.cons (.var 3) (.cons (.call "check_of" (.cons (.var 1) .nil)) .nil)))))
    .nil)
    .nil)
    (.cons (.iff (.cmp .eq (.idx (.var 0) (.lit (.int 0))) (.lit (.str [98, 97, 115, 101])))
    (.cons (.ret (.var 0))
    .nil)
    .nil)
    (.cons (.iff (.cmp .eq (.idx (.var 0) (.lit (.int 0))) (.lit (.str [112, 97, 105, 114])))
    (.cons (.ret (.tup (.cons (.lit (.str [112, 97, 105, 114])) (.cons (.var 3) (.cons (.call "join_trees" (.cons (.idx (.var 0) (.lit (.int 2))) (.cons (.idx (.var 1) (.lit (.int 2))) .nil))) (.cons (.call "join_trees" (.cons (.idx (.var 0) (.lit (.int 3))) (.cons (.idx (.var 1) (.lit (.int 3))) .nil))) .nil))))))
    .nil)
    .nil)
    (.cons (.set (.name 4) (.call "join_trees" (.cons (.idx (.var 1) (.lit (.int 2))) (.cons (.idx (.var 0) (.lit (.int 2))) .nil))))
    (.cons (.iff (.cmp .eq (.idx (.var 4) (.lit (.int 0))) (.lit (.str [102, 97, 105, 108])))
    (.cons (.ret (.tup (.cons (.lit (.str [102, 117, 110])) (.cons (.var 3) (.cons (.var 4) (.cons (.lit .non) .nil))))))
    .nil)
    .nil)
    (.cons (.ret (.tup (.cons (.lit (.str [102, 117, 110])) (.cons (.var 3) (.cons (.var 4) (.cons (.call "join_trees" (.cons (.idx (.var 0) (.lit (.int 3))) (.cons (.idx (.var 1) (.lit (.int 3))) .nil))) .nil))))))
    .nil)))))))))))
def f_join_trees : FD := ⟨"join_trees", 2, 5, [], b_join_trees, false⟩
def b_kind_height : Ss := (.cons (.set (.name 1) (.lit (.int 0)))
    (.cons (.set (.name 2) (.lst (.cons (.tup (.cons (.var 0) (.cons (.lit (.int 0)) .nil))) .nil)))
    (.cons (.whl (.var 2)
    (.cons (.set (.tup [3, 4]) (.meth (.var 2) "pop" .nil))
    (.cons (.iff (.isi (.var 3) false ["tuple"])
    (.cons (.expr (.meth (.var 2) "append" (.cons (.tup (.cons (.idx (.var 3) (.lit (.int 1))) (.cons (.bin .add (.var 4) (.lit (.int 1))) .nil))) .nil)))
    (.cons (.expr (.meth (.var 2) "append" (.cons (.tup (.cons (.idx (.var 3) (.lit (.int 2))) (.cons (.bin .add (.var 4) (.lit (.int 1))) .nil))) .nil)))
    .nil))
    (.cons (.iff (.cmp .gt (.var 4) (.var 1))
    (.cons (.set (.name 1) (.var 4))
    .nil)
    .nil)
    .nil))
    .nil)))
    (.cons (.ret (.var 1))
    .nil))))
def f_kind_height : FD := ⟨"kind_height", 1, 5, [], b_kind_height, false⟩
def b_meet : Ss := (.cons (.iff (.cmp .eq (.var 0) (.lit (.str [63])))
    (.cons (.ret (.var 1))
    .nil)
    .nil)
    (.cons (.iff (.bor (.cons (.cmp .eq (.var 1) (.lit (.str [63]))) (.cons (.cmp .eq (.var 0) (.var 1)) .nil)))
    (.cons (.ret (.var 0))
    .nil)
    .nil)
    (.cons (.iff (.not_ (.call "same_shape" (.cons (.var 0) (.cons (.var 1) .nil))))
    (.cons (.ret (.lit .non))
    .nil)
    .nil)
    (.cons (.set (.name 2) (.call "meet" (.cons (.idx (.var 0) (.lit (.int 1))) (.cons (.idx (.var 1) (.lit (.int 1))) .nil))))
    (.cons (.set (.name 3) (.call "meet" (.cons (.idx (.var 0) (.lit (.int 2))) (.cons (.idx (.var 1) (.lit (.int 2))) .nil))))
    (.cons (.iff (.bor (.cons (.cmp .is_ (.var 2) (.lit .non)) (.cons (.cmp .is_ (.var 3) (.lit .non)) .nil)))
    (.cons (.ret (.lit .non))
    .nil)
    .nil)
    (.cons (.ret (.tup (.cons (.idx (.var 0) (.lit (.int 0))) (.cons (.var 2) (.cons (.var 3) .nil)))))
    .nil)))))))
def f_meet : FD := ⟨"meet", 2, 4, [], b_meet, false⟩
def b_negatively_below_orders : Ss := (.cons (.iff (.cmp .eq (.var 0) (.lit (.str [63])))
    (.cons (.ret (.lit (.bl true)))
    .nil)
    .nil)
    (.cons (.iff (.cmp .eq (.var 1) (.lit (.str [63])))
    (.cons (.iff (.not_ (.isi (.var 0) false ["tuple"]))
    (.cons (.ret (.lit (.bl true)))
    .nil)
    .nil)
    (.cons (.set (.name 1) (.call "opened" (.cons (.var 1) (.cons (.idx (.var 0) (.lit (.int 0))) .nil))))
    .nil))
    .nil)
    (.cons (.iff (.not_ (.call "same_shape" (.cons (.var 0) (.cons (.var 1) .nil))))
    (.cons (.ret (.cmp .eq (.var 0) (.var 1)))
    .nil)
    .nil)
    (.cons (.iff (.cmp .eq (.idx (.var 0) (.lit (.int 0))) (.lit (.str [102, 117, 110])))
    (.cons (.ret (.band (.cons (.call "positively_below_orders" (.cons (.idx (.var 1) (.lit (.int 1))) (.cons (.idx (.var 0) (.lit (.int 1))) .nil))) (.cons (.call "negatively_below_orders" (.cons (.idx (.var 0) (.lit (.int 2))) (.cons (.idx (.var 1) (.lit (.int 2))) .nil))) .nil))))
    .nil)
    .nil)
    (.cons (.ret (.band (.cons (.call "negatively_below_orders" (.cons (.idx (.var 0) (.lit (.int 1))) (.cons (.idx (.var 1) (.lit (.int 1))) .nil))) (.cons (.call "negatively_below_orders" (.cons (.idx (.var 0) (.lit (.int 2))) (.cons (.idx (.var 1) (.lit (.int 2))) .nil))) .nil))))
    .nil)))))
def f_negatively_below_orders : FD := ⟨"negatively_below_orders", 2, 2, [], b_negatively_below_orders, false⟩
def b_opened : Ss := (.cons (.iff (.cmp .eq (.var 0) (.lit (.str [63])))
    (.cons (.ret (.tup (.cons (.var 1) (.cons (.lit (.str [63])) (.cons (.lit (.str [63])) .nil)))))
    .nil)
    .nil)
    (.cons (.ret (.var 0))
    .nil))
def f_opened : FD := ⟨"opened", 2, 2, [], b_opened, false⟩
def b_opposite : Ss := (.cons (.iff (.meth (.var 0) "startswith" (.cons (.lit (.str [126])) .nil))
    (.cons (.ret (.slc (.var 0) (.cons (.lit (.int 1)) .nil) .nil))
    .nil)
    .nil)
    (.cons (.ret (.bin .add (.lit (.str [126])) (.var 0)))
    .nil))
def f_opposite : FD := ⟨"opposite", 1, 1, [], b_opposite, false⟩
def b_parts_of : Ss := (.cons (.iff (.band (.cons (.cmp .ne (.idx (.var 0) (.lit (.int 0))) (.lit (.str [102, 117, 110]))) (.cons (.cmp .ne (.idx (.var 0) (.lit (.int 0))) (.lit (.str [112, 97, 105, 114]))) .nil)))
    (.cons (.ret (.lst .nil))
    .nil)
    .nil)
    (.cons (.ret (.comp (.name 1) (.var 1) (.over (.tup (.cons (.idx (.var 0) (.lit (.int 2))) (.cons (.idx (.var 0) (.lit (.int 3))) .nil)))) (.cons (.cmp .isn (.var 1) (.lit .non)) .nil)))
    .nil))
def f_parts_of : FD := ⟨"parts_of", 1, 2, [], b_parts_of, false⟩
def b_positively_below_orders : Ss := (.cons (.iff (.cmp .eq (.var 1) (.lit (.str [63])))
    (.cons (.ret (.lit (.bl true)))
    .nil)
    .nil)
    (.cons (.iff (.not_ (.call "same_shape" (.cons (.var 0) (.cons (.var 1) .nil))))
    (.cons (.ret (.cmp .eq (.var 0) (.var 1)))
    .nil)
    .nil)
    (.cons (.iff (.cmp .eq (.idx (.var 0) (.lit (.int 0))) (.lit (.str [102, 117, 110])))
    (.cons (.ret (.band (.cons (.call "negatively_below_orders" (.cons (.idx (.var 1) (.lit (.int 1))) (.cons (.idx (.var 0) (.lit (.int 1))) .nil))) (.cons (.call "positively_below_orders" (.cons (.idx (.var 0) (.lit (.int 2))) (.cons (.idx (.var 1) (.lit (.int 2))) .nil))) .nil))))
    .nil)
    .nil)
    (.cons (.ret (.band (.cons (.call "positively_below_orders" (.cons (.idx (.var 0) (.lit (.int 1))) (.cons (.idx (.var 1) (.lit (.int 1))) .nil))) (.cons (.call "positively_below_orders" (.cons (.idx (.var 0) (.lit (.int 2))) (.cons (.idx (.var 1) (.lit (.int 2))) .nil))) .nil))))
    .nil))))
def f_positively_below_orders : FD := ⟨"positively_below_orders", 2, 2, [], b_positively_below_orders, false⟩
def b_same_shape : Ss := (.cons (.ret (.band (.cons (.isi (.var 0) false ["tuple"]) (.cons (.isi (.var 1) false ["tuple"]) (.cons (.cmp .eq (.idx (.var 0) (.lit (.int 0))) (.idx (.var 1) (.lit (.int 0)))) .nil)))))
    .nil)
def f_same_shape : FD := ⟨"same_shape", 2, 2, [], b_same_shape, false⟩
def b_tree_height : Ss := (.cons (.set (.name 1) (.lit (.int 0)))
    (.cons (.iff (.band (.cons (.cmp .eq (.idx (.var 0) (.lit (.int 0))) (.lit (.str [102, 97, 105, 108]))) (.cons (.cmp .isn (.idx (.var 0) (.lit (.int 1))) (.lit .non)) (.cons (.cmp .in_ (.idx (.idx (.var 0) (.lit (.int 1))) (.lit (.int 0))) (.tup (.cons (.lit (.str [102, 117, 110])) (.cons (.lit (.str [112, 97, 105, 114])) .nil)))) .nil))))
    (.cons (.set (.name 1) (.lit (.int 1)))
    .nil)
    .nil)
    (.cons (.for_ (.name 2) (.over (.call "parts_of" (.cons (.var 0) .nil)))
    (.cons (.set (.name 3) (.bin .add (.lit (.int 1)) (.call "tree_height" (.cons (.var 2) .nil))))
    (.cons (.iff (.cmp .gt (.var 3) (.var 1))
    (.cons (.set (.name 1) (.var 3))
    .nil)
    .nil)
    .nil)))
    (.cons (.ret (.var 1))
    .nil))))
def f_tree_height : FD := ⟨"tree_height", 1, 4, [], b_tree_height, false⟩
end Py.C
end

section
set_option linter.all false
set_option autoImplicit false
/-! Plain Lean: a law's tables. -/
namespace Pn
open Py
structure CT where
  name : String
  init : Option String
  meths : List (String × String)
  props : List (String × String)
  cons : List (String × D)
  flds : List String
  clms : List (String × String)
  cvals : List (String × D)
structure PT where
  fds : List FD
  fnks : List String
  glos : List (String × D)
  clss : List CT
  exns : List String
  subs : List ((String × String) × Bool)
  exms : List ((String × String) × Bool)
  clsns : List String
  wf : Nat
  nfsts : List (String × String)
  dnes : List String
  bls : List ((String × String) × BO)
  brs : List ((String × String) × BO)
  nsqs : List String
def PT.cls (T : PT) (c : String) : Option CT := T.clss.find? fun ct => ct.name == c
def PT.g (T : PT) : Gs where
  glo := fun x => T.glos.lookup x
  meth := fun c m => (T.cls c).bind fun ct => ct.meths.lookup m
  prop := fun c m => (T.cls c).bind fun ct => ct.props.lookup m
  con := fun c m => (T.cls c).bind fun ct => ct.cons.lookup m
  fld := fun c f => (T.cls c).any fun ct => ct.flds.contains f
  init := fun c => (T.cls c).bind fun ct => ct.init
  clm := fun c m => (T.cls c).bind fun ct => ct.clms.lookup m
  cval := fun c m => (T.cls c).bind fun ct => ct.cvals.lookup m
  par := fun k => match findF T.fds k with
    | some d => (d.np, d.dfl)
    | none => (0, [])
  sub := fun t c => T.subs.lookup (t, c)
  exn := fun c => T.exns.contains c
  exm := fun t c => T.exms.lookup (t, c)
  insc := fun c => (T.cls c).isSome
  nfst := fun c t => T.nfsts.contains (c, t)
  dne := fun c => T.dnes.contains c
  clsn := fun c => T.clsns.contains c
  fnk := fun x => T.fnks.contains x
  wf := T.wf
  va := fun k => match findF T.fds k with
    | some d => d.va
    | none => false
  bl := fun c t o => T.bls.contains ((c, t), o)
  br := fun c t o => T.brs.contains ((c, t), o)
  nsq := fun c => T.nsqs.contains c
end Pn
end

section
set_option Elab.async false
set_option linter.all false
set_option maxRecDepth 100000
set_option maxHeartbeats 4000000
set_option autoImplicit false
/-! The Py layer, part 1b: what the text says, as tables; looked up in the heap (what the head's run needs). -/
namespace Py
open PySem L2 Pn
def stS (s : S) : PySem.Str := ⟨s.toArray⟩
def nm (x : String) : PySem.Str := PySem.Str.ofString x
def bifs : List String := ["len", "int", "bool", "abs", "list", "tuple", "str"]
/-- where a def stands -/
inductive Wh where
  | glob (x : String)
  | meth (c m : String)
  | cmeth (c m : String)
  | prop (c m : String)
def cA (K : PySem.W.Frag) (c : String) : Addr := He.ga K (nm c)
def Wh.at_ (K : PySem.W.Frag) : Wh → Addr
  | .glob x => cA K x
  | .meth c m => He.ma K (cA K c) (nm m)
  | .cmeth c m => He5.wf K (cA K c) "classmethod" (nm m)
  | .prop c m => He5.wf K (cA K c) "property" (nm m)
structure Df where
  fd : FD
  wh : Wh
  name : PySem.Str
  qual : PySem.Str
  params : Arguments
  body : List Stmt
  scope : Scope
  N : List PySem.Str
  ps : List PySem.Str
/-- a default as the heap holds it -/
def dvD : D → He.Dv
  | .bl b => .bl b
  | .int i => .int i
  | .str s => .str (stS s)
  | _ => .non
def Df.toA (d : Df) : He5.DefA := ⟨fun K => d.wh.at_ K, d.name, d.qual, d.params, d.body, d.scope, d.fd.dfl.map dvD, []⟩
structure Tab where
  defs : List Df
  fnks : List String
  glos : List (String × D)
  clss : List CT
  exns : List String
  subs : List ((String × String) × Bool)
  exms : List ((String × String) × Bool)
  clsns : List String
  /-- the names to begin with; the names that count in a class -/
  roots : List String
  mems : List String
  wf : Nat
  nfsts : List (String × String)
  dnes : List String
  bls : List ((String × String) × BO)
  brs : List ((String × String) × BO)
  nsqs : List String
def Tab.cls (T : Tab) (c : String) : Option CT := T.clss.find? fun ct => ct.name == c
def Tab.find (T : Tab) (k : String) : Option Df := T.defs.find? fun d => d.fd.key == k
def Tab.g (T : Tab) : Gs where
  glo := fun x => T.glos.lookup x
  meth := fun c m => (T.cls c).bind fun ct => ct.meths.lookup m
  prop := fun c m => (T.cls c).bind fun ct => ct.props.lookup m
  con := fun c m => (T.cls c).bind fun ct => ct.cons.lookup m
  fld := fun c f => (T.cls c).any fun ct => ct.flds.contains f
  init := fun c => (T.cls c).bind fun ct => ct.init
  clm := fun c m => (T.cls c).bind fun ct => ct.clms.lookup m
  cval := fun c m => (T.cls c).bind fun ct => ct.cvals.lookup m
  par := fun k => match T.find k with
    | some d => (d.fd.np, d.fd.dfl)
    | none => (0, [])
  sub := fun t c => T.subs.lookup (t, c)
  exn := fun c => T.exns.contains c
  exm := fun t c => T.exms.lookup (t, c)
  insc := fun c => (T.cls c).isSome
  nfst := fun c t => T.nfsts.contains (c, t)
  dne := fun c => T.dnes.contains c
  clsn := fun c => T.clsns.contains c
  fnk := fun x => T.fnks.contains x
  wf := T.wf
  va := fun k => match T.find k with
    | some d => d.fd.va
    | none => false
  bl := fun c t o => T.bls.contains ((c, t), o)
  br := fun c t o => T.brs.contains ((c, t), o)
  nsq := fun c => T.nsqs.contains c
def Tab.fs (T : Tab) : List FD := T.defs.map (·.fd)
/-- the plain part -/
def Tab.pt (T : Tab) : PT := ⟨T.defs.map (·.fd), T.fnks, T.glos, T.clss, T.exns, T.subs, T.exms, T.clsns, T.wf, T.nfsts, T.dnes, T.bls, T.brs, T.nsqs⟩
/-! ### of the heap -/
/-- a class that knows neither an operator nor its turned one -/
def noOp (K : PySem.W.Frag) (t : Value) (f r : PySem.Str) : Bool := match t with
  | .ref C => (match PySem.W.clsIn K C with
    | some cd => cd.mro.all fun c => decide (PySem.W.findIn K c f = some none) && decide (PySem.W.findIn K c r = some none)
    | none => false)
  | _ => false
/-- a look that is known -/
def hasOr (K : PySem.W.Frag) (t : Value) (f : PySem.Str) : Bool := match PySem.W.findIn K t f with
  | some none => true
  | some (some (.ref _)) => true
  | _ => false
section
variable (K : PySem.W.Frag)
def gloB (x : String) : Bool := He.eqO (PySem.W.nsIn K mainGlobals (nm x)) (some (some (.ref (cA K x))))
def freeB (x : String) : Bool := He.eqO (PySem.W.nsIn K mainGlobals (nm x)) (some none)
def ownB (c : String) : Bool := gloB K c && ((He.Fa.cls (nm c)).ok K && (PySem.W.selfFirst K (cA K c) && (He.eqO (PySem.W.findIn K (.ref (cA K c)) "__class__") (some (some (.builtin "object.__class__"))) &&
  (He.eqO (PySem.W.specialIn K (.builtin "object.__class__") "__get__") (some (some (.builtin "getset_descriptor.__get__"))) && (decide (PySem.W.takesIn K (.builtin "object.__class__") = some true) && decide (PySem.W.mroIn K (cA K c) (.type "object") = some true))))))
mutual
def relDB : D → Value → Bool
  | .non, .none => true
  | .bl b, .bool c => b == c
  | .int i, .int j _ => decide (i = j)
  | .str s, .str y _ => decide (y.cps.toList = s)
  | .cls c, .ref a => gloB K c && decide (a = cA K c)
  | .tup ds, .ref a => (match K.lookup a with
    | some ⟨.type "tuple", _, .seq its _, _⟩ => decide (its.size ≤ 16777216) && relDBs ds its.toList
    | _ => false)
  | _, _ => false
def relDBs : List D → List Value → Bool
  | [], [] => true
  | d :: ds, u :: us => relDB d u && relDBs ds us
  | _, _ => false
end
def Tab.at_ (T : Tab) (key : String) : Addr := match T.find key with
  | some d => d.wh.at_ K
  | none => 0
def keyB (T : Tab) (key : String) (a : Addr) : Bool := (T.find key).isSome && decide (a = T.at_ K key)
def initB (T : Tab) (c key : String) : Bool := keyB K T key (He.ma K (cA K c) "__init__") && (He.Fa.mkr (nm c)).ok K
def methB (T : Tab) (c m key : String) : Bool := keyB K T key (He.ma K (cA K c) (nm m)) && (He.Fa.meth (nm c) (nm m)).ok K
def propB (T : Tab) (c m key : String) : Bool := keyB K T key (He5.wf K (cA K c) "property" (nm m)) && (He.eqO (PySem.W.findIn K (.ref (cA K c)) (nm m)) (some (some (.ref (He.ma K (cA K c) (nm m))))) &&
  (He.eqO (PySem.W.specialIn K (.ref (He.ma K (cA K c) (nm m))) "__get__") (some (some (.builtin "property.__get__"))) && (decide (PySem.W.takesIn K (.ref (He.ma K (cA K c) (nm m))) = some true) && (match PySem.W.recIn K (He.ma K (cA K c) (nm m)) "property" with
    | some (.ref _ :: _) => true
    | _ => false))))
def conB (c f : String) (d : D) : Bool := (match PySem.W.findIn K (.ref (cA K c)) (nm f) with
    | some (some u) => relDB K d u && He.eqO (PySem.W.specialIn K u "__get__") (some none)
    | _ => false) && !PySem.W.copiedNames.contains (nm f)
def readB (c : String) : Bool := gloB K c && (PySem.W.readsIn K (cA K c) (.type "type") && He.eqO (PySem.W.specialIn K (.ref (cA K c)) "__getattribute__") (some (some (.builtin "type.__getattribute__"))))
def clmB (T : Tab) (c m key : String) : Bool := readB K c && (keyB K T key (He5.wf K (cA K c) "classmethod" (nm m)) && (He5.wrapB K (cA K c) "classmethod" "classmethod.__get__" (nm m) && PySem.W.fnIn K (He5.wf K (cA K c) "classmethod" (nm m))))
def cvalB (c f : String) (d : D) : Bool := readB K c && (match PySem.W.findCls K (.ref (cA K c)) (.type "type") (nm f) with
    | some (.val u) => relDB K d u
    | _ => false)
def ctB (T : Tab) (ct : CT) : Bool := ownB K ct.name && ((match ct.init with | some k => initB K T ct.name k | none => true) && ((ct.meths.all fun p => methB K T ct.name p.1 p.2) && ((ct.props.all fun p => propB K T ct.name p.1 p.2) &&
  ((ct.cons.all fun p => conB K ct.name p.1 p.2) && ((ct.flds.all fun f => (He.Fa.noat (nm ct.name) (nm f)).ok K) && ((ct.clms.all fun p => clmB K T ct.name p.1 p.2) && (ct.cvals.all fun p => cvalB K ct.name p.1 p.2)))))))
def exnB (c : String) : Bool := gloB K c && ((He.Fa.exc (nm c)).ok K && (He.eqO (PySem.W.findIn K (.ref (cA K c)) "__getattribute__") (some (some (.builtin "BaseException.__getattribute__"))) && (He.eqO (PySem.W.findIn K (.ref (cA K c)) "__getattr__") (some none) &&
  (PySem.W.hasDictIn K (cA K c) && (He.eqO (PySem.W.findIn K (.ref (cA K c)) "__class__") (some (some (.builtin "object.__class__"))) && (He.eqO (PySem.W.specialIn K (.builtin "object.__class__") "__get__") (some (some (.builtin "getset_descriptor.__get__"))) &&
  (decide (PySem.W.takesIn K (.builtin "object.__class__") = some true) && decide (PySem.W.mroIn K (cA K c) (.type "object") = some true))))))))
def tyB (x : String) : Bool := gloB K x || freeB K x
def tyVh (x : String) : Value := if gloB K x = true then .ref (cA K x) else .type x
def subB (t c : String) (b : Bool) : Bool := tyB K t && (tyB K c && decide (PySem.W.kitOne K (tyVh K t) (tyVh K c) = some b))
def nfstB (c t : String) : Bool := ownB K c && (tyB K t && PySem.W.notFirst K (cA K c) (tyVh K t))
def dneB (c : String) : Bool := ownB K c && He.eqO (PySem.W.findIn K (.ref (cA K c)) "__ne__") (some (some (.builtin "object.__ne__")))
def blB (t : String) (o : BO) : Bool := tyB K t && noOp K (tyVh K t) (nm o.dun) (nm o.rdun)
def brB (c t : String) (o : BO) : Bool := blB K t o && (ownB K c && hasOr K (.ref (cA K c)) (nm o.dun))
def nsqB (c : String) : Bool := ownB K c && PySem.W.noSeq K (cA K c)
def exmB (t c : String) (b : Bool) : Bool := gloB K t && (gloB K c && decide (PySem.W.exmOne K (.ref (cA K t)) (.ref (cA K c)) = some b))
def clsnB (x : String) : Bool := gloB K x || (freeB K x && decide (bootBuiltins (nm x) = some (.type x)))
def gloDB (x : String) (d : D) : Bool := match PySem.W.nsIn K mainGlobals (nm x) with
  | some (some u) => relDB K d u
  | _ => false
def Tab.says (T : Tab) : Bool := (T.defs.all fun d => d.toA.ok K) && ((T.fnks.all fun x => gloB K x && keyB K T x (cA K x)) && ((T.glos.all fun p => gloDB K p.1 p.2) && ((T.clss.all fun ct => ctB K T ct) && ((T.exns.all fun c => exnB K c) &&
  ((T.subs.all fun p => subB K p.1.1 p.1.2 p.2) && ((T.exms.all fun p => exmB K p.1.1 p.1.2 p.2) && ((T.clsns.all fun x => clsnB K x) && ((["NoneType", "bool", "int", "str", "tuple", "list"].all fun x => freeB K x) && ((("isinstance" :: "range" :: "enumerate" :: bifs).all fun x => freeB K x) && ((T.nfsts.all fun p => nfstB K p.1 p.2) && ((T.dnes.all fun c => dneB K c) && ((T.bls.all fun p => blB K p.1.2 p.2) && ((T.brs.all fun p => brB K p.1.1 p.1.2 p.2) && (T.nsqs.all fun c => nsqB K c))))))))))))))
def Tab.says2 (T : Tab) : Bool := (T.fnks.all fun x => gloB K x && keyB K T x (cA K x)) && ((T.glos.all fun p => gloDB K p.1 p.2) && ((T.clss.all fun ct => ctB K T ct) && (T.exns.all fun c => exnB K c)))
def Tab.says3 (T : Tab) : Bool := (T.subs.all fun p => subB K p.1.1 p.1.2 p.2) && ((T.exms.all fun p => exmB K p.1.1 p.1.2 p.2) && ((T.clsns.all fun x => clsnB K x) && ((["NoneType", "bool", "int", "str", "tuple", "list"].all fun x => freeB K x) && (("isinstance" :: "range" :: "enumerate" :: bifs).all fun x => freeB K x))))
def Tab.says4 (T : Tab) : Bool := (T.nfsts.all fun p => nfstB K p.1 p.2) && ((T.dnes.all fun c => dneB K c) && ((T.bls.all fun p => blB K p.1.2 p.2) && ((T.brs.all fun p => brB K p.1.1 p.1.2 p.2) && (T.nsqs.all fun c => nsqB K c))))
/-- in parts that are looked at one by one -/
theorem Tab.says_eq (T : Tab) : T.says K = ((T.defs.all fun d => d.toA.ok K) && (T.says2 K && (T.says3 K && T.says4 K))) := by
  simp only [Tab.says, Tab.says2, Tab.says3, Tab.says4, Bool.and_assoc]
end
/-! ### the Hook -/
def Tab.obs (T : Tab) (K : PySem.W.Frag) : He.AlD := (T.says K, T.defs.map fun d => He5.fnA K (d.toA.at_ K))
def Tab.val (T : Tab) : He.AlD := (true, T.defs.map fun d => d.toA.val)
/-- what an object names, of a namespace what counts -/
def refM (ms : List PySem.Str) (o : Obj) : List Addr := match o.data with
  | .seq its _ => its.toList.flatMap He.refV
  | .dict es _ => es.toList.flatMap fun e => match e.key with
    | .str x _ => if ms.contains x = true then He.refV e.val else []
    | _ => []
  | .func fd => He.refV fd.code ++ He.refV fd.defaults
  | .cls cd => cd.ns :: cd.mro.flatMap He.refV
  | .fields vs => vs.toList.flatMap He.refV
  | _ => []
def frontG (g : Addr → Option Obj) (ms : List PySem.Str) : Nat → List Addr → List Addr
  | 0, l => l
  | n + 1, l => l ++ frontG g ms n (l.flatMap fun a => match g a with
    | some o => (refM ms o).filter fun b => b != a
    | none => [])
def Tab.asT (T : Tab) (n : Nat) (g : Addr → Option Obj) : List Addr := mainGlobals :: cStatics :: frontG g (T.mems.map nm) n (T.roots.map fun x => cA (He.frG g [mainGlobals]) x)
def Tab.obsG (T : Tab) (n : Nat) (g : Addr → Option Obj) : He.AlD := T.obs (He.frG g (T.asT n g))
def Tab.hook (T : Tab) (n : Nat) : PySem.W.Hook where
  α := He.AlD
  obs := fun s => T.obsG n s.heap.get?
  val := fun _ => T.val
  says := fun _ h => ∃ K : PySem.W.Frag, K.In h ∧ T.obs K = T.val
  of := fun _ _ e => ⟨_, He.frG_in, e⟩
  keeps := fun _ _ _ ⟨K, hK, c⟩ k => ⟨K, PySem.W.Frag.In.keeps hK k, c⟩
theorem Tab.obsG_eq {T : Tab} {n : Nat} {g : Addr → Option Obj} {s : Shared} (h : ∀ a, g a = s.heap.get? a) : T.obsG n g = (T.hook n).obs s := by
  have e : g = s.heap.get? := funext h
  rw [e] <;> rfl
theorem fst_of {α β γ : Type} (o : Option α) (f : α → β) (g : α → γ) (a : β) (b : γ) (h : o.map (fun s => (f s, g s)) = some (a, b)) : o.map f = some a := by
  cases o with
  | none => cases h
  | some s =>
    simp only [Option.map_some, Option.some.injEq, Prod.mk.injEq] at h ⊢
    exact h.1
theorem snd_of {α β γ : Type} (o : Option α) (f : α → β) (g : α → γ) (a : β) (b : γ) (h : o.map (fun s => (f s, g s)) = some (a, b)) : o.map g = some b := by
  cases o with
  | none => cases h
  | some s =>
    simp only [Option.map_some, Option.some.injEq, Prod.mk.injEq] at h ⊢
    exact h.2
/-- what is looked at, in four parts -/
theorem run4 {α β : Type} (o : Option α) (f : α → Bool × β) (a b c : α → Bool) (g : α → Bool × β) (v : β) (hf : ∀ s, f s = ((a s && (b s && (c s && (g s).1))), (g s).2)) (h1 : o.map a = some true) (h2 : o.map b = some true) (h3 : o.map c = some true) (h4 : o.map g = some (true, v)) : o.map f = some (true, v) := by
  cases o with
  | none => cases h1
  | some s =>
    simp only [Option.map_some, Option.some.injEq] at h1 h2 h3 h4 ⊢
    rw [hf, h1, h2, h3, h4]
    rfl
/-- the run, looked at three times -/
theorem runEq3 {r : PySem.W.OpenRow} {q : Program} {H : PySem.W.Hook} {ob : PySem.W.SharedT → H.α} {M : Nat} {loose : List PySem.Str} {w : World}
    (h1 : ∀ os : OsState, (HandSHeadRun.endF (HandSHeadRun.stepQ (HandSHeadRun.denQ HandSHeadRun.tabQ) r.prog w) M r.prog w os).map (fun s => HandSHeadRun.looksF r.prog (PySem.W.boot_heap w.params) s.abs) = some true)
    (h2 : ∀ os : OsState, (HandSHeadRun.endF (HandSHeadRun.stepQ (HandSHeadRun.denQ HandSHeadRun.tabQ) r.prog w) M r.prog w os).map (fun s => HandSHeadRun.seenQ q loose (importedModules r.prog.main.body) (fun s => PySem.W.xlAt q [] s && PySem.W.recOk r.toRowW.records s) s.abs) = some (PySem.W.openGood q loose))
    (h3 : ∀ os : OsState, (HandSHeadRun.endF (HandSHeadRun.stepQ (HandSHeadRun.denQ HandSHeadRun.tabQ) r.prog w) M r.prog w os).map ob = some (H.val w)) : HandSHeadRun.RunEq r q H ob M loose w := by
  intro os
  have a := h1 os
  have b := h2 os
  have c := h3 os
  revert a b c
  generalize HandSHeadRun.endF (HandSHeadRun.stepQ (HandSHeadRun.denQ HandSHeadRun.tabQ) r.prog w) M r.prog w os = o
  intro a b c
  cases o with
  | none => cases a
  | some s =>
    simp only [Option.map_some, Option.some.injEq] at a b c ⊢
    rw [a, b, c]
end Py
namespace Py
open PySem
def pyTop (p : Program) (i : Nat) : Stmt := p.main.body.getD i (.Pass ⟨0, 0, 0, 0⟩)
/-- a class's j-th statement -/
def pyMem (st : Stmt) (j : Nat) : Stmt := match st with
  | .ClassDef _ _ _ b _ _ _ _ _ _ _ => b.getD j (.Pass ⟨0, 0, 0, 0⟩)
  | _ => .Pass ⟨0, 0, 0, 0⟩
end Py
end

section
set_option linter.all false
set_option autoImplicit false
set_option maxRecDepth 10000
/-! The law's text as tables (printed by gen.py). -/
namespace Pn.K28
open Py Pn
def b__law_spoilt : Ss := (.cons (.set (.name 2) (.call "_law_parts" (.cons (.var 1) .nil)))
    (.cons (.iff (.band (.cons (.cmp .gt (.bif "len" (.cons (.var 2) .nil)) (.lit (.int 0))) (.cons (.cmp .gt (.call "_law_draw" (.cons (.var 0) (.cons (.lit (.int 3)) .nil))) (.lit (.int 0))) .nil)))
    (.cons (.iff (.bor (.cons (.cmp .eq (.bif "len" (.cons (.var 2) .nil)) (.lit (.int 1))) (.cons (.cmp .eq (.call "_law_draw" (.cons (.var 0) (.cons (.lit (.int 2)) .nil))) (.lit (.int 0))) .nil)))
    (.cons (.ret (.tup (.cons (.idx (.var 1) (.lit (.int 0))) (.cons (.idx (.var 1) (.lit (.int 1))) (.cons (.call "_law_spoilt" (.cons (.var 0) (.cons (.idx (.var 1) (.lit (.int 2))) .nil))) (.cons (.idx (.var 1) (.lit (.int 3))) .nil))))))
    .nil)
    .nil)
    (.cons (.ret (.tup (.cons (.idx (.var 1) (.lit (.int 0))) (.cons (.idx (.var 1) (.lit (.int 1))) (.cons (.idx (.var 1) (.lit (.int 2))) (.cons (.call "_law_spoilt" (.cons (.var 0) (.cons (.idx (.var 1) (.lit (.int 3))) .nil))) .nil))))))
    .nil))
    .nil)
    (.cons (.set (.name 3) (.call "_law_draw" (.cons (.var 0) (.cons (.lit (.int 4)) .nil))))
    (.cons (.set (.name 4) (.call "_law_label" (.cons (.var 0) .nil)))
    (.cons (.iff (.cmp .eq (.idx (.var 1) (.lit (.int 0))) (.lit (.str [102, 97, 105, 108])))
    (.cons (.set (.name 6) (.idx (.lst (.cons (.lit (.str [105, 110, 116])) (.cons (.lit (.str [98, 111, 111, 108])) (.cons (.lit (.str [117, 110, 105, 116])) (.cons (.lit (.str [102, 117, 110])) (.cons (.lit (.str [112, 97, 105, 114])) .nil)))))) (.call "_law_draw" (.cons (.var 0) (.cons (.lit (.int 5)) .nil)))))
    (.cons (.ret (.idx (.lst (.cons (.tup (.cons (.lit (.str [102, 97, 105, 108])) (.cons (.tup (.cons (.var 6) (.cons (.idx (.var 1) (.lit (.int 2))) .nil))) (.cons (.idx (.var 1) (.lit (.int 2))) .nil)))) (.cons (.tup (.cons (.lit (.str [102, 97, 105, 108])) (.cons (.tup (.cons (.var 6) (.cons (.var 4) .nil))) (.cons (.idx (.var 1) (.lit (.int 2))) .nil)))) (.cons (.tup (.cons (.lit (.str [102, 97, 105, 108])) (.cons (.lit .non) (.cons (.var 4) .nil)))) (.cons (.tup (.cons (.lit (.str [97, 110, 121])) .nil)) .nil))))) (.var 3)))
    .nil))
    .nil)
    (.cons (.iff (.band (.cons (.cmp .ne (.idx (.var 1) (.lit (.int 0))) (.lit (.str [97, 110, 121]))) (.cons (.cmp .eq (.var 3) (.lit (.int 0))) .nil)))
    (.cons (.set (.name 7) (.lit .non))
    (.cons (.iff (.cmp .is_ (.call "_law_check" (.cons (.var 1) .nil)) (.lit .non))
    (.cons (.set (.name 7) (.var 4))
    .nil)
    .nil)
    (.cons (.iff (.cmp .eq (.idx (.var 1) (.lit (.int 0))) (.lit (.str [98, 97, 115, 101])))
    (.cons (.ret (.tup (.cons (.lit (.str [98, 97, 115, 101])) (.cons (.idx (.var 1) (.lit (.int 1))) (.cons (.var 7) .nil)))))
    .nil)
    .nil)
    (.cons (.ret (.tup (.cons (.idx (.var 1) (.lit (.int 0))) (.cons (.var 7) (.cons (.idx (.var 1) (.lit (.int 2))) (.cons (.idx (.var 1) (.lit (.int 3))) .nil))))))
    .nil))))
    .nil)
    (.cons (.iff (.band (.cons (.cmp .eq (.idx (.var 1) (.lit (.int 0))) (.lit (.str [98, 97, 115, 101]))) (.cons (.cmp .eq (.var 3) (.lit (.int 1))) .nil)))
    (.cons (.ret (.tup (.cons (.lit (.str [98, 97, 115, 101])) (.cons (.idx (.lst (.cons (.lit (.str [105, 110, 116])) (.cons (.lit (.str [98, 111, 111, 108])) (.cons (.lit (.str [117, 110, 105, 116])) .nil)))) (.call "_law_draw" (.cons (.var 0) (.cons (.lit (.int 3)) .nil)))) (.cons (.idx (.var 1) (.lit (.int 2))) .nil)))))
    .nil)
    .nil)
    (.cons (.iff (.band (.cons (.cmp .eq (.idx (.var 1) (.lit (.int 0))) (.lit (.str [102, 117, 110]))) (.cons (.cmp .eq (.var 3) (.lit (.int 1))) (.cons (.cmp .is_ (.idx (.var 1) (.lit (.int 3))) (.lit .non)) .nil))))
    (.cons (.ret (.tup (.cons (.lit (.str [102, 117, 110])) (.cons (.idx (.var 1) (.lit (.int 1))) (.cons (.idx (.var 1) (.lit (.int 2))) (.cons (.tup (.cons (.lit (.str [97, 110, 121])) .nil)) .nil))))))
    .nil)
    .nil)
    (.cons (.iff (.band (.cons (.cmp .eq (.idx (.var 1) (.lit (.int 0))) (.lit (.str [102, 117, 110]))) (.cons (.cmp .eq (.var 3) (.lit (.int 1))) .nil)))
    (.cons (.ret (.tup (.cons (.lit (.str [102, 117, 110])) (.cons (.idx (.var 1) (.lit (.int 1))) (.cons (.idx (.var 1) (.lit (.int 2))) (.cons (.lit .non) .nil))))))
    .nil)
    .nil)
    (.cons (.iff (.band (.cons (.cmp .eq (.idx (.var 1) (.lit (.int 0))) (.lit (.str [112, 97, 105, 114]))) (.cons (.cmp .eq (.var 3) (.lit (.int 1))) .nil)))
    (.cons (.ret (.tup (.cons (.lit (.str [102, 117, 110])) (.cons (.idx (.var 1) (.lit (.int 1))) (.cons (.idx (.var 1) (.lit (.int 2))) (.cons (.idx (.var 1) (.lit (.int 3))) .nil))))))
    .nil)
    .nil)
    (.cons (.set (.name 5) (.lst (.cons (.tup (.cons (.lit (.str [97, 110, 121])) .nil)) (.cons (.tup (.cons (.lit (.str [98, 97, 115, 101])) (.cons (.lit (.str [98, 111, 111, 108])) (.cons (.lit .non) .nil)))) (.cons (.tup (.cons (.lit (.str [98, 97, 115, 101])) (.cons (.lit (.str [117, 110, 105, 116])) (.cons (.var 4) .nil)))) (.cons (.tup (.cons (.lit (.str [102, 97, 105, 108])) (.cons (.lit .non) (.cons (.var 4) .nil)))) .nil))))))
    (.cons (.expr (.meth (.var 5) "append" (.cons (.tup (.cons (.lit (.str [112, 97, 105, 114])) (.cons (.var 4) (.cons (.tup (.cons (.lit (.str [97, 110, 121])) .nil)) (.cons (.tup (.cons (.lit (.str [97, 110, 121])) .nil)) .nil))))) .nil)))
    (.cons (.ret (.idx (.var 5) (.call "_law_draw" (.cons (.var 0) (.cons (.lit (.int 5)) .nil)))))
    .nil)))))))))))))
def f__law_spoilt : FD := ⟨"_law_spoilt", 2, 8, [], b__law_spoilt, false⟩
def b__law_due : Ss := (.cons (.iff (.cmp .gt (.call "_law_tree_high" (.cons (.var 1) .nil)) (.lit (.int 8)))
    (.cons (.ret (.lit (.str [116, 111, 111, 32, 108, 97, 114, 103, 101])))
    .nil)
    .nil)
    (.cons (.iff (.not_ (.call "_law_tree_fits" (.cons (.var 1) (.cons (.var 0) (.cons (.var 2) .nil)))))
    (.cons (.ret (.lit (.str [110, 111, 32, 102, 105, 116])))
    .nil)
    .nil)
    (.cons (.ret (.lit (.str [109, 97, 100, 101])))
    .nil)))
def f__law_due : FD := ⟨"_law_due", 3, 3, [], b__law_due, false⟩
def b__law_asked : Ss := (.cons (.try_ (.cons (.set (.name 4) (.new "Middle" (.cons (.new "Kind" (.cons (.var 0) .nil)) (.cons (.var 1) (.cons (.new "Kind" (.cons (.var 2) .nil)) .nil)))))
    .nil) "CastsError" (some 3)
    (.cons (.iff (.band (.cons (.ise 3 false ["TooLarge"]) (.cons (.not_ (.ise 3 false ["BadMiddle"])) .nil)))
    (.cons (.ret (.lit (.str [116, 111, 111, 32, 108, 97, 114, 103, 101])))
    .nil)
    .nil)
    (.cons (.iff (.band (.cons (.ise 3 false ["BadMiddle"]) (.cons (.not_ (.ise 3 false ["TooLarge"])) .nil)))
    (.cons (.ret (.lit (.str [110, 111, 32, 102, 105, 116])))
    .nil)
    .nil)
    (.cons (.ret (.lit (.str [97, 110, 111, 116, 104, 101, 114, 32, 101, 114, 114, 111, 114])))
    .nil))))
    (.cons (.iff (.not_ (.call "_law_is_middle" (.cons (.var 4) (.cons (.var 0) (.cons (.var 1) (.cons (.var 2) .nil))))))
    (.cons (.ret (.lit (.str [99, 104, 97, 110, 103, 101, 100])))
    .nil)
    .nil)
    (.cons (.ret (.lit (.str [109, 97, 100, 101])))
    .nil)))
def f__law_asked : FD := ⟨"_law_asked", 3, 5, [], b__law_asked, false⟩
def b__law_questions : Ss := (.cons (.set (.name 4) (.lst (.cons (.call "_law_kind" (.cons (.var 0) (.cons (.lit (.int 2)) .nil))) (.cons (.call "_law_agreeing" (.cons (.var 0) (.cons (.var 1) (.cons (.lit (.int 2)) .nil)))) (.cons (.call "_law_agreeing" (.cons (.var 0) (.cons (.var 2) (.cons (.lit (.int 2)) .nil)))) .nil)))))
    (.cons (.set (.name 5) (.call "_law_spoilt" (.cons (.var 0) (.cons (.var 3) .nil))))
    (.cons (.set (.name 6) (.call "_law_label" (.cons (.var 0) .nil)))
    (.cons (.set (.name 7) (.call "_law_label" (.cons (.var 0) .nil)))
    (.cons (.set (.name 8) (.idx (.lst (.cons (.lit (.str [105, 110, 116])) (.cons (.lit (.str [98, 111, 111, 108])) (.cons (.lit (.str [117, 110, 105, 116])) (.cons (.lit (.str [102, 117, 110])) (.cons (.lit (.str [112, 97, 105, 114])) .nil)))))) (.call "_law_draw" (.cons (.var 0) (.cons (.lit (.int 5)) .nil)))))
    (.cons (.set (.name 9) (.tup (.cons (.lit (.str [102, 97, 105, 108])) (.cons (.lit .non) (.cons (.var 7) .nil)))))
    (.cons (.set (.name 10) (.tup (.cons (.lit (.str [102, 97, 105, 108])) (.cons (.tup (.cons (.var 8) (.cons (.var 6) .nil))) (.cons (.var 7) .nil)))))
    (.cons (.set (.name 11) (.tup (.cons (.lit (.str [102, 97, 105, 108])) (.cons (.tup (.cons (.var 8) (.cons (.var 6) .nil))) (.cons (.var 6) .nil)))))
    (.cons (.set (.name 12) (.lst (.cons (.tup (.cons (.var 1) (.cons (.var 3) (.cons (.var 2) .nil)))) (.cons (.tup (.cons (.var 1) (.cons (.var 5) (.cons (.var 2) .nil)))) (.cons (.tup (.cons (.var 2) (.cons (.var 3) (.cons (.var 1) .nil)))) (.cons (.tup (.cons (.idx (.var 4) (.lit (.int 0))) (.cons (.var 3) (.cons (.var 2) .nil)))) (.cons (.tup (.cons (.var 1) (.cons (.var 3) (.cons (.idx (.var 4) (.lit (.int 0))) .nil)))) .nil)))))))
    (.cons (.set (.name 12) (.bin .add (.var 12) (.lst (.cons (.tup (.cons (.idx (.var 4) (.lit (.int 1))) (.cons (.var 3) (.cons (.var 2) .nil)))) (.cons (.tup (.cons (.var 1) (.cons (.var 3) (.cons (.idx (.var 4) (.lit (.int 2))) .nil)))) (.cons (.tup (.cons (.idx (.var 4) (.lit (.int 1))) (.cons (.var 5) (.cons (.idx (.var 4) (.lit (.int 2))) .nil)))) .nil))))))
    (.cons (.set (.name 12) (.bin .add (.var 12) (.lst (.cons (.tup (.cons (.var 1) (.cons (.var 9) (.cons (.var 2) .nil)))) (.cons (.tup (.cons (.var 1) (.cons (.var 10) (.cons (.var 2) .nil)))) (.cons (.tup (.cons (.lit (.str [63])) (.cons (.var 10) (.cons (.var 2) .nil)))) (.cons (.tup (.cons (.var 1) (.cons (.var 11) (.cons (.var 2) .nil)))) (.cons (.tup (.cons (.lit (.str [63])) (.cons (.var 11) (.cons (.var 2) .nil)))) .nil))))))))
    (.cons (.set (.name 12) (.bin .add (.var 12) (.lst (.cons (.tup (.cons (.lit (.str [63])) (.cons (.tup (.cons (.lit (.str [102, 117, 110])) (.cons (.var 6) (.cons (.var 9) (.cons (.tup (.cons (.lit (.str [97, 110, 121])) .nil)) .nil))))) (.cons (.lit (.str [63])) .nil)))) (.cons (.tup (.cons (.lit (.str [63])) (.cons (.tup (.cons (.lit (.str [102, 117, 110])) (.cons (.var 6) (.cons (.var 9) (.cons (.lit .non) .nil))))) (.cons (.lit (.str [63])) .nil)))) .nil)))))
    (.cons (.set (.name 12) (.bin .add (.var 12) (.lst (.cons (.tup (.cons (.lit (.str [63])) (.cons (.tup (.cons (.lit (.str [102, 117, 110])) (.cons (.var 6) (.cons (.tup (.cons (.lit (.str [97, 110, 121])) .nil)) (.cons (.lit .non) .nil))))) (.cons (.lit (.str [63])) .nil)))) (.cons (.tup (.cons (.lit (.str [63])) (.cons (.tup (.cons (.lit (.str [102, 117, 110])) (.cons (.lit .non) (.cons (.tup (.cons (.lit (.str [97, 110, 121])) .nil)) (.cons (.tup (.cons (.lit (.str [97, 110, 121])) .nil)) .nil))))) (.cons (.lit (.str [63])) .nil)))) .nil)))))
    (.cons (.set (.name 13) (.call "_law_nest" (.cons (.var 0) (.cons (.call "_law_draw" (.cons (.var 0) (.cons (.lit (.int 11)) .nil))) .nil))))
    (.cons (.set (.name 12) (.bin .add (.var 12) (.lst (.cons (.tup (.cons (.lit (.str [63])) (.cons (.var 13) (.cons (.lit (.str [63])) .nil)))) (.cons (.tup (.cons (.lit (.str [63])) (.cons (.call "_law_spoilt" (.cons (.var 0) (.cons (.var 13) .nil))) (.cons (.lit (.str [63])) .nil)))) (.cons (.tup (.cons (.var 1) (.cons (.var 13) (.cons (.var 2) .nil)))) .nil))))))
    (.cons (.for_ (.name 14) (.over (.lst (.cons (.lit (.int 7)) (.cons (.lit (.int 8)) (.cons (.lit (.int 9)) .nil)))))
    (.cons (.expr (.meth (.var 12) "append" (.cons (.tup (.cons (.lit (.str [63])) (.cons (.call "_law_nest" (.cons (.var 0) (.cons (.var 14) .nil))) (.cons (.lit (.str [63])) .nil)))) .nil)))
    .nil))
    (.cons (.ret (.var 12))
    .nil)))))))))))))))))
def f__law_questions : FD := ⟨"_law_questions", 4, 15, [], b__law_questions, false⟩
def b__law_equality_due : Ss := (.cons (.set (.name 1) (.comp (.name 4) (.new "Middle" (.cons (.new "Kind" (.cons (.idx (.var 4) (.lit (.int 0))) .nil)) (.cons (.idx (.var 4) (.lit (.int 1))) (.cons (.new "Kind" (.cons (.idx (.var 4) (.lit (.int 2))) .nil)) .nil)))) (.over (.var 0)) .nil))
    (.cons (.for_ (.name 2) (.range1 (.bif "len" (.cons (.var 0) .nil)))
    (.cons (.iff (.cmp .eq (.idx (.var 1) (.var 2)) (.new "Kind" (.cons (.idx (.idx (.var 0) (.var 2)) (.lit (.int 0))) .nil)))
    (.cons (.ret (.lit (.bl false)))
    .nil)
    .nil)
    (.cons (.for_ (.name 3) (.range1 (.bif "len" (.cons (.var 0) .nil)))
    (.cons (.iff (.cmp .ne (.bif "bool" (.cons (.cmp .eq (.idx (.var 1) (.var 2)) (.idx (.var 1) (.var 3))) .nil)) (.call "_law_same" (.cons (.idx (.var 0) (.var 2)) (.cons (.idx (.var 0) (.var 3)) .nil))))
    (.cons (.ret (.lit (.bl false)))
    .nil)
    .nil)
    .nil))
    .nil)))
    (.cons (.ret (.lit (.bl true)))
    .nil)))
def f__law_equality_due : FD := ⟨"_law_equality_due", 1, 5, [], b__law_equality_due, false⟩
def b_law : Ss := (.cons (.set (.name 1) (.call "_law_draws" (.cons (.var 0) .nil)))
    (.cons (.set (.name 2) (.call "_law_kind" (.cons (.var 1) (.cons (.lit (.int 3)) .nil))))
    (.cons (.set (.name 3) (.call "_law_agreeing" (.cons (.var 1) (.cons (.var 2) (.cons (.lit (.int 3)) .nil)))))
    (.cons (.iff (.cmp .eq (.call "_law_draw" (.cons (.var 1) (.cons (.lit (.int 4)) .nil))) (.lit (.int 3)))
    (.cons (.set (.name 3) (.call "_law_kind" (.cons (.var 1) (.cons (.lit (.int 3)) .nil))))
    .nil)
    .nil)
    (.cons (.set (.name 4) (.call "_law_tree" (.cons (.var 1) (.cons (.var 2) (.cons (.var 3) (.cons (.lit (.int 3)) .nil))))))
    (.cons (.set (.name 5) (.call "_law_tree" (.cons (.var 1) (.cons (.var 2) (.cons (.var 3) (.cons (.lit (.int 3)) .nil))))))
    (.cons (.set (.name 6) (.tup (.cons (.lit (.str [102, 97, 105, 108])) (.cons (.lit .non) (.cons (.call "_law_label" (.cons (.var 1) .nil)) .nil)))))
    (.cons (.set (.name 7) (.call "_law_kind" (.cons (.var 1) (.cons (.lit (.int 2)) .nil))))
    (.cons (.set (.name 8) (.lst (.cons (.tup (.cons (.var 2) (.cons (.var 4) (.cons (.var 3) .nil)))) (.cons (.tup (.cons (.var 2) (.cons (.var 5) (.cons (.var 3) .nil)))) (.cons (.tup (.cons (.var 2) (.cons (.var 6) (.cons (.var 3) .nil)))) (.cons (.tup (.cons (.var 7) (.cons (.var 6) (.cons (.var 3) .nil)))) (.cons (.tup (.cons (.var 2) (.cons (.var 6) (.cons (.var 7) .nil)))) (.cons (.tup (.cons (.var 2) (.cons (.var 4) (.cons (.var 3) .nil)))) .nil))))))))
    (.cons (.iff (.not_ (.call "_law_equality_due" (.cons (.var 8) .nil)))
    (.cons (.ret (.lit (.bl false)))
    .nil)
    .nil)
    (.cons (.for_ (.tup [9, 10, 11]) (.over (.call "_law_questions" (.cons (.var 1) (.cons (.var 2) (.cons (.var 3) (.cons (.var 4) .nil))))))
    (.cons (.iff (.not_ (.call "_law_same" (.cons (.call "_law_asked" (.cons (.var 9) (.cons (.var 10) (.cons (.var 11) .nil)))) (.cons (.call "_law_due" (.cons (.var 9) (.cons (.var 10) (.cons (.var 11) .nil)))) .nil))))
    (.cons (.ret (.lit (.bl false)))
    .nil)
    .nil)
    .nil))
    (.cons (.ret (.lit (.bl true)))
    .nil))))))))))))
def f_law : FD := ⟨"law", 1, 12, [], b_law, false⟩
def pt : PT where
  fds := [C.f_kind_height, C.f_has_ground, C.f_opened, C.f_ground_of, C.f_check_of, C.f_parts_of, C.f_tree_height, C.f_fits_tree, C.f__law_draws, C.f__law_draw, C.f__law_name, C.f__law_label, C.f__law_same, C.f__law_kind, C.f__law_agreeing, C.f__law_has, C.f__law_open, C.f__law_ground, C.f__law_check, C.f__law_failure, C.f__law_parts, C.f__law_tree_high, C.f__law_fail_tree, C.f__law_tree, C.f__law_is_middle, C.f__law_tree_fits, C.f__law_nest, f__law_spoilt, f__law_due, f__law_asked, f__law_questions, f__law_equality_due, f_law, C.f_Kind___init__, C.f_Kind___eq__, C.f_Middle___init__, C.f_Middle___eq__]
  fnks := ["kind_height", "has_ground", "opened", "ground_of", "check_of", "parts_of", "tree_height", "fits_tree", "_law_draws", "_law_draw", "_law_name", "_law_label", "_law_same", "_law_kind", "_law_agreeing", "_law_has", "_law_open", "_law_ground", "_law_check", "_law_failure", "_law_parts", "_law_tree_high", "_law_fail_tree", "_law_tree", "_law_is_middle", "_law_tree_fits", "_law_nest", "_law_spoilt", "_law_due", "_law_asked", "_law_questions", "_law_equality_due", "law"]
  glos := [("Kind", (.cls "Kind")), ("Middle", (.cls "Middle"))]
  clss := [⟨"Kind", some "Kind.__init__", [("__eq__", "Kind.__eq__")], [], [("LIMIT", (.int 8))], ["tree"], [], [("LIMIT", (.int 8))]⟩,
    ⟨"Middle", some "Middle.__init__", [("__eq__", "Middle.__eq__")], [], [], ["source", "target", "tree"], [], []⟩]
  exns := ["CastsError", "TooLarge", "BadMiddle"]
  subs := [(("NoneType", "Kind"), false), (("NoneType", "Middle"), false), (("NoneType", "bool"), false), (("NoneType", "int"), false), (("NoneType", "list"), false), (("NoneType", "str"), false), (("NoneType", "tuple"), false), (("bool", "Kind"), false), (("bool", "Middle"), false), (("bool", "bool"), true), (("bool", "int"), true), (("bool", "list"), false), (("bool", "str"), false), (("bool", "tuple"), false), (("int", "Kind"), false), (("int", "Middle"), false), (("int", "bool"), false), (("int", "int"), true), (("int", "list"), false), (("int", "str"), false), (("int", "tuple"), false), (("str", "Kind"), false), (("str", "Middle"), false), (("str", "bool"), false), (("str", "int"), false), (("str", "list"), false), (("str", "str"), true), (("str", "tuple"), false), (("tuple", "Kind"), false), (("tuple", "Middle"), false), (("tuple", "bool"), false), (("tuple", "int"), false), (("tuple", "list"), false), (("tuple", "str"), false), (("tuple", "tuple"), true), (("list", "Kind"), false), (("list", "Middle"), false), (("list", "bool"), false), (("list", "int"), false), (("list", "list"), true), (("list", "str"), false), (("list", "tuple"), false), (("Middle", "Kind"), false), (("Middle", "Middle"), true), (("Middle", "bool"), false), (("Middle", "int"), false), (("Middle", "list"), false), (("Middle", "str"), false), (("Middle", "tuple"), false), (("Kind", "Kind"), true), (("Kind", "Middle"), false), (("Kind", "bool"), false), (("Kind", "int"), false), (("Kind", "list"), false), (("Kind", "str"), false), (("Kind", "tuple"), false), (("CastsError", "BadMiddle"), false), (("CastsError", "TooLarge"), false), (("TooLarge", "BadMiddle"), false), (("TooLarge", "TooLarge"), true), (("BadMiddle", "BadMiddle"), true), (("BadMiddle", "TooLarge"), false)]
  exms := [(("CastsError", "CastsError"), true), (("TooLarge", "CastsError"), true), (("BadMiddle", "CastsError"), true)]
  clsns := ["BadMiddle", "Kind", "Middle", "TooLarge", "bool", "int", "list", "str", "tuple"]
  wf := 10 ^ 40
  nfsts := [("Kind", "NoneType"), ("Kind", "bool"), ("Kind", "int"), ("Kind", "str"), ("Kind", "tuple"), ("Kind", "list"), ("Kind", "Kind"), ("Kind", "Middle"), ("Middle", "NoneType"), ("Middle", "bool"), ("Middle", "int"), ("Middle", "str"), ("Middle", "tuple"), ("Middle", "list"), ("Middle", "Kind"), ("Middle", "Middle")]
  dnes := ["Kind", "Middle"]
  bls := []
  brs := []
  nsqs := []
end Pn.K28
end

section
set_option Elab.async false
set_option linter.all false
set_option maxRecDepth 100000
set_option maxHeartbeats 0
set_option autoImplicit false
/-! The law's text as tables; what the top leaves. -/
namespace Py.K28
open PySem L2 Py Pn Pn.K28
abbrev P : Program := PySem.Challenge.pw_boxedmiddles_k28_middles_that_fit
def d_kind_height : Df := ⟨C.f_kind_height, .glob "kind_height", nm "kind_height", nm "kind_height", defArgs (pyTop P 31), defBody (pyTop P 31), defScope (pyTop P 31), [nm "tree", nm "highest", nm "waiting", nm "part", nm "depth"], [nm "tree"]⟩
def d_has_ground : Df := ⟨C.f_has_ground, .glob "has_ground", nm "has_ground", nm "has_ground", defArgs (pyTop P 33), defBody (pyTop P 33), defScope (pyTop P 33), [nm "tree", nm "ground"], [nm "tree", nm "ground"]⟩
def d_opened : Df := ⟨C.f_opened, .glob "opened", nm "opened", nm "opened", defArgs (pyTop P 34), defBody (pyTop P 34), defScope (pyTop P 34), [nm "tree", nm "ground"], [nm "tree", nm "ground"]⟩
def d_ground_of : Df := ⟨C.f_ground_of, .glob "ground_of", nm "ground_of", nm "ground_of", defArgs (pyTop P 51), defBody (pyTop P 51), defScope (pyTop P 51), [nm "node"], [nm "node"]⟩
def d_check_of : Df := ⟨C.f_check_of, .glob "check_of", nm "check_of", nm "check_of", defArgs (pyTop P 52), defBody (pyTop P 52), defScope (pyTop P 52), [nm "node"], [nm "node"]⟩
def d_parts_of : Df := ⟨C.f_parts_of, .glob "parts_of", nm "parts_of", nm "parts_of", defArgs (pyTop P 57), defBody (pyTop P 57), defScope (pyTop P 57), [nm "node", nm "part"], [nm "node"]⟩
def d_tree_height : Df := ⟨C.f_tree_height, .glob "tree_height", nm "tree_height", nm "tree_height", defArgs (pyTop P 58), defBody (pyTop P 58), defScope (pyTop P 58), [nm "node", nm "highest", nm "part", nm "height"], [nm "node"]⟩
def d_fits_tree : Df := ⟨C.f_fits_tree, .glob "fits_tree", nm "fits_tree", nm "fits_tree", defArgs (pyTop P 62), defBody (pyTop P 62), defScope (pyTop P 62), [nm "node", nm "source", nm "target", nm "word", nm "ground", nm "a", nm "b"], [nm "node", nm "source", nm "target"]⟩
def d__law_draws : Df := ⟨C.f__law_draws, .glob "_law_draws", nm "_law_draws", nm "_law_draws", defArgs (pyTop P 88), defBody (pyTop P 88), defScope (pyTop P 88), [nm "script", nm "draws", nm "cell", nm "rest", nm "k"], [nm "script"]⟩
def d__law_draw : Df := ⟨C.f__law_draw, .glob "_law_draw", nm "_law_draw", nm "_law_draw", defArgs (pyTop P 89), defBody (pyTop P 89), defScope (pyTop P 89), [nm "draws", nm "many"], [nm "draws", nm "many"]⟩
def d__law_name : Df := ⟨C.f__law_name, .glob "_law_name", nm "_law_name", nm "_law_name", defArgs (pyTop P 90), defBody (pyTop P 90), defScope (pyTop P 90), [nm "draws", nm "letters", nm "way", nm "size", nm "at", nm "name", nm "k"], [nm "draws"]⟩
def d__law_label : Df := ⟨C.f__law_label, .glob "_law_label", nm "_law_label", nm "_law_label", defArgs (pyTop P 91), defBody (pyTop P 91), defScope (pyTop P 91), [nm "draws", nm "sign"], [nm "draws"]⟩
def d__law_same : Df := ⟨C.f__law_same, .glob "_law_same", nm "_law_same", nm "_law_same", defArgs (pyTop P 92), defBody (pyTop P 92), defScope (pyTop P 92), [nm "actual", nm "due", nm "k"], [nm "actual", nm "due"]⟩
def d__law_kind : Df := ⟨C.f__law_kind, .glob "_law_kind", nm "_law_kind", nm "_law_kind", defArgs (pyTop P 93), defBody (pyTop P 93), defScope (pyTop P 93), [nm "draws", nm "height", nm "way", nm "left", nm "right"], [nm "draws", nm "height"]⟩
def d__law_agreeing : Df := ⟨C.f__law_agreeing, .glob "_law_agreeing", nm "_law_agreeing", nm "_law_agreeing", defArgs (pyTop P 94), defBody (pyTop P 94), defScope (pyTop P 94), [nm "draws", nm "kind", nm "height", nm "left", nm "right"], [nm "draws", nm "kind", nm "height"]⟩
def d__law_has : Df := ⟨C.f__law_has, .glob "_law_has", nm "_law_has", nm "_law_has", defArgs (pyTop P 95), defBody (pyTop P 95), defScope (pyTop P 95), [nm "kind", nm "ground"], [nm "kind", nm "ground"]⟩
def d__law_open : Df := ⟨C.f__law_open, .glob "_law_open", nm "_law_open", nm "_law_open", defArgs (pyTop P 96), defBody (pyTop P 96), defScope (pyTop P 96), [nm "kind", nm "ground"], [nm "kind", nm "ground"]⟩
def d__law_ground : Df := ⟨C.f__law_ground, .glob "_law_ground", nm "_law_ground", nm "_law_ground", defArgs (pyTop P 97), defBody (pyTop P 97), defScope (pyTop P 97), [nm "node"], [nm "node"]⟩
def d__law_check : Df := ⟨C.f__law_check, .glob "_law_check", nm "_law_check", nm "_law_check", defArgs (pyTop P 98), defBody (pyTop P 98), defScope (pyTop P 98), [nm "node"], [nm "node"]⟩
def d__law_failure : Df := ⟨C.f__law_failure, .glob "_law_failure", nm "_law_failure", nm "_law_failure", defArgs (pyTop P 99), defBody (pyTop P 99), defScope (pyTop P 99), [nm "ground", nm "check", nm "blame"], [nm "ground", nm "check", nm "blame"]⟩
def d__law_parts : Df := ⟨C.f__law_parts, .glob "_law_parts", nm "_law_parts", nm "_law_parts", defArgs (pyTop P 100), defBody (pyTop P 100), defScope (pyTop P 100), [nm "node", nm "part"], [nm "node"]⟩
def d__law_tree_high : Df := ⟨C.f__law_tree_high, .glob "_law_tree_high", nm "_law_tree_high", nm "_law_tree_high", defArgs (pyTop P 101), defBody (pyTop P 101), defScope (pyTop P 101), [nm "node", nm "highest", nm "part", nm "high"], [nm "node"]⟩
def d__law_fail_tree : Df := ⟨C.f__law_fail_tree, .glob "_law_fail_tree", nm "_law_fail_tree", nm "_law_fail_tree", defArgs (pyTop P 102), defBody (pyTop P 102), defScope (pyTop P 102), [nm "draws", nm "s", nm "blame", nm "ground"], [nm "draws", nm "s"]⟩
def d__law_tree : Df := ⟨C.f__law_tree, .glob "_law_tree", nm "_law_tree", nm "_law_tree", defArgs (pyTop P 103), defBody (pyTop P 103), defScope (pyTop P 103), [nm "draws", nm "s", nm "t", nm "height", nm "way", nm "known", nm "check", nm "a", nm "b", nm "argument", nm "left"], [nm "draws", nm "s", nm "t", nm "height"]⟩
def d__law_is_middle : Df := ⟨C.f__law_is_middle, .glob "_law_is_middle", nm "_law_is_middle", nm "_law_is_middle", defArgs (pyTop P 104), defBody (pyTop P 104), defScope (pyTop P 104), [nm "middle", nm "source", nm "tree", nm "target"], [nm "middle", nm "source", nm "tree", nm "target"]⟩
def d__law_tree_fits : Df := ⟨C.f__law_tree_fits, .glob "_law_tree_fits", nm "_law_tree_fits", nm "_law_tree_fits", defArgs (pyTop P 105), defBody (pyTop P 105), defScope (pyTop P 105), [nm "node", nm "s", nm "t", nm "ground", nm "a", nm "b"], [nm "node", nm "s", nm "t"]⟩
def d__law_nest : Df := ⟨C.f__law_nest, .glob "_law_nest", nm "_law_nest", nm "_law_nest", defArgs (pyTop P 106), defBody (pyTop P 106), defScope (pyTop P 106), [nm "draws", nm "many", nm "leaves", nm "tree", nm "k", nm "check", nm "way"], [nm "draws", nm "many"]⟩
def d__law_spoilt : Df := ⟨f__law_spoilt, .glob "_law_spoilt", nm "_law_spoilt", nm "_law_spoilt", defArgs (pyTop P 107), defBody (pyTop P 107), defScope (pyTop P 107), [nm "draws", nm "node", nm "parts", nm "way", nm "label", nm "others", nm "ground", nm "check"], [nm "draws", nm "node"]⟩
def d__law_due : Df := ⟨f__law_due, .glob "_law_due", nm "_law_due", nm "_law_due", defArgs (pyTop P 108), defBody (pyTop P 108), defScope (pyTop P 108), [nm "source", nm "tree", nm "target"], [nm "source", nm "tree", nm "target"]⟩
def d__law_asked : Df := ⟨f__law_asked, .glob "_law_asked", nm "_law_asked", nm "_law_asked", defArgs (pyTop P 109), defBody (pyTop P 109), defScope (pyTop P 109), [nm "source", nm "tree", nm "target", nm "e", nm "middle"], [nm "source", nm "tree", nm "target"]⟩
def d__law_questions : Df := ⟨f__law_questions, .glob "_law_questions", nm "_law_questions", nm "_law_questions", defArgs (pyTop P 110), defBody (pyTop P 110), defScope (pyTop P 110), [nm "draws", nm "s", nm "t", nm "tree", nm "others", nm "spoilt", nm "label", nm "blame", nm "ground", nm "failing", nm "checked", nm "doubled", nm "asked", nm "nest", nm "many"], [nm "draws", nm "s", nm "t", nm "tree"]⟩
def d__law_equality_due : Df := ⟨f__law_equality_due, .glob "_law_equality_due", nm "_law_equality_due", nm "_law_equality_due", defArgs (pyTop P 111), defBody (pyTop P 111), defScope (pyTop P 111), [nm "forms", nm "middles", nm "j", nm "k", nm "form"], [nm "forms"]⟩
def d_law : Df := ⟨f_law, .glob "law", nm "law", nm "law", defArgs (pyTop P 112), defBody (pyTop P 112), defScope (pyTop P 112), [nm "script", nm "draws", nm "s", nm "t", nm "first", nm "second", nm "failing", nm "other", nm "forms", nm "source", nm "tree", nm "target"], [nm "script"]⟩
def d_Kind___init__ : Df := ⟨C.f_Kind___init__, .meth "Kind" "__init__", nm "__init__", nm "Kind.__init__", defArgs (pyMem (pyTop P 47) 1), defBody (pyMem (pyTop P 47) 1), defScope (pyMem (pyTop P 47) 1), [nm "self", nm "tree"], [nm "self", nm "tree"]⟩
def d_Kind___eq__ : Df := ⟨C.f_Kind___eq__, .meth "Kind" "__eq__", nm "__eq__", nm "Kind.__eq__", defArgs (pyMem (pyTop P 47) 5), defBody (pyMem (pyTop P 47) 5), defScope (pyMem (pyTop P 47) 5), [nm "self", nm "other"], [nm "self", nm "other"]⟩
def d_Middle___init__ : Df := ⟨C.f_Middle___init__, .meth "Middle" "__init__", nm "__init__", nm "Middle.__init__", defArgs (pyMem (pyTop P 86) 0), defBody (pyMem (pyTop P 86) 0), defScope (pyMem (pyTop P 86) 0), [nm "self", nm "source", nm "tree", nm "target"], [nm "self", nm "source", nm "tree", nm "target"]⟩
def d_Middle___eq__ : Df := ⟨C.f_Middle___eq__, .meth "Middle" "__eq__", nm "__eq__", nm "Middle.__eq__", defArgs (pyMem (pyTop P 86) 8), defBody (pyMem (pyTop P 86) 8), defScope (pyMem (pyTop P 86) 8), [nm "self", nm "other"], [nm "self", nm "other"]⟩
def tab : Tab where
  defs := [d_kind_height, d_has_ground, d_opened, d_ground_of, d_check_of, d_parts_of, d_tree_height, d_fits_tree, d__law_draws, d__law_draw, d__law_name, d__law_label, d__law_same, d__law_kind, d__law_agreeing, d__law_has, d__law_open, d__law_ground, d__law_check, d__law_failure, d__law_parts, d__law_tree_high, d__law_fail_tree, d__law_tree, d__law_is_middle, d__law_tree_fits, d__law_nest, d__law_spoilt, d__law_due, d__law_asked, d__law_questions, d__law_equality_due, d_law, d_Kind___init__, d_Kind___eq__, d_Middle___init__, d_Middle___eq__]
  fnks := pt.fnks
  glos := pt.glos
  clss := pt.clss
  exns := pt.exns
  subs := pt.subs
  exms := pt.exms
  clsns := pt.clsns
  roots := ["kind_height", "has_ground", "opened", "ground_of", "check_of", "parts_of", "tree_height", "fits_tree", "_law_draws", "_law_draw", "_law_name", "_law_label", "_law_same", "_law_kind", "_law_agreeing", "_law_has", "_law_open", "_law_ground", "_law_check", "_law_failure", "_law_parts", "_law_tree_high", "_law_fail_tree", "_law_tree", "_law_is_middle", "_law_tree_fits", "_law_nest", "_law_spoilt", "_law_due", "_law_asked", "_law_questions", "_law_equality_due", "law", "Kind", "Middle", "CastsError", "TooLarge", "BadMiddle"]
  mems := ["__init__", "__class__", "__getattribute__", "__getattr__", "__setattr__", "__get__", "__eq__", "LIMIT"]
  wf := pt.wf
  nfsts := pt.nfsts
  dnes := pt.dnes
  bls := pt.bls
  brs := pt.brs
  nsqs := pt.nsqs
abbrev R : PySem.W.OpenRow := PySem.W.OpenLaw.row PySem.Challenge.rw_boxedmiddles_k28_middles_that_fit
def loose : List PySem.Str := (P.main.scope.names.map (·.1)).filter fun x => x != "__name__" && x != "law"
def ob (s : PySem.W.SharedT) : He.AlD := tab.obsG 4 (HandSHeadRun.getT s)
theorem ob_eq (s : PySem.W.SharedT) : ob s = (tab.hook 4).obs s.abs := Tab.obsG_eq (HandSHeadRun.getT_eq s)
def kk (s : PySem.W.SharedT) : PySem.W.Frag := He.frG (HandSHeadRun.getT s) (tab.asT 4 (HandSHeadRun.getT s))
def o1 (s : PySem.W.SharedT) : Bool := tab.defs.all fun d => d.toA.ok (kk s)
def o2 (s : PySem.W.SharedT) : Bool := tab.says2 (kk s)
def o3 (s : PySem.W.SharedT) : Bool := tab.says3 (kk s)
def o4 (s : PySem.W.SharedT) : He.AlD := (tab.says4 (kk s), tab.defs.map fun d => He5.fnA (kk s) (d.toA.at_ (kk s)))
theorem ob_parts (s : PySem.W.SharedT) : ob s = ((o1 s && (o2 s && (o3 s && (o4 s).1))), (o4 s).2) := by
  show (tab.says (kk s), _) = _
  rw [Tab.says_eq (kk s) tab]
  rfl
open HandSHeadRun PySem.W
theorem lookF (w : World) : ∀ os : OsState, (endF (stepQ (denQ tabQ) R.prog (w.withFollow "special-get-raises" false)) 20000 R.prog (w.withFollow "special-get-raises" false) os).map (fun s => looksF R.prog (boot_heap (w.withFollow "special-get-raises" false).params) s.abs) = some true := by
  intro os
  kernel_rfl
theorem seenF (w : World) : ∀ os : OsState, (endF (stepQ (denQ tabQ) R.prog (w.withFollow "special-get-raises" false)) 20000 R.prog (w.withFollow "special-get-raises" false) os).map (fun s => seenQ (PySem.W.view R.prog [112]) loose (importedModules R.prog.main.body) (fun s => xlAt (PySem.W.view R.prog [112]) [] s && recOk R.toRowW.records s) s.abs) = some (openGood (PySem.W.view R.prog [112]) loose) := by
  intro os
  kernel_rfl
theorem paF (w : World) : ∀ os : OsState, (endF (stepQ (denQ tabQ) R.prog (w.withFollow "special-get-raises" false)) 20000 R.prog (w.withFollow "special-get-raises" false) os).map (fun s => (o1 s, o2 s)) = some (true, true) := by
  intro os
  kernel_rfl
theorem o1F (w : World) : ∀ os : OsState, (endF (stepQ (denQ tabQ) R.prog (w.withFollow "special-get-raises" false)) 20000 R.prog (w.withFollow "special-get-raises" false) os).map o1 = some true :=
  fun os => fst_of (endF (stepQ (denQ tabQ) R.prog (w.withFollow "special-get-raises" false)) 20000 R.prog (w.withFollow "special-get-raises" false) os) o1 o2 true true (paF w os)
theorem o2F (w : World) : ∀ os : OsState, (endF (stepQ (denQ tabQ) R.prog (w.withFollow "special-get-raises" false)) 20000 R.prog (w.withFollow "special-get-raises" false) os).map o2 = some true :=
  fun os => snd_of (endF (stepQ (denQ tabQ) R.prog (w.withFollow "special-get-raises" false)) 20000 R.prog (w.withFollow "special-get-raises" false) os) o1 o2 true true (paF w os)
theorem pbF (w : World) : ∀ os : OsState, (endF (stepQ (denQ tabQ) R.prog (w.withFollow "special-get-raises" false)) 20000 R.prog (w.withFollow "special-get-raises" false) os).map (fun s => (o3 s, o4 s)) = some (true, (true, tab.val.2)) := by
  intro os
  kernel_rfl
theorem o3F (w : World) : ∀ os : OsState, (endF (stepQ (denQ tabQ) R.prog (w.withFollow "special-get-raises" false)) 20000 R.prog (w.withFollow "special-get-raises" false) os).map o3 = some true :=
  fun os => fst_of (endF (stepQ (denQ tabQ) R.prog (w.withFollow "special-get-raises" false)) 20000 R.prog (w.withFollow "special-get-raises" false) os) o3 o4 true (true, tab.val.2) (pbF w os)
theorem o4F (w : World) : ∀ os : OsState, (endF (stepQ (denQ tabQ) R.prog (w.withFollow "special-get-raises" false)) 20000 R.prog (w.withFollow "special-get-raises" false) os).map o4 = some (true, tab.val.2) :=
  fun os => snd_of (endF (stepQ (denQ tabQ) R.prog (w.withFollow "special-get-raises" false)) 20000 R.prog (w.withFollow "special-get-raises" false) os) o3 o4 true (true, tab.val.2) (pbF w os)
theorem obF (w : World) : ∀ os : OsState, (endF (stepQ (denQ tabQ) R.prog (w.withFollow "special-get-raises" false)) 20000 R.prog (w.withFollow "special-get-raises" false) os).map ob = some ((tab.hook 4).val (w.withFollow "special-get-raises" false)) :=
  fun os => run4 (endF (stepQ (denQ tabQ) R.prog (w.withFollow "special-get-raises" false)) 20000 R.prog (w.withFollow "special-get-raises" false) os) ob o1 o2 o3 o4 tab.val.2 ob_parts (o1F w os) (o2F w os) (o3F w os) (o4F w os)
theorem lookT (w : World) : ∀ os : OsState, (endF (stepQ (denQ tabQ) R.prog (w.withFollow "special-get-raises" true)) 20000 R.prog (w.withFollow "special-get-raises" true) os).map (fun s => looksF R.prog (boot_heap (w.withFollow "special-get-raises" true).params) s.abs) = some true := by
  intro os
  kernel_rfl
theorem seenT (w : World) : ∀ os : OsState, (endF (stepQ (denQ tabQ) R.prog (w.withFollow "special-get-raises" true)) 20000 R.prog (w.withFollow "special-get-raises" true) os).map (fun s => seenQ (PySem.W.view R.prog [112]) loose (importedModules R.prog.main.body) (fun s => xlAt (PySem.W.view R.prog [112]) [] s && recOk R.toRowW.records s) s.abs) = some (openGood (PySem.W.view R.prog [112]) loose) := by
  intro os
  kernel_rfl
theorem paT (w : World) : ∀ os : OsState, (endF (stepQ (denQ tabQ) R.prog (w.withFollow "special-get-raises" true)) 20000 R.prog (w.withFollow "special-get-raises" true) os).map (fun s => (o1 s, o2 s)) = some (true, true) := by
  intro os
  kernel_rfl
theorem o1T (w : World) : ∀ os : OsState, (endF (stepQ (denQ tabQ) R.prog (w.withFollow "special-get-raises" true)) 20000 R.prog (w.withFollow "special-get-raises" true) os).map o1 = some true :=
  fun os => fst_of (endF (stepQ (denQ tabQ) R.prog (w.withFollow "special-get-raises" true)) 20000 R.prog (w.withFollow "special-get-raises" true) os) o1 o2 true true (paT w os)
theorem o2T (w : World) : ∀ os : OsState, (endF (stepQ (denQ tabQ) R.prog (w.withFollow "special-get-raises" true)) 20000 R.prog (w.withFollow "special-get-raises" true) os).map o2 = some true :=
  fun os => snd_of (endF (stepQ (denQ tabQ) R.prog (w.withFollow "special-get-raises" true)) 20000 R.prog (w.withFollow "special-get-raises" true) os) o1 o2 true true (paT w os)
theorem pbT (w : World) : ∀ os : OsState, (endF (stepQ (denQ tabQ) R.prog (w.withFollow "special-get-raises" true)) 20000 R.prog (w.withFollow "special-get-raises" true) os).map (fun s => (o3 s, o4 s)) = some (true, (true, tab.val.2)) := by
  intro os
  kernel_rfl
theorem o3T (w : World) : ∀ os : OsState, (endF (stepQ (denQ tabQ) R.prog (w.withFollow "special-get-raises" true)) 20000 R.prog (w.withFollow "special-get-raises" true) os).map o3 = some true :=
  fun os => fst_of (endF (stepQ (denQ tabQ) R.prog (w.withFollow "special-get-raises" true)) 20000 R.prog (w.withFollow "special-get-raises" true) os) o3 o4 true (true, tab.val.2) (pbT w os)
theorem o4T (w : World) : ∀ os : OsState, (endF (stepQ (denQ tabQ) R.prog (w.withFollow "special-get-raises" true)) 20000 R.prog (w.withFollow "special-get-raises" true) os).map o4 = some (true, tab.val.2) :=
  fun os => snd_of (endF (stepQ (denQ tabQ) R.prog (w.withFollow "special-get-raises" true)) 20000 R.prog (w.withFollow "special-get-raises" true) os) o3 o4 true (true, tab.val.2) (pbT w os)
theorem obT (w : World) : ∀ os : OsState, (endF (stepQ (denQ tabQ) R.prog (w.withFollow "special-get-raises" true)) 20000 R.prog (w.withFollow "special-get-raises" true) os).map ob = some ((tab.hook 4).val (w.withFollow "special-get-raises" true)) :=
  fun os => run4 (endF (stepQ (denQ tabQ) R.prog (w.withFollow "special-get-raises" true)) 20000 R.prog (w.withFollow "special-get-raises" true) os) ob o1 o2 o3 o4 tab.val.2 ob_parts (o1T w os) (o2T w os) (o3T w os) (o4T w os)
theorem runF (w : World) : HandSHeadRun.RunEq R (PySem.W.view R.prog [112]) (tab.hook 4) ob 20000 loose (w.withFollow "special-get-raises" false) :=
  runEq3 (r := R) (q := PySem.W.view R.prog [112]) (H := tab.hook 4) (ob := ob) (M := 20000) (loose := loose) (w := w.withFollow "special-get-raises" false) (lookF w) (seenF w) (obF w)
theorem runT (w : World) : HandSHeadRun.RunEq R (PySem.W.view R.prog [112]) (tab.hook 4) ob 20000 loose (w.withFollow "special-get-raises" true) :=
  runEq3 (r := R) (q := PySem.W.view R.prog [112]) (H := tab.hook 4) (ob := ob) (M := 20000) (loose := loose) (w := w.withFollow "special-get-raises" true) (lookT w) (seenT w) (obT w)
theorem run (w : World) : HandSHeadRun.RunEq R (PySem.W.view R.prog [112]) (tab.hook 4) ob 20000 loose w := PySem.W.byRow2 "special-get-raises" runF runT w
end Py.K28
end

section
set_option Elab.async false
set_option linter.all false
set_option maxRecDepth 100000
set_option maxHeartbeats 2000000
set_option autoImplicit false
/-! The Py layer, part 2: what stands in the abstract heap. -/
namespace Py
open PySem L2
theorem nm_inj {a b : String} (h : nm a = nm b) : a = b := by
  have h1 : (cpsOfBytes 0 0 a.toByteArray.data.toList).toArray = (cpsOfBytes 0 0 b.toByteArray.data.toList).toArray := congrArg PySem.Str.cps h
  have h2 : cpsOfBytes 0 0 a.toByteArray.data.toList = cpsOfBytes 0 0 b.toByteArray.data.toList := by simpa using h1
  rw [cpsOfBytes_string, cpsOfBytes_string] at h2
  have h3 : a.toList = b.toList := (List.map_inj_right (fun x y e => Char.ext (UInt32.toNat_inj.mp e))).mp h2
  exact String.toList_inj.mp h3
/-- a list that stays: locked, or the module's -/
def FzL (K : PySem.W.Frag) (H : Hp) (a : Addr) (xs : List V) : Prop := (∃ o, H a = some (.frz o (.lst xs))) ∨
  ∃ (o : Obj) (its : Array Value) (n : Nat), K.lookup a = some o ∧ o.cls = .type "list" ∧ o.dict = none ∧ o.data = .seq its n ∧ its.size ≤ sizeLine ∧ Vals xs its.toList
theorem FzL.sq {K : PySem.W.Frag} {H : Hp} {a : Addr} {xs : List V} (h : FzL K H a xs) : SqL K H a xs := h.elim (fun h => .inl (.inr h)) .inr
section
variable (K : PySem.W.Frag) (mg : PySem.Str → Option Value)
mutual
/-- the value v is the datum d -/
def RD (φ : List Addr) (H : Hp) : D → V → Prop
  | .non, v => v = .non
  | .bl b, v => v = .bl b
  | .int i, v => v = .int i
  | .str s, v => v = .str (stS s)
  | .tup ds, v => ∃ a vs, v = .ref a ∧ SqT K H a vs ∧ RDs φ H ds vs
  | .obj i, v => ∃ a, φ[i]? = some a ∧ v = .ref a
  | .cls c, v => ∃ a, mg (nm c) = some (.ref a) ∧ v = .ref a
  | .ty n, v => v = .ty n
  | .fz ds, v => ∃ a vs, v = .ref a ∧ FzL K H a vs ∧ RDs φ H ds vs
  | .opq, _ => True
def RDs (φ : List Addr) (H : Hp) : List D → List V → Prop
  | [], vs => vs = []
  | d :: ds, vs => ∃ v r, vs = v :: r ∧ RD φ H d v ∧ RDs φ H ds r
end
def RF (φ : List Addr) (H : Hp) : List (String × D) → List (PySem.Str × V) → Prop
  | [], l => l = []
  | (f, d) :: r, l => ∃ v l', l = (nm f, v) :: l' ∧ RD K mg φ H d v ∧ RF φ H r l'
/-- the object at a -/
def RO (φ : List Addr) (H : Hp) (a : Addr) : MO → Prop
  | .lst ds => ∃ vs, H a = some (.lst vs) ∧ RDs K mg φ H ds vs
  | .ins c fs => ∃ C dx l, mg (nm c) = some (.ref C) ∧ H a = some (.ins C dx l) ∧ RF K mg φ H fs l
structure Rep (φ : List Addr) (μ : Store) (H : Hp) : Prop where
  nd : φ.Nodup
  len : φ.length = μ.length
  at_ : ∀ (i : Nat) (o : MO), μ[i]? = some o → ∃ a, φ[i]? = some a ∧ RO K mg φ H a o
/-- what stands stays -/
structure Ex (φ : List Addr) (H : Hp) (φ' : List Addr) (H' : Hp) : Prop where
  pre : φ <+: φ'
  tup : ∀ a xs, H a = some (.tup xs) → H' a = some (.tup xs)
  frz : ∀ a o u, H a = some (.frz o u) → H' a = some (.frz o u)
end
section
variable {K : PySem.W.Frag} {mg : PySem.Str → Option Value} {φ φ' φ'' : List Addr} {H H' H'' : Hp} {μ : Store}
theorem Ex.refl : Ex φ H φ H := ⟨List.prefix_refl _, fun _ _ h => h, fun _ _ _ h => h⟩
theorem Ex.trans (a : Ex φ H φ' H') (b : Ex φ' H' φ'' H'') : Ex φ H φ'' H'' := ⟨a.pre.trans b.pre, fun x o h => b.tup x o (a.tup x o h), fun x o u h => b.frz x o u (a.frz x o u h)⟩
theorem Ex.get (e : Ex φ H φ' H') {i : Nat} {a : Addr} (h : φ[i]? = some a) : φ'[i]? = some a := by
  obtain ⟨t, rfl⟩ := e.pre
  rw [List.getElem?_append_left ((List.getElem?_eq_some_iff.mp h).1)]
  exact h
theorem Ex.sqT (e : Ex φ H φ' H') {a : Addr} {xs : List V} (h : SqT K H a xs) : SqT K H' a xs := by
  rcases h with (h | ⟨o, h⟩) | h
  · exact .inl (.inl (e.tup _ _ h))
  · exact .inl (.inr ⟨o, e.frz _ _ _ h⟩)
  · exact .inr h
mutual
theorem RD.mono (e : Ex φ H φ' H') : ∀ (d : D) (v : V), RD K mg φ H d v → RD K mg φ' H' d v
  | .non, _, h => h
  | .bl _, _, h => h
  | .int _, _, h => h
  | .str _, _, h => h
  | .tup ds, _, h => by
    obtain ⟨a, vs, rfl, h1, h2⟩ := h
    exact ⟨a, vs, rfl, e.sqT h1, RDs.mono e ds vs h2⟩
  | .obj _, _, h => by
    obtain ⟨a, h1, rfl⟩ := h
    exact ⟨a, e.get h1, rfl⟩
  | .cls _, _, h => h
  | .ty _, _, h => h
  | .fz ds, _, h => by
    obtain ⟨a, vs, rfl, h1, h2⟩ := h
    exact ⟨a, vs, rfl, h1.elim (fun ⟨o, z⟩ => .inl ⟨o, e.frz _ _ _ z⟩) .inr, RDs.mono e ds vs h2⟩
  | .opq, _, h => h
theorem RDs.mono (e : Ex φ H φ' H') : ∀ (ds : List D) (vs : List V), RDs K mg φ H ds vs → RDs K mg φ' H' ds vs
  | [], _, h => h
  | d :: ds, _, h => by
    obtain ⟨v, r, rfl, h1, h2⟩ := h
    exact ⟨v, r, rfl, RD.mono e d v h1, RDs.mono e ds r h2⟩
end
theorem RF.mono (e : Ex φ H φ' H') : ∀ (fs : List (String × D)) (l : List (PySem.Str × V)), RF K mg φ H fs l → RF K mg φ' H' fs l
  | [], _, h => h
  | (f, d) :: r, _, h => by
    obtain ⟨v, l', rfl, h1, h2⟩ := h
    exact ⟨v, l', rfl, RD.mono e d v h1, RF.mono e r l' h2⟩
theorem RDs.length : ∀ {ds : List D} {vs : List V}, RDs K mg φ H ds vs → vs.length = ds.length
  | [], _, h => by cases h; rfl
  | d :: ds, _, h => by
    obtain ⟨v, r, rfl, h1, h2⟩ := h
    simp [RDs.length h2]
theorem RDs.get : ∀ {ds : List D} {vs : List V} {i : Nat} {d : D}, RDs K mg φ H ds vs → ds[i]? = some d → ∃ v, vs[i]? = some v ∧ RD K mg φ H d v
  | [], _, _, _, h, e => by simp at e
  | d :: ds, _, 0, _, h, e => by
    obtain ⟨v, r, rfl, h1, h2⟩ := h
    simp at e
    subst e
    exact ⟨v, rfl, h1⟩
  | d :: ds, _, i + 1, _, h, e => by
    obtain ⟨v, r, rfl, h1, h2⟩ := h
    obtain ⟨u, q1, q2⟩ := RDs.get (i := i) h2 (by simpa using e)
    exact ⟨u, by simpa using q1, q2⟩
theorem RDs.append : ∀ {ds es : List D} {vs us : List V}, RDs K mg φ H ds vs → RDs K mg φ H es us → RDs K mg φ H (ds ++ es) (vs ++ us)
  | [], _, _, _, h, k => by cases h; exact k
  | d :: ds, _, _, _, h, k => by
    obtain ⟨v, r, rfl, h1, h2⟩ := h
    exact ⟨v, _, rfl, h1, RDs.append h2 k⟩
theorem RDs.nil : RDs K mg φ H [] [] := rfl
theorem RDs.cons {d : D} {ds : List D} {v : V} {vs : List V} (h : RD K mg φ H d v) (k : RDs K mg φ H ds vs) : RDs K mg φ H (d :: ds) (v :: vs) := ⟨v, vs, rfl, h, k⟩
theorem RDs.drop : ∀ {ds : List D} {vs : List V} (n : Nat), RDs K mg φ H ds vs → RDs K mg φ H (ds.drop n) (vs.drop n)
  | _, _, 0, h => h
  | [], _, n + 1, h => by cases h; exact RDs.nil
  | d :: ds, _, n + 1, h => by
    obtain ⟨v, r, rfl, h1, h2⟩ := h
    exact RDs.drop n h2
theorem RDs.take : ∀ {ds : List D} {vs : List V} (n : Nat), RDs K mg φ H ds vs → RDs K mg φ H (ds.take n) (vs.take n)
  | _, _, 0, h => by simp [RDs]
  | [], _, n + 1, h => by cases h; exact RDs.nil
  | d :: ds, _, n + 1, h => by
    obtain ⟨v, r, rfl, h1, h2⟩ := h
    exact ⟨v, _, rfl, h1, RDs.take n h2⟩
theorem RDs.reverse : ∀ {ds : List D} {vs : List V}, RDs K mg φ H ds vs → RDs K mg φ H ds.reverse vs.reverse
  | [], _, h => by cases h; exact RDs.nil
  | d :: ds, _, h => by
    obtain ⟨v, r, rfl, h1, h2⟩ := h
    simp only [List.reverse_cons]
    exact RDs.append (RDs.reverse h2) (RDs.cons h1 RDs.nil)
theorem RDs.dropLast {ds : List D} {vs : List V} (h : RDs K mg φ H ds vs) : RDs K mg φ H ds.dropLast vs.dropLast := by
  rw [List.dropLast_eq_take, List.dropLast_eq_take, h.length]
  exact h.take _
theorem RDs.set : ∀ {ds : List D} {vs : List V} {d : D} {v : V} (n : Nat), RDs K mg φ H ds vs → RD K mg φ H d v → RDs K mg φ H (ds.set n d) (vs.set n v)
  | [], _, _, _, _, h, _ => by cases h; exact RDs.nil
  | _ :: _, _, _, _, 0, h, k => by
    obtain ⟨v, r, rfl, h1, h2⟩ := h
    exact RDs.cons k h2
  | _ :: _, _, _, _, n + 1, h, k => by
    obtain ⟨v, r, rfl, h1, h2⟩ := h
    exact RDs.cons h1 (RDs.set n h2 k)
theorem RF.length : ∀ {fs : List (String × D)} {l : List (PySem.Str × V)}, RF K mg φ H fs l → l.length = fs.length
  | [], _, h => by cases h; rfl
  | (f, d) :: r, _, h => by
    obtain ⟨v, l', rfl, h1, h2⟩ := h
    simp [RF.length h2]
theorem RF.look : ∀ {fs : List (String × D)} {l : List (PySem.Str × V)} (f : String), RF K mg φ H fs l → match fs.lookup f with
    | some d => ∃ v, l.lookup (nm f) = some v ∧ RD K mg φ H d v
    | none => l.lookup (nm f) = none
  | [], _, f, h => by cases h; rfl
  | (g, d) :: r, _, f, h => by
    obtain ⟨v, l', rfl, h1, h2⟩ := h
    by_cases e : f = g
    · subst e
      simp only [List.lookup_cons, beq_self_eq_true]
      exact ⟨v, rfl, h1⟩
    · have e1 : (f == g) = false := by simpa using e
      have e2 : (nm f == nm g) = false := by
        rw [beq_eq_false_iff_ne]
        exact fun z => e (nm_inj z)
      simp only [List.lookup_cons, e1, e2]
      exact RF.look f h2
theorem RF.put : ∀ {fs : List (String × D)} {l : List (PySem.Str × V)} {f : String} {d : D} {v : V}, RF K mg φ H fs l → RD K mg φ H d v → RF K mg φ H (putF f d fs) (L2.putF (nm f) v l)
  | [], _, f, d, v, h, k => by
    cases h
    exact ⟨v, [], rfl, k, rfl⟩
  | (g, u) :: r, _, f, d, v, h, k => by
    obtain ⟨w, l', rfl, h1, h2⟩ := h
    by_cases e : g = f
    · subst e
      have : L2.putF (nm g) v ((nm g, w) :: l') = (nm g, v) :: l' := by
        show (if nm g = nm g then _ else _) = _
        rw [if_pos rfl]
      rw [this]
      show RF K mg φ H (if g = g then (g, d) :: r else _) _
      rw [if_pos rfl]
      exact ⟨v, l', rfl, k, h2⟩
    · have e2 : ¬ nm g = nm f := fun z => e (nm_inj z)
      have : L2.putF (nm f) v ((nm g, w) :: l') = (nm g, w) :: L2.putF (nm f) v l' := by
        show (if nm g = nm f then _ else _) = _
        rw [if_neg e2]
      rw [this]
      show RF K mg φ H (if g = f then _ else (g, u) :: putF f d r) _
      rw [if_neg e]
      exact ⟨w, _, rfl, h1, RF.put h2 k⟩
end
end Py
end

section
set_option Elab.async false
set_option linter.all false
set_option maxRecDepth 100000
set_option maxHeartbeats 2000000
set_option autoImplicit false
/-! The Py layer, part 3: the canonical readings; how they are put together. -/
namespace Py
open PySem L2
section
variable {K : PySem.W.Frag} {mg : PySem.Str → Option Value} {φ φ' φ'' : List Addr} {H H' H'' : Hp} {μ : Store}
/-! ### the heap's steps -/
theorem RO.ne {a : Addr} {o : MO} (h : RO K mg φ H a o) : H a ≠ none := by
  cases o with
  | lst ds => obtain ⟨vs, e, _⟩ := h; rw [e]; exact fun z => nomatch z
  | ins c fs => obtain ⟨C, dx, l, _, e, _⟩ := h; rw [e]; exact fun z => nomatch z
theorem RO.keep {a : Addr} {o : MO} (e : Ex φ H φ' H') (ha : H' a = H a) (h : RO K mg φ H a o) : RO K mg φ' H' a o := by
  cases o with
  | lst ds => obtain ⟨vs, q, r⟩ := h; exact ⟨vs, ha.trans q, RDs.mono e _ _ r⟩
  | ins c fs => obtain ⟨C, dx, l, g, q, r⟩ := h; exact ⟨C, dx, l, g, ha.trans q, RF.mono e _ _ r⟩
theorem Rep.get (R : Rep K mg φ μ H) {i : Nat} {a : Addr} (h : φ[i]? = some a) : ∃ o, μ[i]? = some o ∧ RO K mg φ H a o := by
  have hi : i < μ.length := by rw [← R.len]; exact (List.getElem?_eq_some_iff.mp h).1
  obtain ⟨a', h1, h2⟩ := R.at_ i _ (List.getElem?_eq_getElem hi)
  rw [h] at h1
  cases h1
  exact ⟨_, List.getElem?_eq_getElem hi, h2⟩
theorem Rep.fresh (R : Rep K mg φ μ H) {p : Addr} (h : H p = none) : p ∉ φ := fun hm => by
  obtain ⟨i, hi⟩ := List.getElem?_of_mem hm
  obtain ⟨o, _, q⟩ := R.get hi
  exact q.ne h
theorem Ex.new {p : Addr} {o : HO} (h : H p = none) : Ex φ H (φ ++ [p]) (upd H p o) :=
  ⟨List.prefix_append _ _, fun a xs e => by rw [upd_ne (ne_of_none e h)]; exact e, fun a o u e => by rw [upd_ne (ne_of_none e h)]; exact e⟩
theorem Ex.junk {p : Addr} {o : HO} (h : H p = none) : Ex φ H φ (upd H p o) :=
  ⟨List.prefix_refl _, fun a xs e => by rw [upd_ne (ne_of_none e h)]; exact e, fun a o u e => by rw [upd_ne (ne_of_none e h)]; exact e⟩
theorem Rep.junk (R : Rep K mg φ μ H) {p : Addr} {o : HO} (h : H p = none) : Rep K mg φ μ (upd H p o) :=
  ⟨R.nd, R.len, fun i x e => by
    obtain ⟨a, h1, h2⟩ := R.at_ i x e
    have ne : a ≠ p := fun z => R.fresh h (z ▸ List.mem_of_getElem? h1)
    exact ⟨a, h1, h2.keep (Ex.junk h) (upd_ne ne)⟩⟩
theorem Rep.new (R : Rep K mg φ μ H) {p : Addr} {o : HO} {x : MO} (h : H p = none) (hx : RO K mg (φ ++ [p]) (upd H p o) p x) : Rep K mg (φ ++ [p]) (μ ++ [x]) (upd H p o) := by
  refine ⟨?_, by simp [R.len], fun i y e => ?_⟩
  · rw [List.nodup_append]
    refine ⟨R.nd, by simp, fun a ha b hb z => ?_⟩
    simp at hb
    subst hb
    subst z
    exact R.fresh h ha
  · by_cases hi : i < μ.length
    · rw [List.getElem?_append_left hi] at e
      obtain ⟨a, h1, h2⟩ := R.at_ i y e
      have ne : a ≠ p := fun z => R.fresh h (z ▸ List.mem_of_getElem? h1)
      exact ⟨a, (Ex.new (o := o) h).get h1, h2.keep (Ex.new h) (upd_ne ne)⟩
    · have hi' : i = μ.length := by
        have := (List.getElem?_eq_some_iff.mp e).1
        simp at this
        omega
      subst hi'
      simp at e
      subst e
      refine ⟨p, ?_, hx⟩
      rw [← R.len]
      simp
/-- what is no tuple and not locked -/
def Loose : Option HO → Prop
  | some (.tup _) => False
  | some (.frz _ _) => False
  | _ => True
theorem Ex.put {a : Addr} {o : HO} (h : Loose (H a)) : Ex φ H φ (upd H a o) :=
  ⟨List.prefix_refl _, fun b xs e => by
    have ne : b ≠ a := fun z => by rw [← z, e] at h; exact h
    rw [upd_ne ne]; exact e, fun b o u e => by
    have ne : b ≠ a := fun z => by rw [← z, e] at h; exact h
    rw [upd_ne ne]; exact e⟩
theorem Rep.put (R : Rep K mg φ μ H) {i : Nat} {a : Addr} {o : HO} {x : MO} (hi : φ[i]? = some a) (h : Loose (H a)) (hx : RO K mg φ (upd H a o) a x) : Rep K mg φ (μ.set i x) (upd H a o) := by
  have hl : i < μ.length := by rw [← R.len]; exact (List.getElem?_eq_some_iff.mp hi).1
  refine ⟨R.nd, by simp [R.len], fun j y e => ?_⟩
  by_cases hj : i = j
  · subst hj
    rw [List.getElem?_set_self hl] at e
    cases e
    exact ⟨a, hi, hx⟩
  · rw [List.getElem?_set_ne hj] at e
    obtain ⟨b, h1, h2⟩ := R.at_ j y e
    have ne : b ≠ a := fun z => by
      subst z
      exact hj ((List.getElem?_inj ((List.getElem?_eq_some_iff.mp hi).1) R.nd).mp (hi.trans h1.symm))
    exact ⟨b, h1, h2.keep (Ex.put h) (upd_ne ne)⟩
end
/-! ### slots -/
section
variable (K : PySem.W.Frag) (mg : PySem.Str → Option Value)
structure RS (xs : Option (Nat × Addr)) (φ : List Addr) (H : Hp) (ρ : Env) (σ : L2.St) : Prop where
  len : σ.length = ρ.length
  exc : ∀ (i : Nat) (a : Addr), xs = some (i, a) → σ[i]? = some (some (.ref a))
  at_ : ∀ (i : Nat) (d : D), ρ[i]? = some (some d) → ∃ v, σ[i]? = some (some v) ∧ RD K mg φ H d v
end
section
variable {K : PySem.W.Frag} {mg : PySem.Str → Option Value} {φ φ' φ'' : List Addr} {H H' H'' : Hp} {μ : Store} {ρ : Env} {σ : L2.St} {xs : Option (Nat × Addr)}
theorem RS.mono (e : Ex φ H φ' H') (h : RS K mg xs φ H ρ σ) : RS K mg xs φ' H' ρ σ := ⟨h.len, h.exc, fun i d q => by
  obtain ⟨v, h1, h2⟩ := h.at_ i d q
  exact ⟨v, h1, RD.mono e _ _ h2⟩⟩
theorem RS.set (h : RS K mg xs φ H ρ σ) {i : Nat} {d : D} {v : V} (r : RD K mg φ H d v) (hx : xs.map (·.1) ≠ some i) : RS K mg xs φ H (ρ.set i (some d)) (σ.set i (some v)) := by
  refine ⟨by simp [h.len], fun j a q => ?_, fun j e q => ?_⟩
  · have ne : i ≠ j := fun z => by subst z; subst q; exact hx rfl
    rw [List.getElem?_set_ne ne]
    exact h.exc j a q
  by_cases hj : i = j
  · subst hj
    have hl : i < ρ.length := by
      have := (List.getElem?_eq_some_iff.mp q).1
      simpa using this
    rw [List.getElem?_set_self hl] at q
    cases q
    exact ⟨v, List.getElem?_set_self (by rw [h.len]; exact hl), r⟩
  · rw [List.getElem?_set_ne hj] at q
    obtain ⟨u, h1, h2⟩ := h.at_ j e q
    exact ⟨u, by rw [List.getElem?_set_ne hj]; exact h1, h2⟩
theorem RS.noex (h : RS K mg xs φ H ρ σ) : RS K mg none φ H ρ σ := ⟨h.len, (fun _ _ z => nomatch z), h.at_⟩
theorem RS.clear (h : RS K mg xs φ H ρ σ) {i : Nat} {o : Option V} : RS K mg none φ H (ρ.set i none) (σ.set i o) := by
  refine ⟨by simp [h.len], (fun _ _ z => nomatch z), fun j e q => ?_⟩
  by_cases hj : i = j
  · subst hj
    have hl : i < ρ.length := by
      have := (List.getElem?_eq_some_iff.mp q).1
      simpa using this
    rw [List.getElem?_set_self hl] at q
    cases q
  · rw [List.getElem?_set_ne hj] at q
    obtain ⟨u, h1, h2⟩ := h.at_ j e q
    exact ⟨u, by rw [List.getElem?_set_ne hj]; exact h1, h2⟩
end
/-! ### readings -/
/-- an exception's fields -/
def RX (K : PySem.W.Frag) (mg : PySem.Str → Option Value) (φ : List Addr) (H : Hp) (x : X) (cls : Value) (d : Option Addr) : Prop :=
  (∃ C, mg (nm x.cls) = some (.ref C) ∧ cls = .ref C) ∧ match x.fs with
    | [] => d = none
    | _ :: _ => ∃ a l, d = some a ∧ H a = some (.xd l) ∧ RF K mg φ H x.fs l
section
variable (K : PySem.W.Frag) (mg : PySem.Str → Option Value)
def post {α β : Type} (rel : List Addr → Hp → α → β → Prop) (W : WX) (r : R α) (φ : List Addr) (H : Hp) (σ : L2.St) (Q : β → Hp → Prop) : Prop := match r with
  | .ok a μ' => ∀ φ' H' b, Ex φ H φ' H' → Rep K mg φ' μ' H' → rel φ' H' a b → Q b H'
  | .err x μ' => ∀ φ' H' cls d, Ex φ H φ' H' → Rep K mg φ' μ' H' → RX K mg φ' H' x cls d → W cls d σ H'
  | .bad => False
def can (xs : Option (Nat × Addr)) {α β : Type} (rel : List Addr → Hp → α → β → Prop) (W : WX) (m : Env → Store → R α) : L2.St → Hp → (β → Hp → Prop) → Prop := fun σ H Q =>
  ∃ φ μ ρ, Rep K mg φ μ H ∧ RS K mg xs φ H ρ σ ∧ post K mg rel W (m ρ μ) φ H σ Q
def relB : List Addr → Hp → Bool → Bool → Prop := fun _ _ a b => b = a
abbrev canE (xs : Option (Nat × Addr)) (W : WX) (m : Env → Store → R D) : TE := can K mg xs (RD K mg) W m
abbrev canA (xs : Option (Nat × Addr)) (W : WX) (m : Env → Store → R (List D)) : TA := can K mg xs (RDs K mg) W m
abbrev canT (xs : Option (Nat × Addr)) (W : WX) (m : Env → Store → R Bool) : TT := can K mg xs relB W m
end
section
variable {K : PySem.W.Frag} {mg : PySem.Str → Option Value} {φ φ' φ'' : List Addr} {H H' H'' : Hp} {μ : Store} {ρ : Env} {σ : L2.St} {W : WX} {xs : Option (Nat × Addr)} {α β γ δ : Type} {rel : List Addr → Hp → α → β → Prop} {rel' : List Addr → Hp → γ → δ → Prop}
theorem post.mono {r : R α} {Q : β → Hp → Prop} (e : Ex φ H φ' H') (h : post K mg rel W r φ H σ Q) : post K mg rel W r φ' H' σ Q := by
  cases r with
  | ok a μ' => exact fun φ1 H1 b e1 => h φ1 H1 b (e.trans e1)
  | err x μ' => exact fun φ1 H1 c d e1 => h φ1 H1 c d (e.trans e1)
  | bad => exact h
theorem post.bind {r : R α} {f : α → Store → R γ} {Q : δ → Hp → Prop} (h : post K mg rel' W (r.bind f) φ H σ Q) :
    post K mg rel W r φ H σ fun b H1 => ∃ φ1 μ1 a, r = .ok a μ1 ∧ Ex φ H φ1 H1 ∧ Rep K mg φ1 μ1 H1 ∧ rel φ1 H1 a b ∧ post K mg rel' W (f a μ1) φ1 H1 σ Q := by
  cases r with
  | ok a μ' => exact fun φ1 H1 b e1 rep r => ⟨φ1, μ', a, rfl, e1, rep, r, post.mono e1 h⟩
  | err x μ' => exact h
  | bad => exact h
theorem post.imp {r : R α} {Q Q' : β → Hp → Prop} (h : post K mg rel W r φ H σ Q) (hq : ∀ b H1, Q b H1 → Q' b H1) : post K mg rel W r φ H σ Q' := by
  cases r with
  | ok a μ' => exact fun φ1 H1 b e1 rep q => hq _ _ (h φ1 H1 b e1 rep q)
  | err x μ' => exact h
  | bad => exact h
/-- the first of two -/
theorem can.bind {ma : Env → Store → R α} {f : α → Env → Store → R γ} {Q : δ → Hp → Prop} (h : can K mg xs rel' W (fun ρ μ => (ma ρ μ).bind fun a μ => f a ρ μ) σ H Q) :
    can K mg xs rel W ma σ H fun b H1 => ∃ φ1 μ1 ρ a, Rep K mg φ1 μ1 H1 ∧ RS K mg xs φ1 H1 ρ σ ∧ rel φ1 H1 a b ∧ post K mg rel' W (f a ρ μ1) φ1 H1 σ Q := by
  obtain ⟨φ, μ, ρ, rep, rs, p⟩ := h
  refine ⟨φ, μ, ρ, rep, rs, (post.bind (rel := rel) p).imp fun b H1 q => ?_⟩
  obtain ⟨φ1, μ1, a, _, e, rep1, r, p1⟩ := q
  exact ⟨φ1, μ1, ρ, a, rep1, rs.mono e, r, p1⟩
/-- a value that is there -/
theorem post.val {a : α} {b : β} {Q : β → Hp → Prop} (rep : Rep K mg φ μ H) (r : rel φ H a b) (h : post K mg rel W (.ok a μ) φ H σ Q) : Q b H := h φ H b Ex.refl rep r
end
/-! ### judgements of ours -/
section
variable (X : Cx)
/-- operators on values, at the slots -/
def OpC (f : Value → Value → Sem Value) (r : V → V → L2.St → Hp → VK → Prop) : Prop := ∀ (pins : List (Addr × Obj)) (s : Shared) (σ : L2.St) (H : Hp) (x y : V) (v u : Value) (Q : VK), Inv X pins σ H s → RelV x v → RelV y u → r x y σ H Q → wpAny (model X.prog X.w) X.A (f v u) (EP X pins σ Q) X.xe s
def UnC (f : Value → Sem Value) (r : V → L2.St → Hp → VK → Prop) : Prop := ∀ (pins : List (Addr × Obj)) (s : Shared) (σ : L2.St) (H : Hp) (x : V) (v : Value) (Q : VK), Inv X pins σ H s → RelV x v → r x σ H Q → wpAny (model X.prog X.w) X.A (f v) (EP X pins σ Q) X.xe s
def CallC (f : Value) (r : List V → L2.St → Hp → VK → Prop) : Prop := ∀ (pins : List (Addr × Obj)) (s : Shared) (σ : L2.St) (H : Hp) (xs : List V) (us : List Value) (Q : VK), Inv X pins σ H s → Vals xs us → r xs σ H Q → wpAny (model X.prog X.w) X.A (call f us) (EP X pins σ Q) X.xe s
def tOpC (r : V → V → L2.St → Hp → VK → Prop) (ta tb : TE) : TE := fun σ H Q => ta σ H fun x H1 => tb σ H1 fun y H2 => r x y σ H2 Q
/-- what two data give -/
def can2 (W : WX) (f : D → D → Store → R D) : V → V → L2.St → Hp → VK → Prop := fun x y σ H Q =>
  ∃ φ μ a b, Rep X.K X.mg φ μ H ∧ RD X.K X.mg φ H a x ∧ RD X.K X.mg φ H b y ∧ post X.K X.mg (RD X.K X.mg) W (f a b μ) φ H σ Q
def can1 (W : WX) (f : D → Store → R D) : V → L2.St → Hp → VK → Prop := fun x σ H Q =>
  ∃ φ μ a, Rep X.K X.mg φ μ H ∧ RD X.K X.mg φ H a x ∧ post X.K X.mg (RD X.K X.mg) W (f a μ) φ H σ Q
def canL (W : WX) (f : List D → Store → R D) : List V → L2.St → Hp → VK → Prop := fun xs σ H Q =>
  ∃ φ μ ds, Rep X.K X.mg φ μ H ∧ RDs X.K X.mg φ H ds xs ∧ post X.K X.mg (RD X.K X.mg) W (f ds μ) φ H σ Q
end
section
variable {X : Cx} {W : WX} {xs : Option (Nat × Addr)} {e a b c : Expr} {pos : Pos} {ta tb tc : TE}
theorem PE.imp {t t' : TE} (h : PE X e t) (i : ∀ σ H Q, t' σ H Q → t σ H Q) : PE X e t' := ⟨fun pins s σ H Q I q => h.run pins s σ H Q I (i σ H Q q)⟩
theorem PA.imp {es : List Expr} {t t' : TA} (h : PA X es t) (i : ∀ σ H Q, t' σ H Q → t σ H Q) : PA X es t' := ⟨fun pos pins s σ H Q I q => h.run pos pins s σ H Q I (i σ H Q q)⟩
theorem PT.imp {t t' : TT} (h : PT X e t) (i : ∀ σ H Q, t' σ H Q → t σ H Q) : PT X e t' := ⟨fun pins s σ H Q I q => h.run pins s σ H Q I (i σ H Q q)⟩
theorem PE.never : PE X e fun _ _ _ => False := ⟨fun _ _ _ _ _ _ q => q.elim⟩
theorem pe_opC {op : Operator} {r : V → V → L2.St → Hp → VK → Prop} (ho : OpC X (binaryOp op) r) (ha : PE X a ta) (hb : PE X b tb) : PE X (.BinOp a op b pos) (tOpC r ta tb) := by
  refine ⟨fun pins s σ H Q I h => ?_⟩
  refine wpAny_BinOp (bin ha hb I h fun v u s2 x y H2 I2 rx ry q => ?_)
  exact ho pins s2 σ H2 x y v u Q I2 rx ry q
/-- two data in a row, then what they give -/
theorem can_op {ma mb : Env → Store → R D} {f : D → D → Store → R D} {σ : L2.St} {H : Hp} {Q : VK}
    (h : canE X.K X.mg xs W (fun ρ μ => (ma ρ μ).bind fun x μ => (mb ρ μ).bind fun y μ => f x y μ) σ H Q) : tOpC (can2 X W f) (canE X.K X.mg xs W ma) (canE X.K X.mg xs W mb) σ H Q := by
  have h1 := can.bind (rel := RD X.K X.mg) (f := fun x ρ μ => (mb ρ μ).bind fun y μ => f x y μ) h
  obtain ⟨φ, μ, ρ, rep, rs, p⟩ := h1
  refine ⟨φ, μ, ρ, rep, rs, p.imp fun x H1 q => ?_⟩
  obtain ⟨φ1, μ1, ρ1, dx, rep1, rs1, rx, p1⟩ := q
  refine ⟨φ1, μ1, ρ1, rep1, rs1, (post.bind (rel := RD X.K X.mg) p1).imp fun y H2 q2 => ?_⟩
  obtain ⟨φ2, μ2, dy, _, e2, rep2, ry, p2⟩ := q2
  exact ⟨φ2, μ2, dx, dy, rep2, RD.mono e2 _ _ rx, ry, p2⟩
/-- the same, met by any rule -/
theorem can_opr {ma mb : Env → Store → R D} {f : D → D → Store → R D} {r : R2} {σ : L2.St} {H : Hp} {Q : VK} (i : ∀ x y H Q, can2 X W f x y σ H Q → r x y H Q)
    (h : canE X.K X.mg xs W (fun ρ μ => (ma ρ μ).bind fun x μ => (mb ρ μ).bind fun y μ => f x y μ) σ H Q) : tOp r (canE X.K X.mg xs W ma) (canE X.K X.mg xs W mb) σ H Q := by
  have h1 := can.bind (rel := RD X.K X.mg) (f := fun x ρ μ => (mb ρ μ).bind fun y μ => f x y μ) h
  obtain ⟨φ, μ, ρ, rep, rs, p⟩ := h1
  refine ⟨φ, μ, ρ, rep, rs, p.imp fun x H1 q => ?_⟩
  obtain ⟨φ1, μ1, ρ1, dx, rep1, rs1, rx, p1⟩ := q
  refine ⟨φ1, μ1, ρ1, rep1, rs1, (post.bind (rel := RD X.K X.mg) p1).imp fun y H2 q2 => i _ _ _ _ ?_⟩
  obtain ⟨φ2, μ2, dy, _, e2, rep2, ry, p2⟩ := q2
  exact ⟨φ2, μ2, dx, dy, rep2, RD.mono e2 _ _ rx, ry, p2⟩
/-- one datum, then what it gives -/
theorem can_bind1 {ma : Env → Store → R D} {f : D → Store → R D} {σ : L2.St} {H : Hp} {Q : VK} {r : V → Hp → VK → Prop} (i : ∀ x H Q, can1 X W f x σ H Q → r x H Q)
    (h : canE X.K X.mg xs W (fun ρ μ => (ma ρ μ).bind fun x μ => f x μ) σ H Q) : canE X.K X.mg xs W ma σ H fun x H1 => r x H1 Q := by
  obtain ⟨φ, μ, ρ, rep, rs, p⟩ := h
  refine ⟨φ, μ, ρ, rep, rs, (post.bind (rel := RD X.K X.mg) p).imp fun x H1 q => i _ _ _ ?_⟩
  obtain ⟨φ1, μ1, dx, _, e1, rep1, rx, p1⟩ := q
  exact ⟨φ1, μ1, dx, rep1, rx, p1⟩
theorem can_bindL {ma : Env → Store → R (List D)} {f : List D → Store → R D} {σ : L2.St} {H : Hp} {Q : VK} {r : List V → Hp → VK → Prop} (i : ∀ x H Q, canL X W f x σ H Q → r x H Q)
    (h : canE X.K X.mg xs W (fun ρ μ => (ma ρ μ).bind fun x μ => f x μ) σ H Q) : canA X.K X.mg xs W ma σ H fun x H1 => r x H1 Q := by
  obtain ⟨φ, μ, ρ, rep, rs, p⟩ := h
  refine ⟨φ, μ, ρ, rep, rs, (post.bind (rel := RDs X.K X.mg) p).imp fun x H1 q => i _ _ _ ?_⟩
  obtain ⟨φ1, μ1, dx, _, e1, rep1, rx, p1⟩ := q
  exact ⟨φ1, μ1, dx, rep1, rx, p1⟩
theorem OpC.of {f : Value → Value → Sem Value} {r : R2} {r' : V → V → L2.St → Hp → VK → Prop} (h : OpR X f r) (i : ∀ x y σ H Q, r' x y σ H Q → r x y H Q) : OpC X f r' := fun pins s σ H x y v u Q I rx ry q => h pins s σ H x y v u Q I rx ry (i x y σ H Q q)
end
end Py
end

section
set_option Elab.async false
set_option linter.all false
set_option maxRecDepth 100000
set_option maxHeartbeats 2000000
set_option autoImplicit false
/-! The Py layer, part 4: operators, subscripts, built-ins on values. -/
namespace Py
open PySem L2
def BO.op : BO → Operator
  | .add => .Add | .sub => .Sub | .mul => .Mult | .fdiv => .FloorDiv | .mod => .Mod | .pow => .Pow | .bitand => .BitAnd | .bitor => .BitOr | .shr => .RShift
def UO.op : UO → UnaryOp
  | .neg => .USub | .inv => .Invert
def CO.op : CO → CmpOp
  | .eq => .Eq | .ne => .NotEq | .lt => .Lt | .le => .LtE | .gt => .Gt | .ge => .GtE | .is_ => .Is | .isn => .IsNot | .in_ => .In | .nin => .NotIn
theorem line_eq : line = sizeLine := sizeLine_eq.symm
@[simp] theorem stS_len (s : S) : (stS s).length = s.length := by
  show s.toArray.size = s.length
  simp
theorem stS_app (s t : S) : stS s ++ stS t = stS (s ++ t) := by
  show (⟨s.toArray ++ t.toArray⟩ : PySem.Str) = ⟨(s ++ t).toArray⟩
  simp
@[simp] theorem stS_list (s : S) : (stS s).cps.toList = s := rfl
theorem okMul_ok {i j : Int} (h : okMul i j = true) : CMul i j := by
  simpa [okMul, CMul] using h
section
variable {X : Cx} {W : WX}
variable {K : PySem.W.Frag} {mg : PySem.Str → Option Value} {φ : List Addr} {H : Hp} {μ : Store}
/-- str * int -/
theorem op_mul_str : OpR X (binaryOp .Mult) (fun x y H Q => ∃ (z : S) (j : Int), x = .str (stS z) ∧ y = .int j ∧ 0 ≤ j ∧ j ≤ 1000 ∧ z.length ≤ 1000 ∧ Q (.str (stS (List.replicate j.toNat z).flatten)) H) := by
  intro pins s σ H x y v u Q I rx ry h
  obtain ⟨z, j, rfl, rfl, h0, h1, h2, q⟩ := h
  obtain ⟨t, rfl⟩ := rx
  obtain ⟨t', rfl⟩ := ry
  have hl : (stS z).length = z.length := stS_len z
  have fin : ∀ (tk : Tok) (tks : Nat), EP X pins σ Q (.str (stS (List.replicate j.toNat z).flatten) tk) { s with toks := tks } := fun tk tks => ⟨.str (stS (List.replicate j.toNat z).flatten), H, I.tok _, ⟨tk, rfl⟩, q⟩
  have fin0 : ∀ (tk : Tok), EP X pins σ Q (.str (stS (List.replicate j.toNat z).flatten) tk) s := fun tk => ⟨.str (stS (List.replicate j.toNat z).flatten), H, I, ⟨tk, rfl⟩, q⟩
  have big : z.length * j.toNat ≤ 1000000 := by
    have : j.toNat ≤ 1000 := by omega
    calc z.length * j.toNat ≤ 1000 * 1000 := Nat.mul_le_mul h2 this
      _ = 1000000 := rfl
  refine PySem.P.mul_str ?_ ?_ ?_ ?_
  · simp only [Bool.or_eq_false_iff, decide_eq_false_iff_not]
    omega
  · intro hn _
    rw [hl]
    have h3 : (z.length : Int) ≤ (2 ^ 63 - 1) / j := by
      rw [Int.le_ediv_iff_mul_le (by omega)]
      have : (z.length : Int) * j ≤ 1000 * 1000 := Int.mul_le_mul (by omega) h1 h0 (by omega)
      omega
    omega
  · intro _ _
    rw [hl]
    show PySem.Builtin.Str.tooLong (z.length * j.toNat) = false
    unfold PySem.Builtin.Str.tooLong
    simp only [decide_eq_false_iff_not, gt_iff_lt, Nat.not_lt]
    first | omega | (rw [sizeLine_eq]; omega)
  · by_cases hn : j < 1
    · rw [if_pos hn]
      have e : j.toNat = 0 := by omega
      refine ⟨by decide, ?_⟩
      have := fin (s.toks : Tok) (s.toks + 1)
      rw [e] at this
      exact this
    · rw [if_neg hn]
      by_cases hb : (j == 1 || (stS z).length == 0) = true
      · rw [if_pos hb]
        show EP X pins σ Q (.str (stS z) t) s
        have e : (List.replicate j.toNat z).flatten = z := by
          simp only [Bool.or_eq_true, beq_iff_eq] at hb
          rcases hb with hb | hb
          · subst hb
            simp
          · rw [hl] at hb
            rw [List.length_eq_zero_iff.mp hb]
            simp
        have := fin0 t
        rw [e] at this
        exact this
      · rw [if_neg hb]
        have e : (⟨(List.replicate j.toNat (stS z).cps).foldl (· ++ ·) #[]⟩ : PySem.Str) = stS (List.replicate j.toNat z).flatten := by
          have g : ∀ (n : Nat) (acc : List Nat), (List.replicate n (stS z).cps).foldl (· ++ ·) acc.toArray = (acc ++ (List.replicate n z).flatten).toArray := by
            intro n
            induction n with
            | zero => intro acc; simp
            | succ n ih =>
              intro acc
              rw [List.replicate_succ, List.foldl_cons]
              have : acc.toArray ++ (stS z).cps = (acc ++ z).toArray := by simp [stS]
              rw [this, ih, List.replicate_succ, List.flatten_cons, List.append_assoc]
          have := g j.toNat []
          simp only [List.nil_append] at this
          rw [show stS (List.replicate j.toNat z).flatten = ⟨(List.replicate j.toNat z).flatten.toArray⟩ from rfl, ← this]
        rw [e]
        refine ⟨?_, fin _ _⟩
        rw [stS_len, List.length_flatten]
        simp only [List.map_replicate, List.sum_replicate_nat]
        first | omega | (rw [sizeLine_eq]; rw [Nat.mul_comm]; omega)
theorem Rep.mut (R : Rep K mg φ μ H) {i : Nat} {ds : List D} (h : lstOf μ i = some ds) : ∃ a vs, φ[i]? = some a ∧ H a = some (.lst vs) ∧ RDs K mg φ H ds vs := by
  unfold lstOf at h
  split at h
  · rename_i es e
    cases h
    obtain ⟨a, h1, vs, h2, h3⟩ := R.at_ i _ e
    exact ⟨a, vs, h1, h2, h3⟩
  · cases h
theorem RDs.rep {ds : List D} {vs : List V} (h : RDs K mg φ H ds vs) : ∀ n : Nat, RDs K mg φ H (List.replicate n ds).flatten (List.replicate n vs).flatten
  | 0 => RDs.nil
  | n + 1 => by
    rw [List.replicate_succ, List.replicate_succ, List.flatten_cons, List.flatten_cons]
    exact RDs.append h (RDs.rep h n)
/-- a new list -/
theorem new_lst {Q : VK} {σ : L2.St} {ds : List D} {vs : List V} (rep : Rep K mg φ μ H) (rds : RDs K mg φ H ds vs) (p : post K mg (RD K mg) W (.ok (.obj μ.length) (μ ++ [.lst ds])) φ H σ Q) : ∀ a, H a = none → Q (.ref a) (upd H a (.lst vs)) := by
  intro a ha
  have e : Ex φ H (φ ++ [a]) (upd H a (.lst vs)) := Ex.new ha
  have rep2 : Rep K mg (φ ++ [a]) (μ ++ [.lst ds]) (upd H a (.lst vs)) := rep.new ha ⟨vs, upd_same, RDs.mono e _ _ rds⟩
  have hat : (φ ++ [a])[μ.length]? = some a := by rw [← rep.len]; simp
  exact p (φ ++ [a]) (upd H a (.lst vs)) (.ref a) e rep2 ⟨a, hat, rfl⟩
theorem op_bin (o : BO) : OpC X (binaryOp o.op) (can2 X W (bop o)) := by
  intro pins s σ H x y v u Q I rx ry h
  obtain ⟨φ, μ, a, b, rep, ra, rb, p⟩ := h
  unfold bop at p
  split at p
  · cases ra; cases rb
    exact op_add pins s σ H _ _ v u Q I rx ry ⟨_, _, rfl, rfl, p.val rep rfl⟩
  · cases ra; cases rb
    split at p
    · rename_i hz
      refine op_add_str pins s σ H _ _ v u Q I rx ry ⟨_, _, rfl, rfl, by rw [stS_len, stS_len, ← line_eq]; exact hz, ?_⟩
      rw [stS_app]
      exact p.val rep rfl
    · exact p.elim
  · split at p
    · rename_i e1 e2
      obtain ⟨l, vs, g1, g2, g3⟩ := rep.mut e1
      obtain ⟨l', vs', g1', g2', g3'⟩ := rep.mut e2
      obtain ⟨q, z1, rfl⟩ := ra
      obtain ⟨q', z2, rfl⟩ := rb
      rw [g1] at z1; cases z1
      rw [g1'] at z2; cases z2
      split at p
      · rename_i hl
        exact op_cat pins s σ H _ _ v u Q I rx ry ⟨_, _, _, _, rfl, rfl, g2, g2', by rw [g3.length, g3'.length, ← line_eq]; exact hl, new_lst rep (RDs.append g3 g3') p⟩
      · exact p.elim
    · exact p.elim
  · split at p
    · rename_i da db hl
      obtain ⟨a1, vs, rfl, g1, g2⟩ := ra
      obtain ⟨a2, us, rfl, g3, g4⟩ := rb
      refine op_catT pins s σ H _ _ v u Q I rx ry ⟨_, _, _, _, rfl, rfl, g1, g3, ?_, by rw [g2.length, g4.length, ← line_eq]; exact hl.2, ?_, ?_⟩
      · intro z
        have e := g2.length
        rw [z] at e
        have e2 := List.length_eq_zero_iff.mp e.symm
        rw [e2] at hl
        exact absurd hl.1 (by decide)
      · intro z
        have e := g4.length
        rw [z] at e
        have e2 := List.length_eq_zero_iff.mp e.symm
        rw [e2, List.append_nil] at p
        exact p.val rep ⟨_, _, rfl, g1, g2⟩
      · intro _ q hq
        exact p φ _ _ (Ex.junk hq) (rep.junk hq) ⟨q, _, rfl, .inl (.inl upd_same), RDs.mono (Ex.junk hq) _ _ (RDs.append g2 g4)⟩
    · exact p.elim
  · cases ra; cases rb
    exact op_sub pins s σ H _ _ v u Q I rx ry ⟨_, _, rfl, rfl, p.val rep rfl⟩
  · cases ra; cases rb
    split at p
    · rename_i hz
      exact op_mul pins s σ H _ _ v u Q I rx ry ⟨_, _, rfl, rfl, okMul_ok hz, p.val rep rfl⟩
    · exact p.elim
  · split at p
    · rename_i e1
      obtain ⟨l, vs, g1, g2, g3⟩ := rep.mut e1
      obtain ⟨q, z1, rfl⟩ := ra
      rw [g1] at z1; cases z1
      cases rb
      rename_i jj _ _
      split at p
      · rename_i hl
        have hm : ∀ (a b : Nat), a ≤ 1000 → b ≤ 1000 → a * b ≤ 1000000 := fun a b h1 h2 => Nat.mul_le_mul h1 h2
        refine op_rep pins s σ H _ _ v u Q I rx ry ⟨_, _, _, rfl, rfl, g2, by omega, by omega, ?_, new_lst rep (g3.rep _) p⟩
        rw [g3.length]
        have h1 := hm _ _ hl.2.2 (show jj.toNat ≤ 1000 by omega)
        first | omega | (rw [sizeLine_eq]; omega)
      · exact p.elim
    · exact p.elim
  · cases ra; cases rb
    split at p
    · rename_i hz
      exact op_mul_str pins s σ H _ _ v u Q I rx ry ⟨_, _, rfl, rfl, hz.1, hz.2.1, hz.2.2, p.val rep rfl⟩
    · exact p.elim
  · cases ra; cases rb
    split at p
    · rename_i hz
      exact op_fdivN pins s σ H _ _ v u Q I rx ry ⟨_, _, rfl, rfl, hz, p.val rep rfl⟩
    · exact p.elim
  · cases ra; cases rb
    split at p
    · rename_i hz
      exact op_modN pins s σ H _ _ v u Q I rx ry ⟨_, _, rfl, rfl, hz, p.val rep rfl⟩
    · exact p.elim
  · cases ra; cases rb
    split at p
    · rename_i hz
      exact op_pow pins s σ H _ _ v u Q I rx ry ⟨_, _, rfl, rfl, hz, p.val rep rfl⟩
    · exact p.elim
  · exact p.elim
/-! ### == -/
mutual
def toPy : D → PyData
  | .non => .none
  | .bl b => .bool b
  | .int i => .int i
  | .str s => .str (stS s)
  | .tup ds => .tuple (toPys ds)
  | _ => .none
def toPys : List D → List PyData
  | [] => []
  | d :: ds => toPy d :: toPys ds
end
theorem okS_ok {s : S} (h : okS s = true) : PyData.strOk (stS s) = true := by
  unfold PyData.strOk
  have e : (stS s).cps.all (fun x => decide (x < 0x110000)) = s.all fun x => decide (x < 1114112) := by simp [stS]
  rw [e]
  exact h
mutual
theorem plain_dp : ∀ (n : Nat) (d : D) (v : V), D.plain n d = true → RD K mg φ H d v → Dp K H v (toPy d) ∧ PyData.canLay0 (toPy d) = true ∧ PyData.depth (toPy d) ≤ n
  | _, .non, _, _, h => by cases h; exact ⟨.non, rfl, Nat.zero_le _⟩
  | _, .bl b, _, _, h => by cases h; exact ⟨.bl b, rfl, Nat.zero_le _⟩
  | _, .int i, _, _, h => by cases h; exact ⟨.int i, rfl, Nat.zero_le _⟩
  | n, .str s, _, p, h => by
    cases h
    have q : okS s = true := by
      cases n <;> (simp only [D.plain, Bool.and_eq_true] at p; exact p.1)
    exact ⟨.str _, okS_ok q, Nat.zero_le _⟩
  | n + 1, .tup ds, _, p, h => by
    obtain ⟨a, vs, rfl, h1, h2⟩ := h
    obtain ⟨q1, q2, q3⟩ := plains_dp n ds vs p h2
    exact ⟨.tup h1 q1, q2, Nat.succ_le_succ q3⟩
theorem plains_dp : ∀ (n : Nat) (ds : List D) (vs : List V), D.plains n ds = true → RDs K mg φ H ds vs → DpAll K H vs (toPys ds) ∧ PyData.canLayAll0 (toPys ds) = true ∧ PyData.depthAll (toPys ds) ≤ n
  | _, [], _, _, h => by cases h; exact ⟨.nil, rfl, Nat.zero_le _⟩
  | n, d :: ds, _, p, h => by
    obtain ⟨v, r, rfl, h1, h2⟩ := h
    simp only [D.plains, Bool.and_eq_true] at p
    obtain ⟨a1, a2, a3⟩ := plain_dp n d v p.1 h1
    obtain ⟨b1, b2, b3⟩ := plains_dp n ds r p.2 h2
    refine ⟨.cons a1 b1, ?_, ?_⟩
    · show (PyData.canLay0 (toPy d) && PyData.canLayAll0 (toPys ds)) = true
      rw [a2, b2]; rfl
    · show max (PyData.depth (toPy d)) (PyData.depthAll (toPys ds)) ≤ n
      exact Nat.max_le.mpr ⟨a3, b3⟩
end
theorem stS_beq (s t : S) : (stS s == stS t) = (s == t) := by
  rw [Bool.eq_iff_iff]
  simp only [beq_iff_eq]
  constructor
  · intro h
    have := congrArg PySem.Str.cps h
    simpa [stS] using this
  · rintro rfl; rfl
mutual
theorem eqv_py : ∀ (n : Nat) (a b : D), D.plain n a = true → D.plain n b = true → PyData.eqv (toPy a) (toPy b) = D.eqv a b
  | n, .str s, .str t, _, _ => by
    show (stS s == stS t) = (s == t)
    exact stS_beq s t
  | n + 1, .tup ds, .tup es, p, q => eqvs_py n ds es p q
  | _, .non, .non, _, _ => rfl
  | _, .non, .bl _, _, _ => rfl
  | _, .non, .int _, _, _ => rfl
  | _, .non, .str _, _, _ => rfl
  | _, .non, .tup _, _, _ => rfl
  | _, .bl _, .non, _, _ => rfl
  | _, .bl _, .bl _, _, _ => rfl
  | _, .bl _, .int _, _, _ => rfl
  | _, .bl _, .str _, _, _ => rfl
  | _, .bl _, .tup _, _, _ => rfl
  | _, .int _, .non, _, _ => rfl
  | _, .int _, .bl _, _, _ => rfl
  | _, .int _, .int _, _, _ => rfl
  | _, .int _, .str _, _, _ => rfl
  | _, .int _, .tup _, _, _ => rfl
  | _, .str _, .non, _, _ => rfl
  | _, .str _, .bl _, _, _ => rfl
  | _, .str _, .int _, _, _ => rfl
  | _, .str _, .tup _, _, _ => rfl
  | _, .tup _, .non, _, _ => rfl
  | _, .tup _, .bl _, _, _ => rfl
  | _, .tup _, .int _, _, _ => rfl
  | _, .tup _, .str _, _, _ => rfl
theorem eqvs_py : ∀ (n : Nat) (a b : List D), D.plains n a = true → D.plains n b = true → PyData.eqvAll (toPys a) (toPys b) = D.eqvs a b
  | _, [], [], _, _ => rfl
  | _, [], _ :: _, _, _ => rfl
  | _, _ :: _, [], _, _ => rfl
  | n, d :: ds, e :: es, p, q => by
    simp only [D.plains, Bool.and_eq_true] at p q
    show (PyData.eqv (toPy d) (toPy e) && PyData.eqvAll (toPys ds) (toPys es)) = (D.eqv d e && D.eqvs ds es)
    rw [eqv_py n d e p.1 q.1, eqvs_py n ds es p.2 q.2]
end
theorem Rep.list (R : Rep K mg φ μ H) {i : Nat} {ds : List D} (h : lstOf μ i = some ds) : ∃ a vs, φ[i]? = some a ∧ SqL K H a vs ∧ RDs K mg φ H ds vs := by
  unfold lstOf at h
  split at h
  · rename_i es e
    cases h
    obtain ⟨a, h1, vs, h2, h3⟩ := R.at_ i _ e
    exact ⟨a, vs, h1, .inl (.inl h2), h3⟩
  · cases h
/-- the datum of a list of plain things, of a plain thing -/
theorem eqD_dp {a b : D} {x y : V} {k : Bool} {μ' : Store} (R : Rep K mg φ μ H) (ra : RD K mg φ H a x) (rb : RD K mg φ H b y) (h : eqD a b μ = .ok k μ') :
    μ' = μ ∧ ∃ d e, Dp K H x d ∧ Dp K H y e ∧ SeqAt.shaped d = true ∧ SeqAt.shaped e = true ∧ PyData.eqv d e = k := by
  have sh : ∀ d : PyData, PyData.canLay0 d = true → PyData.depth d ≤ 61 → SeqAt.shaped d = true := fun d h1 h2 => by
    unfold SeqAt.shaped
    rw [h1, decide_eq_true (show d.depth ≤ 64 by omega)]
    rfl
  unfold eqD at h
  split at h
  · rename_i i j
    split at h
    · rename_i ds es e1 e2
      split at h
      · rename_i hp
        cases h
        simp only [Bool.and_eq_true] at hp
        obtain ⟨p, vs, h1, h2, h3⟩ := R.list e1
        obtain ⟨q, us, g1, g2, g3⟩ := R.list e2
        obtain ⟨p', z1, rfl⟩ := ra
        obtain ⟨q', z2, rfl⟩ := rb
        rw [h1] at z1; cases z1
        rw [g1] at z2; cases z2
        obtain ⟨a1, a2, a3⟩ := plains_dp 60 ds vs hp.1 h3
        obtain ⟨b1, b2, b3⟩ := plains_dp 60 es us hp.2 g3
        refine ⟨rfl, .list (toPys ds), .list (toPys es), .lst h2 a1, .lst g2 b1, sh _ a2 ?_, sh _ b2 ?_, eqvs_py 60 ds es hp.1 hp.2⟩
        · show PyData.depthAll (toPys ds) + 1 ≤ 61; omega
        · show PyData.depthAll (toPys es) + 1 ≤ 61; omega
      · cases h
    · cases h
  · split at h
    · rename_i hp
      cases h
      simp only [Bool.and_eq_true] at hp
      obtain ⟨a1, a2, a3⟩ := plain_dp 60 a x hp.1 ra
      obtain ⟨b1, b2, b3⟩ := plain_dp 60 b y hp.2 rb
      exact ⟨rfl, _, _, a1, b1, sh _ a2 (by omega), sh _ b2 (by omega), eqv_py 60 a b hp.1 hp.2⟩
    · cases h
theorem eqD_noerr {a b : D} {z : Py.X} {μ' : Store} : eqD a b μ ≠ .err z μ' := by
  unfold eqD
  intro h
  split at h
  · split at h
    · split at h <;> cases h
    · cases h
  · split at h <;> cases h
theorem isNon_ok {d : D} {v : V} (h : RD K mg φ H d v) (ha : isAble d = true) : decide (v = .non) = isNon d := by
  cases d with
  | non => cases h; rfl
  | bl b => cases h; rfl
  | int i => cases h; rfl
  | str s => cases h; rfl
  | tup ds => obtain ⟨a, vs, rfl, _⟩ := h; rfl
  | obj i => obtain ⟨a, _, rfl⟩ := h; rfl
  | cls c => obtain ⟨a, _, rfl⟩ := h; rfl
  | ty n => cases h; rfl
  | fz ds => obtain ⟨a, vs, rfl, _⟩ := h; rfl
  | opq => cases ha
theorem isNon_eq {d : D} {v : V} (h : RD K mg φ H d v) (hn : isNon d = true) : v = .non := by
  cases d with
  | non => exact h
  | _ => cases hn
theorem flat_ok {d : D} {v : V} (h : RD K mg φ H d v) (hf : flat d = true) : flatV v = true := by
  cases d with
  | non => cases h; rfl
  | bl b => cases h; rfl
  | int i => cases h; rfl
  | str s => cases h; rfl
  | _ => cases hf
theorem flats_ok : ∀ {ds : List D} {vs : List V}, RDs K mg φ H ds vs → ds.all flat = true → vs.all flatV = true
  | [], _, h, _ => by cases h; rfl
  | d :: ds, _, h, hf => by
    obtain ⟨v, r, rfl, h1, h2⟩ := h
    simp only [List.all_cons, Bool.and_eq_true] at hf ⊢
    exact ⟨flat_ok h1 hf.1, flats_ok h2 hf.2⟩
theorem eqV_ok {d e : D} {v u : V} (h : RD K mg φ H d v) (k : RD K mg φ H e u) (hd : flat d = true) (he : flat e = true) : eqV v u = D.eqv d e := by
  cases d <;> first | cases hd | skip
  all_goals cases h
  all_goals (cases e <;> first | cases he | skip)
  all_goals cases k
  all_goals first | rfl | exact stS_beq _ _
theorem inV_ok {e : D} {u : V} (k : RD K mg φ H e u) (he : flat e = true) : ∀ {ds : List D} {vs : List V}, RDs K mg φ H ds vs → ds.all flat = true → inV u vs = ds.any fun d => D.eqv d e
  | [], _, h, _ => by cases h; rfl
  | d :: ds, _, h, hf => by
    obtain ⟨v, r, rfl, h1, h2⟩ := h
    simp only [List.all_cons, Bool.and_eq_true] at hf
    have ih := inV_ok k he h2 hf.2
    unfold inV at ih ⊢
    simp only [List.any_cons]
    rw [ih, eqV_ok h1 k hf.1 he]
theorem inD_ok {a b : D} {x y : V} {k : Bool} {μ' : Store} (R : Rep K mg φ μ H) (ra : RD K mg φ H a x) (rb : RD K mg φ H b y) (h : inD a b μ = .ok k μ') :
    μ' = μ ∧ ((∃ (c : Nat) (z : S), x = .str (stS [c]) ∧ y = .str (stS z) ∧ decide (c ∈ z) = k) ∨ ∃ p vs, y = .ref p ∧ (SqL K H p vs ∨ SqT K H p vs) ∧ flatV x = true ∧ vs.all flatV = true ∧ inV x vs = k) := by
  unfold inD at h
  split at h
  · cases h
    cases ra; cases rb
    exact ⟨rfl, .inl ⟨_, _, rfl, rfl, rfl⟩⟩
  · split at h
    · rename_i ds e
      split at h
      · rename_i hp
        cases h
        simp only [Bool.and_eq_true] at hp
        refine ⟨rfl, .inr ?_⟩
        unfold itemsOf at e
        split at e
        · cases e
          obtain ⟨p, vs, rfl, h1, h2⟩ := rb
          exact ⟨p, vs, rfl, .inr h1, flat_ok ra hp.1, flats_ok h2 hp.2, inV_ok ra hp.1 h2 hp.2⟩
        · obtain ⟨p, vs, h1, h2, h3⟩ := R.list e
          obtain ⟨p', z, rfl⟩ := rb
          rw [h1] at z; cases z
          exact ⟨p, vs, rfl, .inl h2, flat_ok ra hp.1, flats_ok h3 hp.2, inV_ok ra hp.1 h3 hp.2⟩
        · cases e
      · cases h
    · cases h
theorem inD_noerr {a b : D} {z : Py.X} {μ' : Store} : inD a b μ ≠ .err z μ' := by
  unfold inD
  intro h
  split at h
  · cases h
  · split at h
    · split at h <;> cases h
    · cases h
theorem op_cop (hu : X.A.units + 64 < cLine) (o : CO) : OpC X (compareOp o.op) (can2 X W (cop o)) := by
  intro pins s σ H x y v u Q I rx ry h
  obtain ⟨φ, μ, a, b, rep, ra, rb, p⟩ := h
  unfold cop at p
  split at p
  · cases e : eqD a b μ with
    | bad => rw [e] at p; exact p.elim
    | err z μ' => exact (eqD_noerr e).elim
    | ok k μ' =>
      rw [e] at p
      obtain ⟨rfl, d, d', h1, h2, h3, h4, h5⟩ := eqD_dp rep ra rb e
      exact op_eqD hu pins s σ H _ _ v u Q I rx ry ⟨d, d', h1, h2, h3, h4, by rw [h5]; exact p.val rep rfl⟩
  · cases e : eqD a b μ with
    | bad => rw [e] at p; exact p.elim
    | err z μ' => exact (eqD_noerr e).elim
    | ok k μ' =>
      rw [e] at p
      obtain ⟨rfl, d, d', h1, h2, h3, h4, h5⟩ := eqD_dp rep ra rb e
      exact op_neD hu pins s σ H _ _ v u Q I rx ry ⟨d, d', h1, h2, h3, h4, by rw [h5]; exact p.val rep rfl⟩
  · split at p
    · cases ra; cases rb
      exact op_lt pins s σ H _ _ v u Q I rx ry ⟨_, _, rfl, rfl, p.val rep rfl⟩
    · exact p.elim
  · split at p
    · cases ra; cases rb
      exact op_le pins s σ H _ _ v u Q I rx ry ⟨_, _, rfl, rfl, p.val rep rfl⟩
    · exact p.elim
  · split at p
    · cases ra; cases rb
      exact op_gt pins s σ H _ _ v u Q I rx ry ⟨_, _, rfl, rfl, p.val rep rfl⟩
    · exact p.elim
  · split at p
    · cases ra; cases rb
      exact op_ge pins s σ H _ _ v u Q I rx ry ⟨_, _, rfl, rfl, p.val rep rfl⟩
    · exact p.elim
  · split at p
    · rename_i hp
      simp only [Bool.and_eq_true] at hp
      exact op_isN pins s σ H _ _ v u Q I rx ry ⟨isNon_eq rb hp.1, by rw [isNon_ok ra hp.2]; exact p.val rep rfl⟩
    · exact p.elim
  · split at p
    · rename_i hp
      simp only [Bool.and_eq_true] at hp
      exact op_notN pins s σ H _ _ v u Q I rx ry ⟨isNon_eq rb hp.1, by rw [isNon_ok ra hp.2]; exact p.val rep rfl⟩
    · exact p.elim
  · cases e : inD a b μ with
    | bad => rw [e] at p; exact p.elim
    | err z μ' => exact (inD_noerr e).elim
    | ok k μ' =>
      rw [e] at p
      obtain ⟨rfl, ⟨c, z, rfl, rfl, h1⟩ | ⟨q, vs, rfl, h1, h2, h3, h4⟩⟩ := inD_ok rep ra rb e
      · exact op_in_sign pins s σ H _ _ v u Q I rx ry ⟨c, stS z, rfl, rfl, by rw [stS_list, h1]; exact p.val rep rfl⟩
      · exact op_in_seq pins s σ H _ _ v u Q I rx ry ⟨q, vs, rfl, h1, h2, h3, by rw [h4]; exact p.val rep rfl⟩
  · cases e : inD a b μ with
    | bad => rw [e] at p; exact p.elim
    | err z μ' => exact (inD_noerr e).elim
    | ok k μ' =>
      rw [e] at p
      obtain ⟨rfl, ⟨c, z, rfl, rfl, h1⟩ | ⟨q, vs, rfl, h1, h2, h3, h4⟩⟩ := inD_ok rep ra rb e
      · exact op_notIn_sign pins s σ H _ _ v u Q I rx ry ⟨c, stS z, rfl, rfl, by rw [stS_list, h1]; exact p.val rep rfl⟩
      · exact op_notIn_seq pins s σ H _ _ v u Q I rx ry ⟨q, vs, rfl, h1, h2, h3, by rw [h4]; exact p.val rep rfl⟩
theorem decS_eq (i : Int) : stS (decS i) = PySem.Str.ofString (toString i) := by
  show (⟨((toString i).toList.map Char.toNat).toArray⟩ : PySem.Str) = ⟨(cpsOfBytes 0 0 (toString i).toByteArray.data.toList).toArray⟩
  rw [cpsOfBytes_string]
  first | done | rfl
end
end Py
end

section
set_option Elab.async false
set_option linter.all false
set_option maxRecDepth 100000
set_option maxHeartbeats 2000000
set_option autoImplicit false
/-! The Py layer, part 5: truth, subscripts, built-in functions and methods. -/
namespace Py
open PySem L2
section
variable {X : Cx} {W : WX}
variable {K : PySem.W.Frag} {mg : PySem.Str → Option Value} {φ : List Addr} {H : Hp} {μ μ' : Store}
/-! ### truth -/
theorem truth_ok {d : D} {v : V} {k : Bool} (R : Rep K mg φ μ H) (rd : RD K mg φ H d v) (h : truth d μ = .ok k μ') : μ' = μ ∧ TruV K v H k := by
  unfold truth at h
  split at h
  · cases h; cases rd; exact ⟨rfl, rfl⟩
  · cases h; cases rd; exact ⟨rfl, rfl⟩
  · cases h; cases rd; exact ⟨rfl, rfl⟩
  · split at h
    · rename_i hl
      cases h; cases rd
      refine ⟨rfl, by rw [stS_len, ← line_eq]; exact hl, ?_⟩
      rename_i s
      rw [stS_len]
      cases s with
      | nil => rfl
      | cons a b =>
        simp only [List.isEmpty_cons, Bool.not_false, List.length_cons]
        symm
        rw [bne_iff_ne]
        omega
    · cases h
  · cases h
    obtain ⟨a, vs, rfl, h1, h2⟩ := rd
    rename_i ds
    refine ⟨rfl, .inr (.inl ⟨vs, h1, ?_⟩)⟩
    have := h2.length
    cases ds <;> cases vs <;> first | rfl | simp at this
  · split at h
    · rename_i ds e
      cases h
      obtain ⟨p, vs, h1, h2, h3⟩ := R.list e
      obtain ⟨p', z, rfl⟩ := rd
      rw [h1] at z; cases z
      refine ⟨rfl, .inl ⟨vs, h2, ?_⟩⟩
      have := h3.length
      cases ds <;> cases vs <;> first | rfl | simp at this
    · cases h
  · cases h
theorem truth_noerr {d : D} {z : Py.X} : truth d μ ≠ .err z μ' := by
  unfold truth
  intro h
  split at h <;> first | cases h | (split at h <;> cases h)
/-! ### subscripts -/
theorem atI_eq {α : Type} (xs : List α) (i : Int) : Py.atI xs i = L2.atI xs i := rfl
theorem RDs.atI {ds : List D} {vs : List V} {i : Int} {d : D} (h : RDs K mg φ H ds vs) (e : Py.atI ds i = some d) : ∃ v, L2.atI vs i = some v ∧ RD K mg φ H d v := by
  unfold Py.atI at e
  cases q : Py.ixN ds.length i with
  | none => rw [q] at e; cases e
  | some j =>
    rw [q] at e
    obtain ⟨v, h1, h2⟩ := h.get (show ds[j]? = some d from e)
    refine ⟨v, ?_, h2⟩
    have q2 : L2.ixN vs.length i = some j := by rw [h.length]; exact q
    unfold L2.atI
    rw [q2]
    exact h1
theorem ix_can {σ : L2.St} : ∀ x y H Q, can2 X W idx x y σ H Q → rIx X.K x y H Q := by
  intro x y H Q h
  obtain ⟨φ, μ, a, b, rep, ra, rb, p⟩ := h
  unfold idx at p
  split at p
  · split at p
    · rename_i e
      obtain ⟨q, vs, rfl, h1, h2⟩ := ra
      cases rb
      obtain ⟨v, g1, g2⟩ := h2.atI e
      exact .inr (.inl ⟨q, vs, _, v, rfl, rfl, h1, g1, p.val rep g2⟩)
    · exact p.elim
  · split at p
    · rename_i e
      split at p
      · rename_i e2
        obtain ⟨q, vs, h1, h2, h3⟩ := rep.list e
        obtain ⟨q', z, rfl⟩ := ra
        rw [h1] at z; cases z
        cases rb
        obtain ⟨v, g1, g2⟩ := h3.atI e2
        exact .inl ⟨q, vs, _, v, rfl, rfl, h2, g1, p.val rep g2⟩
      · exact p.elim
    · exact p.elim
  · split at p
    · rename_i hl
      split at p
      · rename_i e
        cases ra; cases rb
        refine .inr (.inr ⟨_, _, _, rfl, rfl, by rw [stS_len, ← line_eq]; exact hl, e, ?_⟩)
        exact p.val rep rfl
      · exact p.elim
    · exact p.elim
  · exact p.elim
theorem cut_eq {α : Type} (xs : List α) (lo hi : Option Int) : cut xs lo hi = (xs.drop (HT.sIx xs.length 0 lo)).take (HT.sIx xs.length xs.length hi - HT.sIx xs.length 0 lo) := by
  unfold cut
  have e : ∀ (n d : Nat) (o : Option Int), sIx n d o = HT.sIx n d o := fun n d o => by cases o <;> rfl
  rw [e, e]
/-- what a slice gives -/
def rSl (K : PySem.W.Frag) : V → Option Int → Option Int → Hp → VK → Prop := fun x lo hi H Q => rSlS x lo hi H Q ∨ rSlL K x lo hi H Q
theorem sl_both : SlR X (rSl X.K) := SlR.or sl_str sl_list
theorem sl_can {x : V} {d : D} {lo hi : Option Int} {σ : L2.St} {H : Hp} {Q : VK} {φ : List Addr} (rep : Rep X.K X.mg φ μ H) (rd : RD X.K X.mg φ H d x) (p : post X.K X.mg (RD X.K X.mg) W (slc d lo hi μ) φ H σ Q) : rSl X.K x lo hi H Q := by
  unfold slc at p
  split at p
  · split at p
    · rename_i hl
      cases rd
      refine .inl ⟨_, rfl, by rw [stS_len, ← line_eq]; exact hl, ?_⟩
      refine p.val rep ?_
      rw [cut_eq]
      show V.str (cutS (stS _) lo hi) = V.str (stS _)
      unfold cutS
      rw [stS_len]
      rfl
    · exact p.elim
  · split at p
    · rename_i ds e
      obtain ⟨q, vs, h1, h2, h3⟩ := rep.list e
      obtain ⟨q', z, rfl⟩ := rd
      rw [h1] at z; cases z
      refine .inr ⟨q, vs, rfl, h2, fun r hr => ?_⟩
      have x1 : Ex φ H (φ ++ [r]) (upd H r (.lst (cutV vs lo hi))) := Ex.new hr
      refine p (φ ++ [r]) _ (.ref r) x1 (rep.new hr ⟨_, upd_same, ?_⟩) ⟨r, ?_, rfl⟩
      · have g := RDs.mono x1 _ _ h3
        generalize upd H r (.lst (cutV vs lo hi)) = H2 at g
        rw [cut_eq]
        unfold cutV
        rw [g.length]
        exact (g.drop _).take _
      · rw [← rep.len]; simp
    · exact p.elim
  · exact p.elim
end
end Py
end

section
set_option Elab.async false
set_option linter.all false
set_option maxRecDepth 100000
set_option maxHeartbeats 2000000
set_option autoImplicit false
/-! The Py layer, part 6: what the text's own defs and classes are worth. -/
namespace Py
open PySem L2
/-- a def's promise by what it means -/
def spM (K : PySem.W.Frag) (mg : PySem.Str → Option Value) (m : List D → Store → R D) : Sp := fun vs H Q E =>
  ∃ φ μ ds, Rep K mg φ μ H ∧ RDs K mg φ H ds vs ∧ post K mg (RD K mg) (fun cls d _ H => E cls d H) (m ds μ) φ H [] Q
section
variable (P : Program) (w : World) (K : PySem.W.Frag) (mg : PySem.Str → Option Value) (base : Heap) (n : Nat) (g : G)
/-- the def at a is worth what g says of the key -/
structure FnAt (key : String) (a : Addr) : Prop where
  run : FnR P w K mg base (L2.CX P w) (2 * n) a (spM K mg (g.callF key))
  kp : PySem.W.keepIn K (.ref a) = true
/-- what a class of the text's own must say -/
structure OwnAt (c : String) (C : Addr) : Prop where
  at_ : mg (nm c) = some (.ref C)
  cl : Cls K C
  sf : PySem.W.selfFirst K C = true
  ha : PySem.W.findIn K (.ref C) "__class__" = some (some (.builtin "object.__class__"))
  hn : PySem.W.specialIn K (.builtin "object.__class__") "__get__" = some (some (.builtin "getset_descriptor.__get__"))
  htk : PySem.W.takesIn K (.builtin "object.__class__") = some true
  hm : PySem.W.mroIn K C (.type "object") = some true
/-- the class named x -/
def TyN (x : String) (t : Value) : Prop := (∃ C, mg (nm x) = some (.ref C) ∧ t = .ref C) ∨ (mg (nm x) = none ∧ t = .type x)
structure GOk : Prop where
  fn : ∀ f, g.fnk f = true → ∃ a, mg (nm f) = some (.ref a) ∧ FnAt P w K mg base n g f a
  glo : ∀ x d, g.glo x = some d → ∃ v u, RelV v u ∧ mg (nm x) = some u ∧ ∀ φ H, RD K mg φ H d v
  meth : ∀ c m key, g.meth c m = some key → ∃ C f, OwnAt K mg c C ∧ Meth K C (nm m) f ∧ FnAt P w K mg base n g key f
  prop : ∀ c m key, g.prop c m = some key → ∃ C p f, OwnAt K mg c C ∧ PropOf K C (nm m) p f ∧ FnAt P w K mg base n g key f
  con : ∀ c f d, g.con c f = some d → ∃ C v u, OwnAt K mg c C ∧ Con K C (nm f) v u ∧ ∀ φ H, RD K mg φ H d v
  fld : ∀ c f, g.fld c f = true → ∃ C, OwnAt K mg c C ∧ NoAttr K C (nm f)
  init : ∀ c key, g.init c = some key → ∃ C f, OwnAt K mg c C ∧ Mk K C f ∧ FnAt P w K mg base n g key f
  clm : ∀ c m key, g.clm c m = some key → ∃ C mc p f, mg (nm c) = some (.ref C) ∧ ClX.CRead K C mc ∧ ClX.CMet K C mc (nm m) p f ∧ FnAt P w K mg base n g key f
  cval : ∀ c f d, g.cval c f = some d → ∃ C mc v u, mg (nm c) = some (.ref C) ∧ ClX.CRead K C mc ∧ ClX.CVal K C mc (nm f) v u ∧ ∀ φ H, RD K mg φ H d v
  sub : ∀ t c b, g.sub t c = some b → ∃ tv cv, TyN mg t tv ∧ TyN mg c cv ∧ PySem.W.kitOne K tv cv = some b
  insc : ∀ c, g.insc c = true → ∃ C, OwnAt K mg c C
  bl : ∀ c t o, g.bl c t o = true → ∃ tv, TyN mg t tv ∧ noOp K tv (nm o.dun) (nm o.rdun) = true
  br : ∀ c t o, g.br c t o = true → (∃ tv, TyN mg t tv ∧ noOp K tv (nm o.dun) (nm o.rdun) = true) ∧ ∃ C, OwnAt K mg c C ∧ hasOr K (.ref C) (nm o.dun) = true
  nsq : ∀ c, g.nsq c = true → ∃ C, OwnAt K mg c C ∧ PySem.W.noSeq K C = true
  nfst : ∀ c t, g.nfst c t = true → ∃ C tv, OwnAt K mg c C ∧ TyN mg t tv ∧ PySem.W.notFirst K C tv = true
  dne : ∀ c, g.dne c = true → ∃ C, OwnAt K mg c C ∧ PySem.W.findIn K (.ref C) "__ne__" = some (some (.builtin "object.__ne__"))
  nb : ∀ x ∈ ["NoneType", "bool", "int", "str", "tuple", "list"], mg (nm x) = none
end
section
variable {P : Program} {w : World} {K : PySem.W.Frag} {mg : PySem.Str → Option Value} {base : Heap} {n : Nat} {g : G} {key : String} {a : Addr}
/-- plain parameters, with defaults or none -/
theorem FnAt.of_ok {fd : FuncData} {ps : List PySem.Str} (ok : FnOk P w K mg base (L2.CX P w) (2 * n) a fd ps (spM K mg (g.call key))) (hva : g.va key = false)
    (hd : ∀ k, k ≤ (g.par key).2.length → ∃ dvs ds, Vals dvs ds ∧ Binds K fd ps ds ∧ ∀ φ H, RDs K mg φ H ((g.par key).2.drop ((g.par key).2.length - k)) dvs) (kp : PySem.W.keepIn K (.ref a) = true) : FnAt P w K mg base n g key a := by
  refine ⟨fun A outer s H us vs Q E hr e0 r hsp => ?_, kp⟩
  obtain ⟨φ, μ, ds, rep, rd, p⟩ := hsp
  unfold G.callF at p
  rw [if_neg (by rw [hva]; simp)] at p
  split at p
  · rename_i hc
    have hf := hc.1
    unfold fill at hf
    rw [List.length_append, List.length_drop] at hf
    have hk : (g.par key).1 - ds.length ≤ (g.par key).2.length := by omega
    obtain ⟨dvs, dus, rv, hb, rds⟩ := hd _ hk
    have e : (g.par key).2.length + ds.length - (g.par key).1 = (g.par key).2.length - ((g.par key).1 - ds.length) := by omega
    have hsp : spM K mg (g.call key) (vs ++ dvs) H Q E := by
      refine ⟨φ, μ, _, rep, RDs.append rd (rds φ H), ?_⟩
      rw [← e]
      exact p
    have r2 : Vals (vs ++ dvs) (us ++ dus) := r.append rv
    have hl : (us ++ dus).length = ps.length := by rw [← r2.length]; exact ok.len _ _ _ _ hsp
    exact ok.run A outer s H ⟨us, []⟩ (us ++ dus) (vs ++ dvs) Q E hr e0 (hb s us (e0.mod.kin.keeps fun b o z => (e0.bs b o z).1) hl) r2 hsp
  · exact p.elim
/-- the last parameter takes what is left over -/
theorem FnAt.of_star {m : Nat} (F : FnR P w K mg base (L2.CX P w) (2 * n) a (fun vs H Q E => ∃ ws rest, vs = ws ++ rest ∧ ws.length = m ∧ rest.length ≤ sizeLine ∧ ∀ p, H p = none → spM K mg (g.call key) (ws ++ [V.ref p]) (upd H p (.tup rest)) Q E))
    (hva : g.va key = true) (hp : (g.par key).1 = m + 1) (kp : PySem.W.keepIn K (.ref a) = true) : FnAt P w K mg base n g key a := by
  refine ⟨F.imp fun vs H Q E q => ?_, kp⟩
  obtain ⟨φ, μ, ds, rep, rd, p⟩ := q
  unfold G.callF at p
  rw [if_pos hva] at p
  split at p
  · rename_i hc
    rw [hp] at hc p
    have hl := rd.length
    refine ⟨vs.take m, vs.drop m, (List.take_append_drop m vs).symm, by rw [List.length_take]; omega, by rw [List.length_drop, ← line_eq]; omega, fun q hq => ?_⟩
    refine ⟨φ, μ, _, rep.junk hq, RDs.append (RDs.mono (Ex.junk hq) _ _ (rd.take m)) (RDs.cons (show RD K mg φ (upd H q (.tup (vs.drop m))) (.tup (ds.drop m)) (.ref q) from ⟨q, vs.drop m, rfl, .inl (.inl upd_same), RDs.mono (Ex.junk hq) _ _ (rd.drop m)⟩) RDs.nil), post.mono (Ex.junk hq) ?_⟩
    exact p
  · exact p.elim
end
section
variable {X : Cx} {W : WX} {n : Nat} {g : G} {pins : List (Addr × Obj)} {σ : L2.St} {H : Hp} {s : Shared} {Q : VK} {φ : List Addr} {μ : Store}
/-- what the context gives to calls -/
structure Call (X : Cx) (W : WX) (n : Nat) (g : G) : Prop where
  gok : GOk X.prog X.w X.K X.mg X.base n g
  un : X.A.units + 64 < cLine
  room : (∀ k ds μ, g.call k ds μ = .bad) ∨ Room (2 * n + 1) X.A
  tk : Takes X W
theorem Call.hot {α β : Type} {rel : List Addr → Hp → α → β → Prop} {K : PySem.W.Frag} {mg : PySem.Str → Option Value} {φ : List Addr} {H : Hp} {μ : Store} {σ : L2.St} {Q : β → Hp → Prop} {key : String} {ds : List D} {f : D → Store → R α} (c : Call X W n g)
    (p : post K mg rel W ((g.callF key ds μ).bind f) φ H σ Q) : Room (2 * n + 1) X.A := by
  rcases c.room with h | h
  · unfold G.callF at p
    (repeat' split at p) <;> first | exact p.elim | (rw [h] at p; exact p.elim)
  · exact h
theorem R.bind_pure {α : Type} (r : R α) : r.bind (fun a μ => .ok a μ) = r := by cases r <;> rfl
theorem Call.hot0 {K : PySem.W.Frag} {mg : PySem.Str → Option Value} {φ : List Addr} {H : Hp} {μ : Store} {σ : L2.St} {Q : V → Hp → Prop} {key : String} {ds : List D} (c : Call X W n g)
    (p : post K mg (RD K mg) W (g.callF key ds μ) φ H σ Q) : Room (2 * n + 1) X.A := by
  rw [← R.bind_pure (g.callF key ds μ)] at p
  exact c.hot p
theorem callF_codeA {key : String} {a : Addr} {us : List Value} {vs : List V} {ds : List D} {A' : Around} (F : FnAt X.prog X.w X.K X.mg X.base n g key a) (hr : Room (2 * n) A') (hfr : A'.frames = some X.stack) (tk : Takes X W) (I : Inv X pins σ H s) (r : Vals vs us)
    (rep : Rep X.K X.mg φ μ H) (rd : RDs X.K X.mg φ H ds vs) (p : post X.K X.mg (RD X.K X.mg) W (g.callF key ds μ) φ H σ Q) :
    codeAny (model X.prog X.w) A' (.call (.ref a) ⟨us, []⟩) (fun r s' => match r with | .ok (.ret u) => EP X pins σ Q u s' | .ok _ => False | .error e => X.xe e s') s := by
  have hsp : spM X.K X.mg (g.callF key) vs H Q (WE W σ) := by
    refine ⟨φ, μ, ds, rep, rd, ?_⟩
    revert p
    generalize g.callF key ds μ = z
    intro p
    cases z <;> exact p
  have e0 := I.env0
  have e1 : Env0 X.prog X.w X.K X.mg X.base A' X.stack s H := ⟨hfr, e0.mod, e0.bs, e0.bsz, e0.funs, e0.frf, e0.hok, e0.bare⟩
  refine codeAny_mono (F.run A' X.stack s H us vs Q (WE W σ) hr e1 r hsp) fun z s' hq => ?_
  cases z with
  | error er => exact passAt tk σ pins H s er s' I hq
  | ok fl =>
    cases fl with
    | ret u => exact I.after hq
    | next => exact False.elim hq
    | brk => exact False.elim hq
    | cont => exact False.elim hq
theorem callF_runA {key : String} {a : Addr} {us : List Value} {vs : List V} {ds : List D} {A' : Around} (F : FnAt X.prog X.w X.K X.mg X.base n g key a) (hr : Room (2 * n) A') (hfr : A'.frames = some X.stack) (tk : Takes X W) (I : Inv X pins σ H s) (r : Vals vs us)
    (rep : Rep X.K X.mg φ μ H) (rd : RDs X.K X.mg φ H ds vs) (p : post X.K X.mg (RD X.K X.mg) W (g.callF key ds μ) φ H σ Q) :
    wpAny (model X.prog X.w) A' (call (.ref a) us) (EP X pins σ Q) X.xe s := by
  refine wpAny_call (codeAny_mono (callF_codeA F hr hfr tk I r rep rd p) fun z s' hq => ?_)
  cases z with
  | error er => exact hq
  | ok fl =>
    cases fl with
    | ret u => exact hq
    | _ => exact hq.elim
theorem callF_run {key : String} {a : Addr} {us : List Value} {vs : List V} {ds : List D} (F : FnAt X.prog X.w X.K X.mg X.base n g key a) (hr : Room (2 * n) X.A) (tk : Takes X W) (I : Inv X pins σ H s) (r : Vals vs us)
    (rep : Rep X.K X.mg φ μ H) (rd : RDs X.K X.mg φ H ds vs) (p : post X.K X.mg (RD X.K X.mg) W (g.callF key ds μ) φ H σ Q) :
    wpAny (model X.prog X.w) X.A (call (.ref a) us) (EP X pins σ Q) X.xe s := callF_runA F hr I.ok.frames tk I r rep rd p
/-! ### instances -/
theorem ins_at {d : D} {v : V} {c : String} (rep : Rep X.K X.mg φ μ H) (rd : RD X.K X.mg φ H d v) (h : insOf d μ = some c) :
    ∃ i a C dx l fs, d = .obj i ∧ μ[i]? = some (.ins c fs) ∧ φ[i]? = some a ∧ v = .ref a ∧ X.mg (nm c) = some (.ref C) ∧ H a = some (.ins C dx l) ∧ RF X.K X.mg φ H fs l := by
  unfold insOf at h
  split at h
  · rename_i i
    split at h
    · rename_i c' fs e
      cases h
      obtain ⟨a, h1, C, dx, l, h2, h3, h4⟩ := rep.at_ i _ e
      obtain ⟨a', h5, rfl⟩ := rd
      rw [h1] at h5; cases h5
      exact ⟨i, a, C, dx, l, fs, rfl, e, h1, rfl, h2, h3, h4⟩
    · cases h
  · cases h
theorem own_eq {c : String} {C C' : Addr} {K : PySem.W.Frag} {mg : PySem.Str → Option Value} (o : OwnAt K mg c C) (h : mg (nm c) = some (.ref C')) : C' = C := by
  have := o.at_
  rw [h] at this
  cases this
  rfl
theorem cmpBack_of {u : Value} {s' : Shared} (h : EP X pins σ Q u s') : PySem.W.CmpBack (EP X pins σ Q) u s' := by
  obtain ⟨v, H', I', r, q⟩ := h
  cases u with
  | notImplemented =>
    have z : False := by cases v <;> simp [RelV] at r
    exact z.elim
  | _ => exact ⟨v, H', I', r, q⟩
theorem dun_bop (o : BO) : PySem.dunder o.op.info.2 = nm o.dun := by
  cases o <;> decide +kernel
theorem dun_cop (o : CO) (h : o = .eq ∨ o = .ne ∨ o = .lt ∨ o = .le ∨ o = .gt ∨ o = .ge) : (cmpInfo o.op).2.1 = nm o.dun := by
  rcases h with rfl | rfl | rfl | rfl | rfl | rfl <;> decide +kernel
theorem insOf_obj {i : Nat} {c : String} {fs : List (String × D)} (h : μ[i]? = some (.ins c fs)) : insOf (.obj i) μ = some c := by
  unfold insOf
  simp only [h]
theorem rdun_bop (o : BO) : PySem.dunderR o.op.info.2 = nm o.rdun := by
  cases o <;> decide +kernel
theorem idun_bop (o : BO) : PySem.dunderI o.op.info.2 = nm o.idun := by
  cases o <;> decide +kernel
section
open PySem.W PySem.Calls PyProof.Rows
variable {prog : Program} {w : World} {M : Model} {A : Around} {E : Value → Shared → Prop} {K : Frag} {x y C C' L f : Addr} {h0 : Heap} {m : PySem.Str → Option Value} {ox oy : Obj} {od od' : Option Obj} {nm1 : String}
theorem no_fills {h : Heap} (X : K.In h) (hn : noOp K (.ref C') (PySem.dunder nm1) (PySem.dunderR nm1) = true) : Looks M h (fillsNumberSlot (.ref C') nm1) false := by
  intro A Q E s k q
  unfold noOp at hn
  simp only [] at hn
  split at hn
  · rename_i cd hcd
    unfold fillsNumberSlot
    refine wpAny_bind ((looks_clsIn X hcd).andThen (f := fun cd => pure cd.mro) .now A _ E s k ?_)
    have gen : ∀ l : List Value, (l.all fun c => decide (findIn K c (PySem.dunder nm1) = some none) && decide (findIn K c (PySem.dunderR nm1) = some none)) = true → ∀ (body : Value → Sem Bool), (∀ c, findIn K c (PySem.dunder nm1) = some none → findIn K c (PySem.dunderR nm1) = some none → Looks M h (body c) false) → Looks M h (l.anyM body) false := by
      intro l
      induction l with
      | nil => intro _ body _; exact .now
      | cons c r ih =>
        intro hl body hb
        rw [List.all_cons, Bool.and_eq_true, Bool.and_eq_true, decide_eq_true_eq, decide_eq_true_eq] at hl
        rw [List.anyM_cons]
        refine Looks.andThen (hb c hl.1.1 hl.1.2) ?_
        exact ih hl.2 body hb
    refine gen cd.mro hn _ (fun c e1 e2 => ?_) A Q E s k q
    intro A Q E s k q
    obtain ⟨hh, g, d, tt, os⟩ := s
    have X' : K.In hh := X.keeps k
    have L1 : Looks M hh (typeLookup c (PySem.dunder nm1)) none := looks_findIn X' e1
    have L2 : Looks M hh (typeLookup c (PySem.dunderR nm1)) none := looks_findIn X' e2
    cases c <;> (repeat lk) <;> exact q
  · cases hn
theorem or_fills {h : Heap} {cd : ClassData} {rest : List Value} (X : K.In h) (hc : clsIn K C = some cd) (hm : cd.mro = .ref C :: rest) (hf : hasOr K (.ref C) (PySem.dunder nm1) = true) (hr : findIn K (.ref C) (PySem.dunderR nm1) = some (some (.ref f))) : Looks M h (fillsNumberSlot (.ref C) nm1) true := by
  intro A Q E s k q
  unfold fillsNumberSlot
  refine wpAny_bind ((looks_clsIn X hc).andThen (f := fun cd => pure cd.mro) .now A _ E s k ?_)
  rw [hm, List.anyM_cons]
  obtain ⟨hh, g, d, tt, os⟩ := s
  have X' : K.In hh := X.keeps k
  have L2 : Looks M hh (typeLookup (.ref C) (PySem.dunderR nm1)) (some (.ref f)) := looks_findIn X' hr
  unfold hasOr at hf
  split at hf
  · rename_i e
    have L1 : Looks M hh (typeLookup (.ref C) (PySem.dunder nm1)) none := looks_findIn X' e
    refine wpAny_bind ?_
    repeat lk
    exact q
  · rename_i b e
    have L1 : Looks M hh (typeLookup (.ref C) (PySem.dunder nm1)) (some (.ref b)) := looks_findIn X' e
    refine wpAny_bind ?_
    repeat lk
    exact q
  · cases hf
theorem bin_other {op : Operator} {b : Value} {Q : Value → Shared → Prop} (F : Fr h0 L s.heap m) (X0 : K.In h0) (I : InstAt s.heap x ox C od) (hb : Looks (model prog w) s.heap (typeOf b) (.ref C')) (hc : selfFirst K C = true)
    (hs : findIn K (.ref C) (PySem.dunder op.info.2) = some (some (.ref f))) (hf : isFn K (.ref f) = true) (hn : noOp K (.ref C') (PySem.dunder op.info.2) (PySem.dunderR op.info.2) = true)
    (h : wpAny (model prog w) A (call (.ref f) [.ref x, b]) (PySem.W.CmpBack Q) E s) : wpAny (model prog w) A (binaryOp op (.ref x) b) Q E s := by
  have X := X0.keeps F.keep
  obtain ⟨cd, rest, hcd, hm⟩ := ksp_first hc
  rcases hi : op.info with ⟨sym, nm'⟩
  rw [hi] at hs hn
  dsimp only at hs hn
  have one := ksp_try X I hs hf h
  obtain ⟨hh, g, d, tt, os⟩ := s
  have K1 : Looks (model prog w) hh (typeOf (.ref x)) (.ref C) := I.type
  have K2 : Looks (model prog w) hh (typeOf b) (.ref C') := hb
  have K3 : Looks (model prog w) hh (fillsNumberSlot (.ref C) nm') true := fills_K X hcd hm hs
  have K4 : Looks (model prog w) hh (fillsNumberSlot (.ref C') nm') false := no_fills X hn
  simp only [binaryOp, hi]
  refine wpAny_holding (wpAny_bind ?_)
  unfold binaryOp1
  refine wpAny_bind (K1.at (wpAny_bind (K2.at (wpAny_bind (K3.at ?_)))))
  cases e : (Value.ref C == Value.ref C') with
  | true =>
    simp only [if_true]
    ksp_lk
    refine wpAny_mono one (fun r s' hr' => ?_) fun _ _ e => e
    obtain ⟨v, rfl, hq⟩ := hr'
    ksp_lk
    exact hq
  | false =>
    simp only [Bool.false_eq_true, if_false]
    ksp_lk
    refine wpAny_mono one (fun r s' hr' => ?_) fun _ _ e => e
    obtain ⟨v, rfl, hq⟩ := hr'
    ksp_lk
    exact hq
theorem bin_turned {op : Operator} {Q : Value → Shared → Prop} (F : Fr h0 L s.heap m) (X0 : K.In h0) (I : InstAt s.heap x ox C' od) (J : InstAt s.heap y oy C od') (hc : selfFirst K C = true)
    (hs : findIn K (.ref C) (PySem.dunderR op.info.2) = some (some (.ref f))) (hf : isFn K (.ref f) = true) (hn : noOp K (.ref C') (PySem.dunder op.info.2) (PySem.dunderR op.info.2) = true) (ho : hasOr K (.ref C) (PySem.dunder op.info.2) = true)
    (h : wpAny (model prog w) A (call (.ref f) [.ref y, .ref x]) (PySem.W.CmpBack Q) E s) : wpAny (model prog w) A (binaryOp op (.ref x) (.ref y)) Q E s := by
  have X := X0.keeps F.keep
  obtain ⟨cd, rest, hcd, hm⟩ := ksp_first hc
  rcases hi : op.info with ⟨sym, nm'⟩
  rw [hi] at hs hn ho
  dsimp only at hs hn ho
  have one := ksp_try X J hs hf h
  have hne : (Value.ref C' == Value.ref C) = false := by
    rw [beq_eq_false_iff_ne]
    intro z
    cases z
    unfold noOp at hn
    simp only [hcd, hm, List.all_cons, Bool.and_eq_true, decide_eq_true_eq] at hn
    rw [hn.1.2] at hs
    cases hs
  obtain ⟨hh, g, d, tt, os⟩ := s
  have K1 : Looks (model prog w) hh (typeOf (.ref x)) (.ref C') := I.type
  have K2 : Looks (model prog w) hh (typeOf (.ref y)) (.ref C) := J.type
  have K3 : Looks (model prog w) hh (fillsNumberSlot (.ref C') nm') false := no_fills X hn
  have K4 : Looks (model prog w) hh (fillsNumberSlot (.ref C) nm') true := or_fills X hcd hm ho hs
  simp only [binaryOp, hi]
  refine wpAny_holding (wpAny_bind ?_)
  unfold binaryOp1
  refine wpAny_bind (K1.at (wpAny_bind (K2.at (wpAny_bind (K3.at ?_)))))
  simp only [hne, Bool.false_eq_true, if_false]
  ksp_lk
  refine wpAny_mono one (fun r s' hr' => ?_) fun _ _ e => e
  obtain ⟨v, rfl, hq⟩ := hr'
  ksp_lk
  exact hq
end
/-- an own operator's call -/
theorem bin_call (c : Call X W n g) {key : String} {f q : Addr} {u : Value} {y : V} {a b : D} (fa : FnAt X.prog X.w X.K X.mg X.base n g key f) (I : Inv X pins σ H s) (ry : RelV y u) (rep : Rep X.K X.mg φ μ H)
    (ra : RD X.K X.mg φ H a (.ref q)) (rb : RD X.K X.mg φ H b y) (p : post X.K X.mg (RD X.K X.mg) W (g.callF key [a, b] μ) φ H σ Q) : wpAny (model X.prog X.w) X.A (call (.ref f) [.ref q, u]) (PySem.W.CmpBack (EP X pins σ Q)) X.xe s :=
  thn (callF_run fa ((c.hot0 p).mono (by omega)) c.tk I (show Vals [V.ref q, y] [.ref q, u] from .cons rfl (.cons ry .nil)) rep (RDs.cons ra (RDs.cons rb RDs.nil)) p) fun u s' hu => cmpBack_of hu
theorem op_binG (c : Call X W n g) (o : BO) : OpC X (binaryOp o.op) (can2 X W (bopG g o)) := by
  intro pins s σ H x y v u Q I rx ry h
  obtain ⟨φ, μ, a, b, rep, ra, rb, p⟩ := h
  unfold bopG at p
  split at p
  · rename_i k e
    obtain ⟨i, q, C, dx, l, fs, rfl, hμ, hφ, rfl, hm, hH, hF⟩ := ins_at rep ra e
    cases rx
    obtain ⟨mA, J, _⟩ := ins_get I.hok hH
    obtain ⟨od, J, _⟩ := J.look
    obtain ⟨m, hF0⟩ := I.fr
    split at p
    · rename_i k' e2
      obtain ⟨i', q', C', dx', l', fs', rfl, hμ', hφ', rfl, hm', hH', hF'⟩ := ins_at rep rb e2
      cases ry
      obtain ⟨mB, J', _⟩ := ins_get I.hok hH'
      obtain ⟨od', J', _⟩ := J'.look
      split at p
      · rename_i ek
        subst ek
        split at p
        · rename_i key e3
          obtain ⟨C0, f, own, me, fa⟩ := c.gok.meth _ _ _ e3
          obtain rfl := own_eq own hm
          obtain rfl := own_eq own hm'
          exact PySem.W.binop_K hF0 I.ok.mod.kin J J'.type own.sf (by rw [dun_bop]; exact me.at_) me.fn (bin_call c fa I (show RelV (V.ref q') (.ref q') from rfl) rep ra rb p)
        · exact p.elim
      · split at p
        · rename_i hbl
          split at p
          · rename_i key e3
            obtain ⟨C0, f, own, me, fa⟩ := c.gok.meth _ _ _ e3
            obtain rfl := own_eq own hm
            obtain ⟨tb, ht, hk⟩ := c.gok.bl _ _ _ hbl
            obtain rfl : tb = .ref C' := by
              rcases ht with ⟨C2, z, rfl⟩ | ⟨z, rfl⟩
              · rw [hm'] at z; cases z; rfl
              · rw [hm'] at z; cases z
            exact bin_other hF0 I.ok.mod.kin J J'.type own.sf (by rw [dun_bop]; exact me.at_) me.fn (by rw [dun_bop, rdun_bop]; exact hk) (bin_call c fa I (show RelV (V.ref q') (.ref q') from rfl) rep ra rb p)
          · exact p.elim
        · split at p
          · rename_i hbr
            split at p
            · rename_i key e3
              obtain ⟨C0, f, own, me, fa⟩ := c.gok.meth _ _ _ e3
              obtain rfl := own_eq own hm'
              obtain ⟨⟨tb, ht, hk⟩, C3, own3, hor⟩ := c.gok.br _ _ _ hbr
              obtain rfl := own_eq own3 hm'
              obtain rfl : tb = .ref C := by
                rcases ht with ⟨C2, z, rfl⟩ | ⟨z, rfl⟩
                · rw [hm] at z; cases z; rfl
                · rw [hm] at z; cases z
              exact bin_turned hF0 I.ok.mod.kin J J' own.sf (by rw [rdun_bop]; exact me.at_) me.fn (by rw [dun_bop, rdun_bop]; exact hk) (by rw [dun_bop]; exact hor) (bin_call c fa I (show RelV (V.ref q) (.ref q) from rfl) rep rb ra p)
            · exact p.elim
          · exact p.elim
    · exact p.elim
  · exact op_bin o pins s σ H x y v u Q I rx ry ⟨φ, μ, a, b, rep, ra, rb, p⟩
/-- -x, ~x -/
theorem op_unG (c : Call X W n g) (o : UO) : UnC X (unaryOp o.op) (can1 X W (unG g o)) := by
  intro pins s σ H x v Q I rx h
  obtain ⟨φ, μ, a, rep, ra, p⟩ := h
  unfold unG at p
  split at p
  · rename_i k e
    split at p
    · rename_i key e3
      obtain ⟨i, q, C, dx, l, fs, rfl, hμ, hφ, rfl, hm, hH, hF⟩ := ins_at rep ra e
      obtain ⟨C0, f, own, me, fa⟩ := c.gok.meth _ _ _ e3
      obtain rfl := own_eq own hm
      cases rx
      obtain ⟨mA, J, _⟩ := ins_get I.hok hH
      obtain ⟨od, J, _⟩ := J.look
      have hat : PySem.W.findIn X.K (.ref C) (nm o.dun) = some (some (.ref f)) := me.at_
      have hcall := callF_run fa ((c.hot0 p).mono (by omega)) c.tk I (show Vals [V.ref q] [.ref q] from .cons rfl .nil) rep (RDs.cons ra RDs.nil) p
      cases o with
      | neg =>
        unfold PySem.unaryOp
        refine wpAny_holding ?_
        have hat' : PySem.W.findIn X.K (.ref C) "__neg__" = some (some (.ref f)) := hat
        exact wpAny_bind (PySem.W.special_fn I.kIn J hat' (beq_iff_eq.mp me.fn) (thn hcall fun _ _ z => wpAny_pure z))
      | inv =>
        unfold PySem.unaryOp
        refine wpAny_holding ?_
        have hat' : PySem.W.findIn X.K (.ref C) "__invert__" = some (some (.ref f)) := hat
        exact wpAny_bind (PySem.W.special_fn I.kIn J hat' (beq_iff_eq.mp me.fn) (thn hcall fun _ _ z => wpAny_pure z))
    · exact p.elim
  · split at p
    · cases ra
      obtain ⟨t, rfl⟩ := rx
      exact PyProof.Rows.neg_int ⟨.int _, H, I.tok _, ⟨_, rfl⟩, p.val rep rfl⟩
    · exact p.elim
/-! ### built-in functions -/
theorem abs_own {f x C : Addr} {ox od : Obj} {A : Around} {E : Value → Shared → Prop} {K : PySem.W.Frag} {P : Program} {w : World} {Q' : Value → Shared → Prop} (X : K.In s.heap) (J : PySem.W.InstAt s.heap x ox C (some od)) (hs : PySem.W.findIn K (.ref C) "__abs__" = some (some (.ref f)))
    (hf : PySem.W.isFn K (.ref f) = true) (h : wpAny (model P w) A.in1 (call (.ref f) [.ref x]) Q' E s) : wpAny (model P w) A (call (.builtin "abs") [.ref x]) Q' E s := by
  refine Calls.call_function_entry PyProof.Rows.kind_abs PyProof.Rows.plain_abs PyProof.Rows.entry_abs (PyProof.Rows.args_abs _) ?_
  unfold Builtin.«abs»
  refine wpAny_bind (m := PySem.oneArg "abs" _) (wpAny_pure ?_)
  refine wpAny_bind (m := callSpecial? (.ref x) (Str.ofString "__abs__")) (PySem.W.special_fn X J hs (beq_iff_eq.mp hf) (thn h fun r s' hr => ?_))
  exact wpAny_pure ⟨_, rfl, hr⟩
theorem room2 {k : Nat} {A : Around} (r : Room (k + 1) A) : Room k A.in1.in1 :=
  ⟨r.hd, by have := r.dp; show A.depth + 3 * k + 5 < _; omega, by have := r.un; show A.units + 1 + 1 + 16 * k + 200 < _; omega⟩
def bifV : String → Value
  | "len" => .builtin "len"
  | "abs" => .builtin "abs"
  | s => .type s
theorem call_bif (c : Call X W n g) (b : String) (hb : b ∈ bifs) : CallC X (bifV b) (canL X W (bifG g b)) := by
  intro pins s σ H xs us Q I r h
  obtain ⟨φ, μ, ds, rep, rd, p⟩ := h
  unfold bifG at p
  split at p
  · rename_i d
    obtain ⟨v, r0, rfl, rdv, h0⟩ := rd
    cases h0
    cases r with
    | cons r1 rn =>
      rename_i u us'
      cases rn
      split at p
      · rename_i k e
        split at p
        · rename_i m em
          split at p
          · rename_i key e3
            obtain ⟨i, q, C, dx, l, fs, rfl, hμ, hφ, rfl, hm, hH, hF⟩ := ins_at rep rdv e
            obtain ⟨C0, f, own, me, fa⟩ := c.gok.meth _ _ _ e3
            obtain rfl := own_eq own hm
            cases r1
            obtain ⟨mA, J, _⟩ := ins_get I.hok hH
            obtain ⟨od, J, _⟩ := J.look
            simp only [bifs, List.mem_cons, List.not_mem_nil, or_false] at hb
            rcases hb with rfl | rfl | rfl | rfl | rfl | rfl | rfl
            · cases em
              have hat : PySem.W.findIn X.K (.ref C) "__len__" = some (some (.ref f)) := me.at_
              have p2 : post X.K X.mg (RD X.K X.mg) W ((g.callF key [.obj i] μ).bind fun d μ => (match d with
                | .int i => if 0 ≤ i ∧ i < 2 ^ 63 then .ok (.int i) μ else .bad
                | _ => .bad)) φ H σ Q := p
              have qq := post.bind (rel := RD X.K X.mg) p2
              have qq2 : post X.K X.mg (RD X.K X.mg) W (g.callF key [.obj i] μ) φ H σ (fun z H1 => ∃ i, z = .int i ∧ 0 ≤ i ∧ i < 2 ^ 63 ∧ Q (.int i) H1) := qq.imp fun z H1 hz => by
                obtain ⟨φ1, μ1, d, _, e1, rep1, rz, pz⟩ := hz
                split at pz
                · cases rz
                  split at pz
                  · rename_i hi
                    exact ⟨_, rfl, hi.1, hi.2, pz.val rep1 rfl⟩
                  · exact pz.elim
                · exact pz.elim
              obtain ⟨m, hF0⟩ := I.fr
              refine PySem.W.len_K hF0 I.ok.mod.kin J hat me.fn (thn (callF_runA fa (((c.hot p2).mono (by omega)).in1) I.ok.frames c.tk I (show Vals [V.ref q] [.ref q] from .cons rfl .nil) rep (RDs.cons rdv RDs.nil) qq2) fun u s' hu => ?_)
              obtain ⟨v, H1, I1, rv, i, rfl, h0, h1, q1⟩ := hu
              obtain ⟨t, rfl⟩ := rv
              exact ⟨⟨h0, h1⟩, .int i, H1, I1.tok _, ⟨_, rfl⟩, q1⟩
            · cases em
            · cases em
            · cases em
              have hat : PySem.W.findIn X.K (.ref C) "__abs__" = some (some (.ref f)) := me.at_
              have p2 : post X.K X.mg (RD X.K X.mg) W (g.callF key [.obj i] μ) φ H σ Q := p
              exact abs_own I.kIn J hat me.fn (callF_runA fa (((c.hot0 p2).mono (by omega)).in1) I.ok.frames c.tk I (show Vals [V.ref q] [.ref q] from .cons rfl .nil) rep (RDs.cons rdv RDs.nil) p2)
            · cases em
            · cases em
            · cases em
              have hat : PySem.W.findIn X.K (.ref C) "__str__" = some (some (.ref f)) := me.at_
              have p2 : post X.K X.mg (RD X.K X.mg) W ((g.callF key [.obj i] μ).bind fun d μ => (match d with
                | .str s => .ok (.str s) μ
                | _ => .bad)) φ H σ Q := p
              have qq := post.bind (rel := RD X.K X.mg) p2
              have hr := c.hot p2
              have hu : X.A.in1.in1.units < cLine := by have := c.un; show X.A.units + 1 + 1 < cLine; omega
              have qq2 : post X.K X.mg (RD X.K X.mg) W (g.callF key [.obj i] μ) φ H σ (fun z H1 => ∃ x, z = .str x ∧ Q (.str x) H1) := qq.imp fun z H1 hz => by
                obtain ⟨φ1, μ1, d, _, e1, rep1, rz, pz⟩ := hz
                split at pz
                · cases rz
                  exact ⟨_, rfl, pz.val rep1 rfl⟩
                · exact pz.elim
              refine PySem.W.kso_call hu I.kIn J hat me.fn (thn (callF_runA fa (room2 hr) I.ok.frames c.tk I (show Vals [V.ref q] [.ref q] from .cons rfl .nil) rep (RDs.cons rdv RDs.nil) qq2) fun u s' hu => ?_)
              obtain ⟨v, H1, I1, rv, x, rfl, q1⟩ := hu
              obtain ⟨t, rfl⟩ := rv
              exact ⟨.str x, H1, I1, ⟨t, rfl⟩, q1⟩
          · exact p.elim
        · exact p.elim
      · have one : Vals [v] [u] := .cons r1 .nil
        simp only [bifs, List.mem_cons, List.not_mem_nil, or_false] at hb
        rcases hb with rfl | rfl | rfl | rfl | rfl | rfl | rfl
        · refine call_len pins s σ H _ _ Q I one ?_
          cases d with
          | str z =>
            have p : post X.K X.mg (RD X.K X.mg) W (if z.length ≤ line then .ok (.int z.length) μ else .bad) φ H σ Q := p
            split at p
            · rename_i hl
              cases rdv
              refine ⟨_, _, rfl, ⟨by rw [stS_len, ← line_eq]; exact hl, rfl⟩, ?_⟩
              rw [stS_len]
              exact p.val rep rfl
            · exact p.elim
          | tup zs =>
            have p : post X.K X.mg (RD X.K X.mg) W (.ok (.int zs.length) μ) φ H σ Q := p
            obtain ⟨q, vs, rfl, h1, h2⟩ := rdv
            exact ⟨_, _, rfl, .inr ⟨vs, h1, rfl⟩, by rw [h2.length]; exact p.val rep rfl⟩
          | obj i =>
            have p : post X.K X.mg (RD X.K X.mg) W (match lstOf μ i with
              | some xs => .ok (.int xs.length) μ
              | none => .bad) φ H σ Q := p
            split at p
            · rename_i zs ez
              obtain ⟨q, vs, h1, h2, h3⟩ := rep.list ez
              obtain ⟨q', z, rfl⟩ := rdv
              rw [h1] at z; cases z
              exact ⟨_, _, rfl, .inl ⟨vs, h2, rfl⟩, by rw [h3.length]; exact p.val rep rfl⟩
            · exact p.elim
          | _ => exact (show False from p).elim
        · refine call_int1 pins s σ H _ _ Q I one ?_
          cases d with
          | int i => cases rdv; exact .inl ⟨_, rfl, post.val (a := D.int i) (rel := RD X.K X.mg) (W := W) (σ := σ) rep rfl p⟩
          | bl k => cases rdv; exact .inr ⟨_, rfl, post.val (a := D.int (if k then 1 else 0)) (rel := RD X.K X.mg) (W := W) (σ := σ) rep rfl p⟩
          | _ => exact (show False from p).elim
        · refine call_bool1 pins s σ H _ _ Q I one ?_
          cases d with
          | int i => cases rdv; exact .inl ⟨_, rfl, post.val (a := D.bl (i != 0)) (rel := RD X.K X.mg) (W := W) (σ := σ) rep rfl p⟩
          | bl k => cases rdv; exact .inr ⟨_, rfl, post.val (a := D.bl k) (rel := RD X.K X.mg) (W := W) (σ := σ) rep rfl p⟩
          | _ => exact (show False from p).elim
        · refine call_abs pins s σ H _ _ Q I one ?_
          cases d with
          | int i => cases rdv; exact ⟨_, rfl, post.val (a := D.int (if i < 0 then -i else i)) (rel := RD X.K X.mg) (W := W) (σ := σ) rep rfl p⟩
          | _ => exact (show False from p).elim
        · refine call_list_of pins s σ H _ _ Q I one ?_
          cases d with
          | tup zs =>
            have p : post X.K X.mg (RD X.K X.mg) W (.ok (.obj μ.length) (μ ++ [.lst zs])) φ H σ Q := p
            obtain ⟨q, vs, rfl, h1, h2⟩ := rdv
            exact ⟨_, _, rfl, .inr h1, new_lst rep h2 p⟩
          | obj i =>
            have p : post X.K X.mg (RD X.K X.mg) W (match lstOf μ i with
              | some xs => .ok (.obj μ.length) (μ ++ [.lst xs])
              | none => .bad) φ H σ Q := p
            split at p
            · rename_i zs ez
              obtain ⟨q, vs, h1, h2, h3⟩ := rep.list ez
              obtain ⟨q', z, rfl⟩ := rdv
              rw [h1] at z; cases z
              exact ⟨_, _, rfl, .inl h2, new_lst rep h3 p⟩
            · exact p.elim
          | _ => exact (show False from p).elim
        · refine call_tuple_of pins s σ H _ _ Q I one ?_
          cases d with
          | tup zs =>
            have p : post X.K X.mg (RD X.K X.mg) W (.ok (.tup zs) μ) φ H σ Q := p
            obtain ⟨q, vs, rfl, h1, h2⟩ := rdv
            exact ⟨_, _, rfl, .inr ⟨h1, p.val rep ⟨_, _, rfl, h1, h2⟩⟩⟩
          | obj i =>
            have p : post X.K X.mg (RD X.K X.mg) W (match lstOf μ i with
              | some xs => .ok (.tup xs) μ
              | none => .bad) φ H σ Q := p
            split at p
            · rename_i zs ez
              obtain ⟨q, vs, h1, h2, h3⟩ := rep.list ez
              obtain ⟨q', z, rfl⟩ := rdv
              rw [h1] at z; cases z
              refine ⟨_, _, rfl, .inl ⟨h2, fun l hl => ?_⟩⟩
              exact p φ _ _ (Ex.junk hl) (rep.junk hl) ⟨l, _, rfl, .inl (.inl upd_same), RDs.mono (Ex.junk hl) _ _ h3⟩
            · exact p.elim
          | _ => exact (show False from p).elim
        · refine call_str_int pins s σ H _ _ Q I one ?_
          cases d with
          | int i =>
            have p : post X.K X.mg (RD X.K X.mg) W (if i.natAbs.log2 < 1920 then .ok (.str ((toString i).toList.map Char.toNat)) μ else .bad) φ H σ Q := p
            split at p
            · rename_i hl
              cases rdv
              refine ⟨_, rfl, hl, ?_⟩
              have e : (PySem.Str.ofString (toString i) : PySem.Str) = stS (decS i) := (decS_eq i).symm
              rw [show (((toString i : String) : PySem.Str)) = stS (decS i) from e]
              exact p.val rep rfl
            · exact p.elim
          | _ => exact (show False from p).elim
  · have hn : ∀ (ds : List D), (∀ x, ds = [x] → False) → bifD b ds μ = .bad := by
      intro ds h
      unfold bifD
      split <;> first | rfl | exact (h _ rfl).elim
    rw [hn _ (by assumption)] at p
    exact p.elim
end
end Py
end

section
set_option Elab.async false
set_option linter.all false
set_option maxRecDepth 100000
set_option maxHeartbeats 2000000
set_option autoImplicit false
/-! The Py layer, part 7: attributes, methods, new instances. -/
namespace Py
open PySem L2
section
variable {X : Cx} {W : WX} {n : Nat} {g : G} {xs : Option (Nat × Addr)} {o e : Expr} {es : List Expr} {pos apos : Pos} {ta : TE} {t : TA} {m : PySem.Str}
variable {pins : List (Addr × Obj)} {σ : L2.St} {H : Hp} {s : Shared} {Q : VK} {φ : List Addr} {μ : Store}
/-- a call that may follow: the def at f with the values vs -/
def Goes (X : Cx) (f : Addr) (vs : List V) (σ : L2.St) (H : Hp) (Q : VK) : Prop :=
  ∀ (pins : List (Addr × Obj)) (s : Shared) (us : List Value), Inv X pins σ H s → Vals vs us → wpAny (model X.prog X.w) X.A (call (.ref f) us) (EP X pins σ Q) X.xe s
/-- o.m(..), m a def of o's class -/
def tOwnM (X : Cx) (m : PySem.Str) (ta : TE) (t : TA) : TE := fun σ H Q => ta σ H fun x H1 => ∃ a C dx fs f, x = .ref a ∧ H1 a = some (.ins C dx fs) ∧ Cls X.K C ∧ Meth X.K C m f ∧ fs.lookup m = none ∧
  t σ H1 fun vs H2 => Goes X f (.ref a :: vs) σ H2 Q
theorem pe_ownM {pl : Sem Bool} (he : PE X o ta) (ha : PA X (e :: es) t) (hst : starEach (e :: es) X.env = (false, eval e X.env) :: starEach es X.env) (hpl : (backTo pos (starEach es X.env)).any (·.1) = false)
    (ht : eval (.Call (.Attribute o m apos) (e :: es) [] pos) X.env = (do
      let ov ← eval o X.env
      standAt apos.atName
      let (f, first) ← holding [ov] (getMethod ov m pl)
      callWith pos f first (backTo pos (starEach (e :: es) X.env)) (backToKw pos (keywordEach [] X.env)))) :
    PE X (.Call (.Attribute o m apos) (e :: es) [] pos) (tOwnM X m ta t) := by
  refine ⟨fun pins s σ H Q I h => PySem.W.methodCall_KW (pl := pl) (thn (he.run pins s σ H _ I h) fun u s1 hu => ?_) ht⟩
  obtain ⟨x, H1, I1, rx, a, C, dx, fs, f, rfl, ea, c, hm, l, q⟩ := hu
  cases rx
  refine getmeth_ok I1 ea c hm l (PySem.W.callWith_K (first := [.ref a]) (h₀ := X.base) I1.ok.mod.kin hm.kp (thn (ha.run pos pins s1 σ H1 _ I1 q) fun us s2 h2 => ?_) hst hpl)
  obtain ⟨vs, H2, I2, r, q2⟩ := h2
  exact ⟨I2.kIn, q2 pins s2 (.ref a :: us) I2 (.cons rfl r)⟩
theorem pe_ownM0 {pl : Sem Bool} (he : PE X o ta)
    (ht : eval (.Call (.Attribute o m apos) [] [] pos) X.env = (do
      let ov ← eval o X.env
      standAt apos.atName
      let (f, first) ← holding [ov] (getMethod ov m pl)
      callWith pos f first (backTo pos (starEach [] X.env)) (backToKw pos (keywordEach [] X.env)))) :
    PE X (.Call (.Attribute o m apos) [] [] pos) (tOwnM X m ta tNil) := by
  refine ⟨fun pins s σ H Q I h => PySem.W.methodCall_KW (pl := pl) (thn (he.run pins s σ H _ I h) fun u s1 hu => ?_) ht⟩
  obtain ⟨x, H1, I1, rx, a, C, dx, fs, f, rfl, ea, c, hm, l, q⟩ := hu
  cases rx
  exact getmeth_ok I1 ea c hm l (PySem.W.callWith_K0 (first := [.ref a]) I1.kIn hm.kp (q pins s1 [.ref a] I1 (.cons rfl .nil)))
/-- f(..), the def that a global name stands for -/
def tFun (X : Cx) (f : Addr) (t : TA) : TE := fun σ H Q => t σ H fun vs H1 => Goes X f vs σ H1 Q
theorem pe_fun {x : PySem.Str} {p : Pos} {f : Addr} (hg : Gl X x) (hm : X.mg x = some (.ref f)) (hk : PySem.W.keepIn X.K (.ref f) = true) (ha : PA X (e :: es) t) (hdb : (x == ("__debug__" : PySem.Str)) = false)
    (hst : starEach (e :: es) X.env = (false, eval e X.env) :: starEach es X.env) (hpl : (backTo pos (starEach es X.env)).any (·.1) = false) : PE X (.Call (.Name x p) (e :: es) [] pos) (tFun X f t) := by
  refine ⟨fun pins s σ H Q I h => wpAny_Call_Name_kw (ld_glob I hg hm ?_ hdb)⟩
  refine PySem.W.callWith_K (h₀ := X.base) I.ok.mod.kin hk (thn (ha.run pos pins s σ H _ I h) fun us s1 h1 => ?_) hst hpl
  obtain ⟨vs, H1, I1, r, q⟩ := h1
  exact ⟨I1.kIn, q pins s1 us I1 r⟩
theorem pe_fun0 {x : PySem.Str} {p : Pos} {f : Addr} (hg : Gl X x) (hm : X.mg x = some (.ref f)) (hk : PySem.W.keepIn X.K (.ref f) = true) (hdb : (x == ("__debug__" : PySem.Str)) = false) : PE X (.Call (.Name x p) [] [] pos) (tFun X f tNil) := by
  refine ⟨fun pins s σ H Q I h => wpAny_Call_Name_kw (ld_glob I hg hm ?_ hdb)⟩
  exact PySem.W.callWith_K0 I.kIn hk (h pins s [] I .nil)
/-- a def is worth what g says -/
theorem goes_fn (c : Call X W n g) {key : String} {f : Addr} (fa : FnAt X.prog X.w X.K X.mg X.base n g key f) {vs : List V} {ds : List D} (rep : Rep X.K X.mg φ μ H) (rd : RDs X.K X.mg φ H ds vs) (p : post X.K X.mg (RD X.K X.mg) W (g.callF key ds μ) φ H σ Q) : Goes X f vs σ H Q :=
  fun pins s us I r => callF_run fa ((c.hot0 p).mono (by omega)) c.tk I r rep rd p
/-- C(..) -/
theorem goes_new (c : Call X W n g) {k key : String} {f C : Addr} (own : OwnAt X.K X.mg k C) (M : Mk X.K C f) (fa : FnAt X.prog X.w X.K X.mg X.base n g key f) (hi : g.init k = some key) {vs : List V} {ds : List D} (rep : Rep X.K X.mg φ μ H) (rd : RDs X.K X.mg φ H ds vs)
    (p : post X.K X.mg (RD X.K X.mg) W (newD g k ds μ) φ H σ Q) : Goes X C vs σ H Q := by
  intro pins s us I r
  have I2 := Inv.made (C := C) I
  have f1 : H (s.heap.objs.size + 1) = none := I.hok.fresh (Nat.le_succ _)
  have f2 : H s.heap.objs.size = none := I.hok.fresh (Nat.le_refl _)
  have ne : s.heap.objs.size ≠ s.heap.objs.size + 1 := Nat.ne_of_lt (Nat.lt_succ_self _)
  generalize hH2 : upd (upd H s.heap.objs.size (.own (s.heap.objs.size + 1))) (s.heap.objs.size + 1) (.ins C s.heap.objs.size []) = H2 at I2
  have f3 : (upd H s.heap.objs.size (.own (s.heap.objs.size + 1))) (s.heap.objs.size + 1) = none := by rw [upd_ne ne.symm]; exact f1
  have rep1 := rep.junk (o := .own (s.heap.objs.size + 1)) f2
  have rep2 : Rep X.K X.mg (φ ++ [s.heap.objs.size + 1]) (μ ++ [.ins k []]) H2 := by
    rw [← hH2]
    exact rep1.new f3 ⟨C, s.heap.objs.size, [], own.at_, upd_same, rfl⟩
  have ex2 : Ex φ H (φ ++ [s.heap.objs.size + 1]) H2 := by
    rw [← hH2]
    exact (Ex.junk f2).trans (Ex.new f3)
  have hat : (φ ++ [s.heap.objs.size + 1])[μ.length]? = some (s.heap.objs.size + 1) := by rw [← rep.len]; simp
  have rd2 : RDs X.K X.mg (φ ++ [s.heap.objs.size + 1]) H2 (.obj μ.length :: ds) (.ref (s.heap.objs.size + 1) :: vs) := RDs.cons ⟨_, hat, rfl⟩ (RDs.mono ex2 _ _ rd)
  have p2 : post X.K X.mg (RD X.K X.mg) W (g.callF key (.obj μ.length :: ds) (μ ++ [.ins k []])) (φ ++ [s.heap.objs.size + 1]) H2 σ fun v H3 => v = .non ∧ Q (.ref (s.heap.objs.size + 1)) H3 := by
    have p' : post X.K X.mg (RD X.K X.mg) W ((g.callF key (.obj μ.length :: ds) (μ ++ [.ins k []])).bind fun v μ' => if isNon v = true then .ok (.obj μ.length) μ' else .bad) φ H σ Q := by
      unfold newD at p
      rw [hi] at p
      exact p
    refine (post.bind (rel := RD X.K X.mg) (post.mono ex2 p')).imp fun v H3 q => ?_
    obtain ⟨φ3, μ3, d, _, e3, rep3, rv, q3⟩ := q
    split at q3
    · rename_i hn
      exact ⟨isNon_eq rv hn, q3 φ3 H3 _ Ex.refl rep3 ⟨_, e3.get hat, rfl⟩⟩
    · exact q3.elim
  have room : Room (2 * n + 1) X.A := by
    unfold newD at p
    rw [hi] at p
    exact c.hot p
  have hfr : (X.A.under (.builtin "type.__call__" ⟨.ref C :: us, []⟩)).frames = some X.stack := (I2.env0.make C us []).frames
  refine wpAny_call (make_map (f := f) I.kIn M.makes M.init (beq_iff_eq.mp M.fn) (codeAny_mono (callF_codeA fa (room.make C us []) hfr c.tk I2 (Paired.cons (show RelV (V.ref (s.heap.objs.size + 1)) (.ref (s.heap.objs.size + 1)) from rfl) r) rep2 rd2 p2) fun z s' hq => ?_))
  cases z with
  | error er => exact hq
  | ok fl =>
    cases fl with
    | ret u =>
      obtain ⟨v, H3, I3, rv, ev, q3⟩ := hq
      subst ev
      exact ⟨rv, .ref (s.heap.objs.size + 1), H3, I3, rfl, q3⟩
    | _ => exact hq.elim
/-! ### methods of lists and texts -/
def canM (X : Cx) (W : WX) (f : D → List D → Store → R D) : V → List V → L2.St → Hp → VK → Prop := fun x xs σ H Q =>
  ∃ φ μ d ds, Rep X.K X.mg φ μ H ∧ RD X.K X.mg φ H d x ∧ RDs X.K X.mg φ H ds xs ∧ post X.K X.mg (RD X.K X.mg) W (f d ds μ) φ H σ Q
def lM (m : String) (d : D) (ds : List D) (μ : Store) : R D := match d with
  | .obj i => lmeth i m ds μ
  | _ => .bad
def sM (m : String) (d : D) (ds : List D) (μ : Store) : R D := match d with
  | .str s => smeth s m ds μ
  | _ => .bad
theorem lst_at {i : Nat} {ds : List D} {x : V} (rep : Rep X.K X.mg φ μ H) (rd : RD X.K X.mg φ H (.obj i) x) (h : μ[i]? = some (.lst ds)) : ∃ a vs, x = .ref a ∧ φ[i]? = some a ∧ H a = some (.lst vs) ∧ RDs X.K X.mg φ H ds vs := by
  obtain ⟨a, h1, vs, h2, h3⟩ := rep.at_ i _ h
  obtain ⟨a', h4, rfl⟩ := rd
  rw [h1] at h4; cases h4
  exact ⟨a, vs, rfl, h1, h2, h3⟩
theorem loose_lst {a : Addr} {vs : List V} (h : H a = some (.lst vs)) : Loose (H a) := by rw [h]; trivial
theorem put_lst {i : Nat} {a : Addr} {vs vs' : List V} {ds' : List D} (rep : Rep X.K X.mg φ μ H) (hi : φ[i]? = some a) (h : H a = some (.lst vs)) (r : RDs X.K X.mg φ H ds' vs') :
    Ex φ H φ (upd H a (.lst vs')) ∧ Rep X.K X.mg φ (μ.set i (.lst ds')) (upd H a (.lst vs')) :=
  ⟨Ex.put (loose_lst h), rep.put hi (loose_lst h) ⟨vs', upd_same, RDs.mono (Ex.put (loose_lst h)) _ _ r⟩⟩
theorem line_lt {k n : Nat} (e : k = n) (h : n < line) : k < sizeLine := by rw [e, ← line_eq]; exact h
theorem lm_append {x : V} {vs : List V} (h : canM X W (lM "append") x vs σ H Q) : rAppend x vs H Q := by
  obtain ⟨φ, μ, d, ds, rep, rd, rds, p⟩ := h
  cases d with
  | obj i =>
    replace p : post X.K X.mg (RD X.K X.mg) W (lmeth i "append" ds μ) φ H σ Q := p
    unfold lmeth at p
    split at p
    · rename_i y zs e1 e2
      obtain ⟨a, us, rfl, h1, h2, h3⟩ := lst_at rep rd e2
      obtain ⟨v, r0, rfl, rv, h0⟩ := rds
      cases h0
      split at p
      · rename_i hl
        obtain ⟨e, r⟩ := put_lst rep h1 h2 (RDs.append h3 (RDs.cons rv RDs.nil))
        exact ⟨a, us, v, rfl, rfl, h2, line_lt h3.length hl, p φ _ _ e r rfl⟩
      · exact p.elim
    · first | exact absurd ‹("append" : String) = "pop"› (by decide) | exact absurd ‹("append" : String) = "reverse"› (by decide)
    · first | exact absurd ‹("append" : String) = "pop"› (by decide) | exact absurd ‹("append" : String) = "reverse"› (by decide)
    · exact p.elim
  | _ => exact (show False from p).elim
theorem lm_pop {x : V} {vs : List V} (h : canM X W (lM "pop") x vs σ H Q) : rPop x vs H Q := by
  obtain ⟨φ, μ, d, ds, rep, rd, rds, p⟩ := h
  cases d with
  | obj i =>
    replace p : post X.K X.mg (RD X.K X.mg) W (lmeth i "pop" ds μ) φ H σ Q := p
    unfold lmeth at p
    split at p
    · first | exact absurd ‹("pop" : String) = "append"› (by decide) | exact absurd ‹("pop" : String) = "reverse"› (by decide)
    · rename_i zs e1 e2
      obtain ⟨a, us, rfl, h1, h2, h3⟩ := lst_at rep rd e2
      cases rds
      split at p
      · rename_i y ey
        rw [List.getLast?_eq_getElem?] at ey
        obtain ⟨v, g1, g2⟩ := h3.get ey
        rw [← h3.length] at g1
        obtain ⟨e, r⟩ := put_lst rep h1 h2 h3.dropLast
        exact ⟨a, us, v, rfl, rfl, h2, g1, p φ _ _ e r (RD.mono e _ _ g2)⟩
      · exact p.elim
    · first | exact absurd ‹("pop" : String) = "append"› (by decide) | exact absurd ‹("pop" : String) = "reverse"› (by decide)
    · exact p.elim
  | _ => exact (show False from p).elim
theorem lm_reverse {x : V} {vs : List V} (h : canM X W (lM "reverse") x vs σ H Q) : rReverse x vs H Q := by
  obtain ⟨φ, μ, d, ds, rep, rd, rds, p⟩ := h
  cases d with
  | obj i =>
    replace p : post X.K X.mg (RD X.K X.mg) W (lmeth i "reverse" ds μ) φ H σ Q := p
    unfold lmeth at p
    split at p
    · first | exact absurd ‹("reverse" : String) = "append"› (by decide) | exact absurd ‹("reverse" : String) = "pop"› (by decide)
    · first | exact absurd ‹("reverse" : String) = "append"› (by decide) | exact absurd ‹("reverse" : String) = "pop"› (by decide)
    · rename_i zs e1 e2
      obtain ⟨a, us, rfl, h1, h2, h3⟩ := lst_at rep rd e2
      cases rds
      obtain ⟨e, r⟩ := put_lst rep h1 h2 h3.reverse
      exact ⟨a, us, rfl, rfl, h2, p φ _ _ e r rfl⟩
    · exact p.elim
  | _ => exact (show False from p).elim
theorem pre_take : ∀ (p s : S), pre p s = (s.take p.length == p)
  | [], s => by simp [pre]
  | a :: x, [] => by simp [pre]
  | a :: x, b :: y => by
    show (a == b && pre x y) = ((b :: y).take (x.length + 1) == a :: x)
    rw [pre_take x y, List.take_succ_cons]
    rw [Bool.eq_iff_iff]
    simp only [Bool.and_eq_true, beq_iff_eq, List.cons.injEq]
    exact ⟨fun h => ⟨h.1.symm, h.2⟩, fun h => ⟨h.1.symm, h.2⟩⟩
theorem subAt_pre (s p : S) : Builtin.Str.subAt (stS s) (stS p) 0 = pre p s := by
  unfold Builtin.Str.subAt
  rw [pre_take, stS_len]
  show ((s.toArray.extract 0 (0 + p.length)) == p.toArray) = _
  rw [Bool.eq_iff_iff]
  simp only [beq_iff_eq]
  constructor
  · intro h
    have := congrArg Array.toList h
    simpa using this
  · intro h
    apply Array.toList_inj.mp
    simpa using h
theorem pre_len {s p : S} (h : pre p s = true) : p.length ≤ s.length := by
  rw [pre_take] at h
  have := congrArg List.length (eq_of_beq h)
  rw [List.length_take] at this
  omega
theorem starts_eq (s p : S) : Txt.startswith (stS s) (stS p) = pre p s := by
  show (decide (0 + (stS p).length ≤ (stS s).length) && Builtin.Str.subAt (stS s) (stS p) 0) = pre p s
  rw [subAt_pre, stS_len, stS_len]
  cases h : pre p s with
  | false => simp
  | true =>
    have := pre_len h
    simp only [Bool.and_true, decide_eq_true_eq]
    omega
theorem rmpre_eq (s p : S) : Txt.removeprefix (stS s) (stS p) = stS (if pre p s = true then s.drop p.length else s) := by
  show Txt.affix (stS s) (if Builtin.Str.subAt (stS s) (stS p) 0 = true then some ((stS p).length, (stS s).length) else none) = _
  rw [subAt_pre, stS_len, stS_len]
  by_cases h : pre p s = true
  · rw [if_pos h, if_pos h]
    have hl := pre_len h
    show (if (s.length - p.length == (stS s).length) = true then stS s else Builtin.Str.strSub (stS s) p.length s.length) = _
    rw [stS_len]
    split
    · rename_i e
      have e : s.length - p.length = s.length := eq_of_beq e
      have : p.length = 0 := by omega
      rw [this, List.drop_zero]
    · have e := TL.tl_strSub (stS s) p.length s.length
      have e2 : (Builtin.Str.strSub (stS s) p.length s.length).cps.toList = s.drop p.length := by
        rw [show (Builtin.Str.strSub (stS s) p.length s.length).cps.toList = TL.tl (Builtin.Str.strSub (stS s) p.length s.length) from rfl, e]
        show ((stS s).cps.toList.drop p.length).take (s.length - p.length) = s.drop p.length
        rw [stS_list]
        apply List.take_of_length_le
        rw [List.length_drop]
        exact Nat.le_refl _
      have : Builtin.Str.strSub (stS s) p.length s.length = ⟨((Builtin.Str.strSub (stS s) p.length s.length).cps.toList).toArray⟩ := by simp
      rw [this, e2]
      rfl
  · rw [if_neg h, if_neg h]
    rfl
theorem smeth_one (s : S) (m : String) (ds : List D) (μ : Store) : (∃ q, ds = [.str q]) ∨ smeth s m ds μ = .bad := by
  unfold smeth
  split
  · exact .inl ⟨_, rfl⟩
  · exact .inl ⟨_, rfl⟩
  · exact .inr rfl
theorem sm_starts {x : V} {vs : List V} (h : canM X W (sM "startswith") x vs σ H Q) : ∃ a b, x = .str a ∧ vs = [.str b] ∧ Q (.bl (Txt.startswith a b)) H := by
  obtain ⟨φ, μ, d, ds, rep, rd, rds, p⟩ := h
  cases d with
  | str s =>
    replace p : post X.K X.mg (RD X.K X.mg) W (smeth s "startswith" ds μ) φ H σ Q := p
    cases rd
    rcases smeth_one s "startswith" ds μ with ⟨q, rfl⟩ | e
    · replace p : post X.K X.mg (RD X.K X.mg) W (.ok (.bl (pre q s)) μ) φ H σ Q := p
      obtain ⟨v, r0, rfl, rv, h0⟩ := rds
      cases h0; cases rv
      exact ⟨stS s, stS q, rfl, rfl, by rw [starts_eq]; exact p.val rep rfl⟩
    · rw [e] at p; exact p.elim
  | _ => exact (show False from p).elim
theorem sm_rmpre {x : V} {vs : List V} (h : canM X W (sM "removeprefix") x vs σ H Q) : ∃ a b, x = .str a ∧ vs = [.str b] ∧ a.length ≤ sizeLine ∧ Q (.str (Txt.removeprefix a b)) H := by
  obtain ⟨φ, μ, d, ds, rep, rd, rds, p⟩ := h
  cases d with
  | str s =>
    replace p : post X.K X.mg (RD X.K X.mg) W (smeth s "removeprefix" ds μ) φ H σ Q := p
    cases rd
    rcases smeth_one s "removeprefix" ds μ with ⟨q, rfl⟩ | e
    · replace p : post X.K X.mg (RD X.K X.mg) W (if s.length ≤ line then .ok (.str (if pre q s then s.drop q.length else s)) μ else .bad) φ H σ Q := p
      split at p
      · rename_i hl
        obtain ⟨v, r0, rfl, rv, h0⟩ := rds
        cases h0; cases rv
        exact ⟨stS s, stS q, rfl, rfl, by rw [stS_len, ← line_eq]; exact hl, by rw [rmpre_eq]; exact p.val rep rfl⟩
      · exact p.elim
    · rw [e] at p; exact p.elim
  | _ => exact (show False from p).elim
/-! ### isinstance -/
theorem TyN.eq {x : String} {mg : PySem.Str → Option Value} {t t' : Value} (h : TyN mg x t) (h' : TyN mg x t') : t = t' := by
  rcases h with ⟨C, e, rfl⟩ | ⟨e, rfl⟩ <;> rcases h' with ⟨C', e', rfl⟩ | ⟨e', rfl⟩
  · rw [e] at e'; exact Option.some.inj e'
  · rw [e] at e'; cases e'
  · rw [e] at e'; cases e'
  · rfl
theorem tyx_of (G1 : GOk X.prog X.w X.K X.mg X.base n g) {d : D} {v : V} {t : String} (rep : Rep X.K X.mg φ μ H) (rd : RD X.K X.mg φ H d v) (h : tyOf g d μ = some t) : ∃ tv, TyN X.mg t tv ∧ TyX X.K H v tv := by
  have nb : ∀ x, x ∈ ["NoneType", "bool", "int", "str", "tuple", "list"] → TyN X.mg x (.type x) := fun x hx => .inr ⟨G1.nb x hx, rfl⟩
  unfold tyOf at h
  split at h
  · cases h; cases rd; exact ⟨_, nb _ (by simp), .base .non⟩
  · cases h; cases rd; exact ⟨_, nb _ (by simp), .base (.bl _)⟩
  · cases h; cases rd; exact ⟨_, nb _ (by simp), .base (.int _)⟩
  · cases h; cases rd; exact ⟨_, nb _ (by simp), .base (.str _)⟩
  · cases h
    obtain ⟨a, vs, rfl, h1, _⟩ := rd
    refine ⟨_, nb _ (by simp), ?_⟩
    rcases h1 with (h1 | ⟨o, h1⟩) | ⟨o, its, k, h1, h2, _⟩
    · exact .base (.tup h1)
    · exact .fTuple h1
    · exact .kTuple h1 h2
  · obtain ⟨a, ha, rfl⟩ := rd
    split at h
    · rename_i e
      cases h
      obtain ⟨a', h1, vs, h2, _⟩ := rep.at_ _ _ e
      rw [ha] at h1; cases h1
      exact ⟨_, nb _ (by simp), .base (.lst h2)⟩
    · rename_i c fs e
      split at h
      · rename_i hc
        cases h
        obtain ⟨a', h1, C, dx, l, h2, h3, _⟩ := rep.at_ _ _ e
        rw [ha] at h1; cases h1
        obtain ⟨C', own⟩ := G1.insc _ hc
        obtain rfl := own_eq own h2
        exact ⟨_, .inl ⟨_, own.at_, rfl⟩, .base (.ins h3 own.cl own.ha own.hn own.htk own.hm)⟩
      · cases h
    · cases h
  · cases h
theorem kits_of (G1 : GOk X.prog X.w X.K X.mg X.base n g) {t : String} {tv : Value} (ht : TyN X.mg t tv) : ∀ {cs : List String} {us : List Value} {b : Bool}, anySub g t cs = some b → Paired (fun c u => TyN X.mg c u) cs us → PySem.W.kitAny X.K tv us = some b
  | [], _, _, h, p => by
    cases p
    exact h
  | c :: cs, _, b, h, p => by
    cases p with
    | cons p1 p2 =>
      unfold anySub at h
      cases e : g.sub t c with
      | none => rw [e] at h; cases h
      | some k =>
        rw [e] at h
        obtain ⟨tv', cv', h1, h2, h3⟩ := G1.sub _ _ _ e
        obtain rfl := ht.eq h1
        obtain rfl := p1.eq h2
        refine kitAny_cons h3 (fun hk => ?_) (fun hk => ?_)
        · subst hk
          exact kits_of G1 ht h p2
        · subst hk
          exact (Option.some.inj h).symm
theorem clsV_of {c : String} {u : Value} (h : TyN X.mg c u) : ∃ v, ClsV v u ∧ RelV v u := by
  rcases h with ⟨C, _, rfl⟩ | ⟨_, rfl⟩
  · exact ⟨.ref C, .own C, rfl⟩
  · exact ⟨.ty c, .ty c, rfl⟩
/-! ### attributes -/
theorem pe_getp {f : PySem.Str} (he : PE X e ta) (hab : attributeBase e f X.env (eval e X.env) = eval e X.env) :
    PE X (.Attribute e f pos) (fun σ H Q => ta σ H fun x H1 => ∀ pins s u, Inv X pins σ H1 s → RelV x u → wpAny (model X.prog X.w) X.A (getAttr u f true) (EP X pins σ Q) X.xe s) := by
  refine ⟨fun pins s σ H Q I h => attr_of hab (thn (he.run pins s σ H _ I h) fun u s1 hu => ?_)⟩
  obtain ⟨x, H1, I1, rx, q⟩ := hu
  exact q pins s1 u I1 rx
/-- a property that any promise serves -/
theorem getprop_R {CX : CXT} {k : Nat} {C p fa a dx : Addr} {fs : List (PySem.Str × V)} {f : PySem.Str} {sp : Sp} {E : XK} {b : Bool} {E' : Value → Shared → Prop} (I : Inv X pins σ H s) (ea : H a = some (.ins C dx fs)) (cl : Cls X.K C) (hp : PropOf X.K C f p fa)
    (F : FnR X.prog X.w X.K X.mg X.base CX k fa sp) (hr : Room (k + 1) X.A) (hx : Passes CX X.nox E) (h : sp [.ref a] H Q E) : wpAny (model X.prog X.w) X.A (getAttr (.ref a) f b) (EP X pins σ Q) E' s := by
  obtain ⟨mA, O, _⟩ := ins_get I.hok ea
  obtain ⟨od, J, _⟩ := O.look
  obtain ⟨r, hr0⟩ := hp.rec_
  have J1 := I.tok (s.toks + 1)
  have isc : (PySem.W.clsIn X.K C).isSome = true := by
    obtain ⟨cd, z, _⟩ := PySem.W.any_some cl.hd
    rw [z] <;> rfl
  have pg := PySem.W.plainGet_of (cl.get f)
  refine PySem.W.get_bind I.kIn J pg.1 (PySem.W.findObj_data isc hp.at_ hp.get hp.tak) pg.2 (wpAny_call (PySem.W.prop_get (s := { s with toks := s.toks + 1 }) I.kIn hr0 (codeAny_mono (F _ _ _ _ [.ref a] _ _ _ hr.in1 J1.env0.in1 (show Vals [V.ref a] [.ref a] from .cons rfl .nil) h) fun z s' hq => ?_)))
  cases z with
  | error er => exact (hx pins σ H _ er s' (J1.wish _) hq).elim
  | ok fl =>
    cases fl <;> first | exact (show False from hq).elim | skip
    rename_i u
    obtain ⟨v, H', J3, rv, q3⟩ := J1.after hq
    show wpAny _ _ (handedOut u) _ _ _
    rw [PySem.W.handedOut_of (handed_of rv)]
    exact wpAny_pure ⟨v, H', J3, rv, q3⟩
theorem attr_can (c : Call X W n g) {d : D} {v : V} {f : String} {u : Value} (I : Inv X pins σ H s) (rv : RelV v u) (rep : Rep X.K X.mg φ μ H) (rd : RD X.K X.mg φ H d v) (p : post X.K X.mg (RD X.K X.mg) W (attrD g d f μ) φ H σ Q) :
    wpAny (model X.prog X.w) X.A (getAttr u (nm f) true) (EP X pins σ Q) X.xe s := by
  unfold attrD at p
  split at p
  · rename_i i
    split at p
    · rename_i k fs e
      obtain ⟨a, h1, C, dx, l, h2, h3, h4⟩ := rep.at_ _ _ e
      obtain ⟨a', h5, rfl⟩ := rd
      rw [h1] at h5; cases h5
      cases rv
      have lk := h4.look f
      split at p
      · rename_i key e2
        obtain ⟨C', pr, fa, own, hp, F⟩ := c.gok.prop _ _ _ e2
        obtain rfl := own_eq own h2
        cases e3 : g.callF key [.obj i] μ with
        | ok d' μ' =>
          rw [e3] at p
          have room : Room (2 * n + 1) X.A := by
            rcases c.room with h | h
            · unfold G.callF at e3
              (repeat' split at e3) <;> first | (cases e3; done) | (rw [h] at e3; cases e3)
            · exact h
          refine getprop_R (E := E0) I h3 own.cl hp F.run room passL ⟨φ, μ, [.obj i], rep, RDs.cons ⟨a, h1, rfl⟩ RDs.nil, ?_⟩
          rw [e3]
          exact p
        | err x μ' => rw [e3] at p; exact p.elim
        | bad => rw [e3] at p; exact p.elim
      · split at p
        · rename_i v' e2
          rw [e2] at lk
          obtain ⟨w', l1, l2⟩ := lk
          split at p
          · rename_i hf
            obtain ⟨C', own, na⟩ := c.gok.fld _ _ hf
            obtain rfl := own_eq own h2
            exact getattr_ok I h3 own.cl na l1 fun u' s2 I2 ru => ⟨w', H, I2, ru, p.val rep l2⟩
          · exact p.elim
        · rename_i e2
          rw [e2] at lk
          split at p
          · rename_i v' e3
            obtain ⟨C', w', u', own, hcn, rdv⟩ := c.gok.con _ _ _ e3
            obtain rfl := own_eq own h2
            exact getcon_ok I h3 own.cl hcn lk fun s2 I2 => ⟨w', H, I2, hcn.rel, p.val rep (rdv φ H)⟩
          · exact p.elim
    · exact p.elim
  · exact p.elim
/-! ### comparisons -/
section
open PySem.Spec PyProof.Rows PySem.SeqAt PySem.Calls
def CO.own (o : CO) : Bool := match o with
  | .eq | .ne | .lt | .le | .gt | .ge => true
  | _ => false
section
variable {prog : Program} {w : World} {A : Around} {E : Value → Shared → Prop} {K : PySem.W.Frag} {x C f : Addr} {ox : Obj} {od : Option Obj} {b tb : Value}
theorem ifBound_objNe {M : Model} {A : Around} {E : Value → Shared → Prop} {args : List Value} {Q : Option Value → Shared → Prop} (X : K.In s.heap) (I : PySem.W.InstAt s.heap x ox C od) (hs : PySem.W.findIn K (.ref C) "__ne__" = some (some (.builtin "object.__ne__")))
    (h : wpAny M A (call (.builtin "object.__ne__") (.ref x :: args)) (fun v => Q (some v)) E s) : wpAny M A (callSpecialIfBound? (.ref x) "__ne__" args) Q E s := by
  simp only [callSpecialIfBound?, bindSpecialIfBound?]
  refine wpAny_holding (wpAny_bind (wpAny_bind (wpAny_bind (I.type.here ((PySem.W.looks_findIn X hs).here ?_)))))
  refine wpAny_bind (wpAny_askSetting (wpAny_ite ?_))
  have fin : wpAny M A (call (.builtin "object.__ne__") ([.ref x] ++ args) >>= fun v => pure (some v)) Q E s := wpAny_bind (wpAny_mono h (fun v s' h' => wpAny_pure h') fun _ _ h' => h')
  split
  · exact wpAny_bind (wpAny_of_eq (F.cmp_object.ne.bind _) (wpAny_pure (by exact fin)))
  · exact wpAny_tryCatch (wpAny_bind (wpAny_of_eq (F.cmp_object.ne.bind _) (wpAny_pure (by exact fin))))
theorem ne_K {Q : Value → Shared → Prop} (hu : A.units + 1 < cLine) (X : K.In s.heap) (I : PySem.W.InstAt s.heap x ox C od) (hm : PySem.W.mroIn K C (.type "object") = some true) (hb : PySem.W.Looks (model prog w) s.heap (typeOf b) tb) (hn : PySem.W.notFirst K C tb = true)
    (hs : PySem.W.findIn K (.ref C) "__ne__" = some (some (.builtin "object.__ne__"))) (he : PySem.W.findIn K (.ref C) "__eq__" = some (some (.ref f))) (hf : PySem.W.isFn K (.ref f) = true)
    (h : wpAny (model prog w) A.in1 (call (.ref f) [.ref x, b]) (fun v s' => ∃ k, v = .bool k ∧ Q (.bool (!k)) s') E s) : wpAny (model prog w) A (richCompare .NotEq (.ref x) b) Q E s := by
  have ent : wpAny (model prog w) A.in1 (Builtin.«object.__ne__» ⟨[.ref x, b], []⟩) (fun fin s' => ∃ v, fin = .done (.ret v) ∧ (∃ k, v = .bool k) ∧ Q v s') E s := by
    unfold Builtin.«object.__ne__»
    repeat (first
      | with_reducible refine wpAny_cRoomFor (show A.in1.units < cLine from hu) ?_
      | (refine wpAny_bind (m := callSpecialIfBound? (.ref x) (Str.ofString "__eq__") [b])
          (PySem.W.ifBound_K X I he hf (wpAny_mono h (fun r s' hr => by
            obtain ⟨k, rfl, hq⟩ := hr
            repeat (first | exact ⟨_, rfl, ⟨_, rfl⟩, hq⟩ | exact wpAny_pure ⟨_, rfl, ⟨_, rfl⟩, hq⟩ | exact wpAny_truthy_bool ⟨_, rfl, ⟨_, rfl⟩, hq⟩ | (refine wpAny_bind (m := truthy (.bool _)) (wpAny_truthy_bool ?_)) | wp_step)) fun _ _ e => e)))
      | wp_step)
  have one : wpAny (model prog w) A (tryCompare (.ref x) "__ne__" b) (fun r s' => ∃ v, r = some v ∧ Q v s') E s := by
    unfold tryCompare
    refine wpAny_bind (ifBound_objNe X I hs (wpAny_call (codeAny_call_builtin F.cmp_object.ne.plain F.cmpEntry_ne (PySem.W.check_slot F.cmpKind_ne F.cmpSplit_ne (I.type.andThen (PySem.W.looks_mroIn X hm)) (F.cmpArgs_ne _ _) (wpAny_mono ent (fun fin s' z => ?_) fun _ _ e => e)))))
    obtain ⟨v, rfl, ⟨k, rfl⟩, hq⟩ := z
    exact wpAny_pure ⟨_, rfl, hq⟩
  have e : (cmpInfo .NotEq).2.1 = ("__ne__" : PySem.Str) := by first | rfl | decide +kernel
  unfold richCompare
  simp only [oneThing_ref]
  refine wpAny_holding (wpAny_bind (wpAny_cRoomFor (Nat.lt_of_succ_lt hu) ?_))
  refine wpAny_bind (I.type.here (wpAny_bind (hb.here ?_)))
  rw [cmpInfo_NotEq]
  dsimp only
  split
  · rename_i q
    have e : PySem.W.subIn K tb (.ref C) = some false := by
      rcases Bool.or_eq_true_iff.mp hn with e | e
      · rw [beq_iff_eq.mp e] at q; simp at q
      · exact beq_iff_eq.mp e
    refine wpAny_bind ((PySem.W.looks_subIn X e).here ?_)
    simp only [Bool.false_eq_true, if_false]
    refine wpAny_bind (wpAny_mono one (fun r s' z => ?_) fun _ _ e => e)
    obtain ⟨v, rfl, hq⟩ := z
    exact wpAny_pure hq
  · refine wpAny_bind (wpAny_pure ?_)
    simp only [Bool.false_eq_true, if_false]
    refine wpAny_bind (wpAny_mono one (fun r s' z => ?_) fun _ _ e => e)
    obtain ⟨v, rfl, hq⟩ := z
    exact wpAny_pure hq
end
end
/-- what second says -/
theorem second_ok (c : Call X W n g) {k : String} {C : Addr} {pins : List (Addr × Obj)} {σ : L2.St} {H : Hp} {b : D} {y : V} {u : Value} (I : Inv X pins σ H s) (rep : Rep X.K X.mg φ μ H) (rb : RD X.K X.mg φ H b y) (ry : RelV y u) (hm : X.mg (nm k) = some (.ref C)) (h : second g k b μ = true) :
    ∃ tb, PySem.W.Looks (model X.prog X.w) s.heap (typeOf u) tb ∧ PySem.W.notFirst X.K C tb = true := by
  unfold second at h
  rcases Bool.or_eq_true_iff.mp h with h | h
  · obtain ⟨i, q, C', dx, l, fs, rfl, hμ, hφ, rfl, hm', hH, hF⟩ := ins_at rep rb (by simpa using h)
    rw [hm] at hm'
    cases hm'
    cases ry
    obtain ⟨mA, J, _⟩ := ins_get I.hok hH
    obtain ⟨od, J, _⟩ := J.look
    exact ⟨_, J.type, by simp [PySem.W.notFirst]⟩
  · split at h
    · rename_i t et
      obtain ⟨C', tv, own, ht, hf⟩ := c.gok.nfst _ _ h
      obtain rfl := own_eq own hm
      obtain ⟨tv', ht', ty⟩ := tyx_of c.gok rep rb et
      obtain rfl := ht.eq ht'
      obtain ⟨P, kx, hP, _⟩ := kit_of I ry ty
      exact ⟨_, kx.ty _ _ I.kIn hP, hf⟩
    · cases h
theorem op_copG (c : Call X W n g) (o : CO) (ho : ∀ c key, g.meth c o.dun = some key → o.own = true) : OpC X (compareOp o.op) (can2 X W (copG g o)) := by
  intro pins s σ H x y v u Q I rx ry h
  obtain ⟨φ, μ, a, b, rep, ra, rb, p⟩ := h
  unfold copG at p
  split at p
  · exact op_cop c.un o pins s σ H x y v u Q I rx ry ⟨φ, μ, a, b, rep, ra, rb, p⟩
  split at p
  · rename_i k e
    obtain ⟨i, q, C, dx, l, fs, rfl, hμ, hφ, rfl, hm, hH, hF⟩ := ins_at rep ra e
    cases rx
    obtain ⟨mA, J, _⟩ := ins_get I.hok hH
    obtain ⟨od, J, _⟩ := J.look
    split at p
    · rename_i key e3
      split at p
      · rename_i hsec
        have how := ho _ _ e3
        have hd : o = .eq ∨ o = .ne ∨ o = .lt ∨ o = .le ∨ o = .gt ∨ o = .ge := by
          cases o <;> first | (simp; done) | cases how
        have hop : ∀ v u, compareOp o.op v u = richCompare o.op v u := by
          cases o <;> first | (intro _ _; rfl) | cases how
        obtain ⟨C0, f, own, me, fa⟩ := c.gok.meth _ _ _ e3
        obtain rfl := own_eq own hm
        obtain ⟨tb, hl, hn⟩ := second_ok c I rep rb ry hm hsec
        obtain ⟨m, hF0⟩ := I.fr
        rw [hop]
        refine PySem.W.cmp_K (c.hot p).units0 hF0 I.ok.mod.kin J hl hn (by rw [dun_cop o hd]; exact me.at_) me.fn ?_
        have qq := post.bind (rel := RD X.K X.mg) p
        refine thn (callF_run fa ((c.hot p).mono (by omega)) c.tk I (show Vals [V.ref q, y] [.ref q, u] from .cons rfl (.cons ry .nil)) rep (RDs.cons ra (RDs.cons rb RDs.nil)) (qq.imp fun z H1 hz => ?_)) fun u s' hu => cmpBack_of hu
        obtain ⟨φ1, μ1, d, _, e1, rep1, rz, pz⟩ := hz
        split at pz
        · cases rz
          exact pz.val rep1 rfl
        · exact pz.elim
      · exact p.elim
    · split at p
      · rename_i hds
        split at p
        · rename_i key e4 _ _
          obtain ⟨C0, f, own, me, fa⟩ := c.gok.meth _ _ _ e4
          obtain rfl := own_eq own hm
          obtain ⟨C1, own1, hne⟩ := c.gok.dne _ hds.1
          obtain rfl := own_eq own1 hm
          obtain ⟨tb, hl, hn⟩ := second_ok c I rep rb ry hm hds.2
          have hr := c.hot p
          have qq := post.bind (rel := RD X.K X.mg) p
          have qq2 : post X.K X.mg (RD X.K X.mg) W (g.callF key [.obj i, b] μ) φ H σ (fun z H1 => ∃ k, z = .bl k ∧ Q (.bl (!k)) H1) := qq.imp fun z H1 hz => by
            obtain ⟨φ1, μ1, d, _, e1, rep1, rz, pz⟩ := hz
            split at pz
            · cases rz
              exact ⟨_, rfl, pz.val rep1 rfl⟩
            · exact pz.elim
          show wpAny _ _ (richCompare .NotEq _ _) _ _ _
          refine ne_K (by have := c.un; omega) I.kIn J own.hm hl hn hne me.at_ me.fn (thn (callF_runA fa ((hr.mono (by omega)).in1) I.ok.frames c.tk I (show Vals [V.ref q, y] [.ref q, u] from .cons rfl (.cons ry .nil)) rep (RDs.cons ra (RDs.cons rb RDs.nil)) qq2) fun u s' hu => ?_)
          obtain ⟨v, H1, I1, rv, k, rfl, q1⟩ := hu
          cases rv
          exact ⟨k, rfl, .bl (!k), H1, I1, rfl, q1⟩
        · exact p.elim
      · exact p.elim
  · exact op_cop c.un o pins s σ H x y v u Q I rx ry ⟨φ, μ, a, b, rep, ra, rb, p⟩
end
end Py
end

section
set_option Elab.async false
set_option linter.all false
set_option maxRecDepth 100000
set_option maxHeartbeats 2000000
set_option autoImplicit false
/-! The Py layer, part 8: what an expression's form gives. -/
namespace Py
open PySem L2
def notStar : Expr → Bool
  | .Starred .. => false
  | _ => true
theorem star_one {e : Expr} {es : List Expr} {env : PySem.Env} (h : notStar e = true) : starEach (e :: es) env = (false, eval e env) :: starEach es env := by
  cases e <;> first | rfl | cases h
theorem star_all : ∀ {es : List Expr} {env : PySem.Env} {pos : Pos}, es.all notStar = true → (backTo pos (starEach es env)).any (·.1) = false
  | [], _, _, _ => rfl
  | e :: es, env, pos, h => by
    simp only [List.all_cons, Bool.and_eq_true] at h
    rw [star_one h.1]
    have ih := star_all (es := es) (env := env) (pos := pos) h.2
    show (false || (backTo pos (starEach es env)).any (·.1)) = false
    rw [ih]
    rfl
theorem star_some : ∀ {es : List Expr} {env : PySem.Env} {pos : Pos}, es.all notStar = false → (backTo pos (starEach es env)).any (·.1) = true
  | [], _, _, h => by cases h
  | e :: es, env, pos, h => by
    cases e0 : notStar e with
    | true =>
      rw [List.all_cons, e0] at h
      rw [star_one e0]
      have ih := star_some (es := es) (env := env) (pos := pos) (by simpa using h)
      show (false || (backTo pos (starEach es env)).any (·.1)) = true
      rw [ih]
      rfl
    | false =>
      cases e <;> first | (cases e0; done) | rfl
def attB : Expr → Bool
  | .Call (.Name ..) [] [] _ => false
  | _ => true
theorem att_base {e : Expr} {f : PySem.Str} {env : PySem.Env} (h : attB e = true) : attributeBase e f env (eval e env) = eval e env := by
  cases e with
  | Call fn args kws p =>
    cases fn with
    | Name id q =>
      cases args with
      | nil => cases kws <;> first | rfl | cases h
      | cons a r => rfl
    | _ => rfl
  | _ => rfl
def plainT : Expr → Bool
  | .BoolOp .. => false
  | .UnaryOp .. => false
  | .Compare .. => false
  | .IfExp .. => false
  | .Constant .. => false
  | .NamedExpr .. => false
  | _ => true
theorem plain_true {e : Expr} {env : PySem.Env} (h : plainT e = true) : ∀ whole, isTrue e env whole = (do let v ← whole; standAt e.pos; holding [v] (truthy v)) := by
  intro whole
  cases e <;> first | rfl | cases h
def notComp : Expr → Bool
  | .ListComp .. => false
  | .SetComp .. => false
  | .DictComp .. => false
  | .GeneratorExp .. => false
  | _ => true
theorem no_swap {e : Expr} {t : Option Expr} {k : Nat} {env : PySem.Env} (h : notComp e = true) : swapsWith e t k env = pure false := by
  cases e <;> first | rfl | cases h
theorem no_swapS {tg e : Expr} {k : Nat} {env : PySem.Env} (h : notComp e = true) : swapsWithSole [tg] e k env = pure false := by
  cases e <;> first | rfl | cases h
def notSet : Expr → Bool
  | .Set .. => false
  | .ListComp .. => true
  | _ => true
theorem no_marks {e : Expr} {op : CmpOp} (h : notSet e = true) : behindInMarks op e = false := by
  cases e <;> first | rfl | cases h
theorem no_marks2 {a b : Expr} {op op' : CmpOp} (h : notSet a = true) (k : notSet b = true) : lastMarks [op, op'] [a, b] = false := by
  cases a <;> first | cases h; done | (cases b <;> first | rfl | cases k)
theorem no_fold {e : Expr} {env : PySem.Env} (h : notSet e = true) : ∀ x, foldedSetIterable e env x = pure x := by
  intro x
  cases e <;> first | rfl | cases h
theorem plain_ix {e : Expr} (h : (match e with | .Slice .. => false | .Tuple .. => false | .Constant .. => true | _ => true) = true) : PlainIx e := by
  intro o i
  cases e <;> first | rfl | cases h
theorem meth_eval {o : Expr} {args : List Expr} {m : PySem.Str} {apos pos : Pos} {env : PySem.Env} (hb : attributeBase o m env (eval o env) = eval o env)
    (hf : methodCallForm (args.length + ([] : List Keyword).length) (backTo pos (starEach args env)) (backToKw pos (keywordEach [] env)) = true) (hl : (apos.endLine == pos.line) = true) : eval (.Call (.Attribute o m apos) args [] pos) env = (do
      let ov ← eval o env
      standAt apos.atName
      let (f, first) ← holding [ov] (getMethod ov m (do return (← importBound o env).getD true))
      callWith pos f first (backTo pos (starEach args env)) (backToKw pos (keywordEach [] env))) := by
  rw [arm_eval_Call, hb]
  unfold methodCall
  rw [hf]
  have e2 : methodCallPos true o env apos pos = pure pos := by
    unfold methodCallPos
    rw [hl]
    rfl
  rw [e2]
  rfl
theorem few_ok {args : List Expr} {pos : Pos} {env : PySem.Env} (h : args.all notStar = true) (hl : args.length < 29) : methodCallForm (args.length + ([] : List Keyword).length) (backTo pos (starEach args env)) (backToKw pos (keywordEach [] env)) = true := by
  unfold methodCallForm
  have h1 : (backTo pos (starEach args env)).all (fun x => !x.1) = true := by
    have := star_all (es := args) (env := env) (pos := pos) h
    rw [List.all_eq_not_any_not]
    simpa using this
  rw [h1]
  have h2 : (backToKw pos (keywordEach [] env)) = [] := by first | rfl | simp [keywordEach, backToKw]
  rw [h2]
  simp
  omega
end Py
end

section
set_option Elab.async false
set_option linter.all false
set_option maxRecDepth 100000
set_option maxHeartbeats 2000000
set_option autoImplicit false
/-! The Py layer, part 9: expressions mean what their form says. -/
namespace Py
open PySem L2
/-- what is known of the names around -/
structure Ctx where
  N : List PySem.Str
  sc : List (PySem.Str × NameKind)
  hot : Bool
  blk : Bool
  exc : Option Nat
def visB (c : Ctx) (x : PySem.Str) : Bool := match c.sc.lookup x with
  | some .local => true
  | some .cell => true
  | some .free => true
  | _ => false
def locB (c : Ctx) (x : PySem.Str) : Bool := match c.sc.lookup x with
  | some .local => true
  | some .cell => !c.blk
  | _ => false
def glB (c : Ctx) (x : PySem.Str) : Bool := match c.sc.lookup x with
  | some .globalImplicit => true
  | _ => false
def dbg (x : PySem.Str) : Bool := !(x == ("__debug__" : PySem.Str)) && !(x == ("__classdict__" : PySem.Str)) && !(x == ("__name__" : PySem.Str))
def slot (c : Ctx) (i : Nat) (x : PySem.Str) : Bool := decide (c.N[i]? = some x) && (visB c x && dbg x)
def gname (c : Ctx) (s : String) (x : PySem.Str) : Bool := decide (x = nm s) && (glB c x && dbg x)
def opB : BO → Operator → Bool
  | .add, .Add => true | .sub, .Sub => true | .mul, .Mult => true | .fdiv, .FloorDiv => true | .mod, .Mod => true | .pow, .Pow => true | .bitand, .BitAnd => true | .bitor, .BitOr => true | .shr, .RShift => true
  | _, _ => false
def copB : CO → CmpOp → Bool
  | .eq, .Eq => true | .ne, .NotEq => true | .lt, .Lt => true | .le, .LtE => true | .gt, .Gt => true | .ge, .GtE => true | .is_, .Is => true | .isn, .IsNot => true | .in_, .In => true | .nin, .NotIn => true
  | _, _ => false
def uopB : UO → UnaryOp → Bool
  | .neg, .USub => true | .inv, .Invert => true
  | _, _ => false
def litB : D → Const → Bool
  | .non, .none => true
  | .bl a, .bool b => a == b
  | .int i, .int j => decide (i = j)
  | .str s, .str x => decide (x.cps.toList = s)
  | _, _ => false
theorem opB_ok {o : BO} {p : Operator} (h : opB o p = true) : p = o.op := by cases o <;> cases p <;> first | rfl | cases h
theorem copB_ok {o : CO} {p : CmpOp} (h : copB o p = true) : p = o.op := by cases o <;> cases p <;> first | rfl | cases h
theorem uopB_ok {o : UO} {p : UnaryOp} (h : uopB o p = true) : p = o.op := by cases o <;> cases p <;> first | rfl | cases h
def btys : List String := ["int", "bool", "str", "tuple", "list"]
/-- a class's name in an isinstance -/
def clsB (g : Gs) (c : Ctx) (k : String) : Expr → Bool
  | .Name x _ => gname c k x && g.clsn k
  | _ => false
def clssB (g : Gs) (c : Ctx) : List String → List Expr → Bool
  | [], [] => true
  | k :: ks, e :: es => clsB g c k e && clssB g c ks es
  | _, _ => false
def isiB (g : Gs) (c : Ctx) (many : Bool) (cs : List String) : Expr → Bool
  | .Tuple es _ _ => decide (es.length ≤ 1000) && clssB g c cs es
  | e => (match cs with
    | [k] => clsB g c k e
    | _ => false)
def okIx : Expr → Bool
  | .Slice .. => false
  | .Tuple .. => false
  | _ => true
def Tg.chk (c : Ctx) : Tg → Expr → Bool
  | .name i, .Name x _ => decide (c.N[i]? = some x) && (locB c x && decide (c.exc ≠ some i))
  | .tup is, .Tuple es _ _ => !c.hot && namesB c is es
  | _, _ => false
where namesB (c : Ctx) : List Nat → List Expr → Bool
  | [], [] => true
  | i :: is, .Name x _ :: es => (decide (c.N[i]? = some x) && (locB c x && decide (c.exc ≠ some i))) && namesB c is es
  | _, _ => false
/-- the names of a comprehension's target -/
def Tg.own : Tg → Expr → List (PySem.Str × Nat)
  | .name i, .Name x _ => [(x, i)]
  | .tup is, .Tuple es _ _ => ownB is es
  | _, _ => []
where ownB : List Nat → List Expr → List (PySem.Str × Nat)
  | i :: is, .Name x _ :: es => (x, i) :: ownB is es
  | _, _ => []
/-- a block's names -/
def relN (names sc : List (PySem.Str × NameKind)) : List (PySem.Str × NameKind) := names.map fun (n, k) => if (k == .free && sc.lookup n == some .cell) then (n, .cell) else (n, k)
def blkB (N : List PySem.Str) (sc : List (PySem.Str × NameKind)) (scope : Scope) (own : List (PySem.Str × Nat)) : Bool :=
  (match scope.kind with | .function => true | _ => false) && ((scope.names.all fun y => decide (scope.names.lookup y.1 = some y.2)) && ((own.all fun p => decide (N[p.2]? = some p.1)) &&
    (scope.names.all fun y => match y.2 with
      | .free => (match sc.lookup y.1 with | some .cell => true | some .free => true | _ => false)
      | .local => decide (y.1 ∈ own.map (·.1)) || decide (y.1 ∉ N)
      | .cell => decide (y.1 ∈ own.map (·.1)) || decide (y.1 ∉ N)
      | _ => true)))
def Ctx.block (c : Ctx) (names : List (PySem.Str × NameKind)) : Ctx := { N := c.N, sc := relN names c.sc, hot := false, blk := true, exc := none }
mutual
def E.chk (g : Gs) (c : Ctx) : E → Expr → Bool
  | .nope, _ => true
  | .var i, .Name x _ => slot c i x
  | .lit d, .Constant k _ _ => litB d k
  | .glo s, .Name x _ => gname c s x
  | .bin o a b, .BinOp a' o' b' _ => opB o o' && (E.chk g c a a' && E.chk g c b b')
  | .un o a, .UnaryOp o' a' _ => uopB o o' && E.chk g c a a'
  | .cmp o a b, .Compare a' [o'] [b'] _ => copB o o' && (notSet b' && (E.chk g c a a' && E.chk g c b b'))
  | .chain o p a b d, .Compare a' [o', p'] [b', d'] _ => copB o o' && (copB p p' && ((notSet b' && notSet d') && (E.chk g c a a' && (E.chk g c b b' && E.chk g c d d'))))
  | .band es, .BoolOp .And es' _ => Es.chkN g c es es'
  | .bor es, .BoolOp .Or es' _ => Es.chkN g c es es'
  | .not_ a, .UnaryOp .Not a' _ => E.chk g c a a' && E.chkT g c a a'
  | .ite t a b, .IfExp t' a' b' _ => (E.chk g c t t' && E.chkT g c t t') && (E.chk g c a a' && E.chk g c b b')
  | .tup es, .Tuple es' _ _ => Es.chk g c es es'
  | .lst es, .List es' _ => Es.chk g c es es'
  | .idx a i, .Subscript a' i' _ => okIx i' && (E.chk g c a a' && E.chk g c i i')
  | .slc a lo hi, .Subscript a' (.Slice lo' hi' none _) _ => E.chk g c a a' && (Es.chkO g c lo lo' && Es.chkO g c hi hi')
  | .call f es, .Call (.Name x _) es' [] _ => gname c f x && (g.fnk f && (es'.all notStar && Es.chk g c es es'))
  | .new k es, .Call (.Name x _) es' [] _ => gname c k x && ((g.init k).isSome && (es'.all notStar && Es.chk g c es es'))
  | .newS k es, .Call (.Name x _) (e' :: es') [] _ => gname c k x && ((g.init k).isSome && ((notStar e' && !es'.all notStar) && Es.chk g c es (e' :: es')))
  | .bif b es, .Call (.Name x _) es' [] _ => gname c b x && (decide (b ∈ bifs) && (!es'.isEmpty && (es'.all notStar && Es.chk g c es es')))
  | .isi a many cs, .Call (.Name x _) [a', k'] [] _ => gname c "isinstance" x && (notStar k' && (isiB g c many cs k' && (E.chk g c a a' && notStar a')))
  | .ise i many cs, .Call (.Name x _) [.Name y _, k'] [] _ => gname c "isinstance" x && (notStar k' && (isiB g c many cs k' && (slot c i y && decide (c.exc = some i))))
  | .meth o m es, .Call (.Attribute o' x ap) es' [] p => (decide (x = nm m) && (attB o' && (ap.endLine == p.line))) && (decide (es'.length < 29) && (E.chk g c o o' && (es'.all notStar && Es.chk g c es es')))
  | .attr o f, .Attribute o' x _ => decide (x = nm f) && (attB o' && E.chk g c o o')
  | .cval s f, .Attribute (.Name y _) x _ => gname c s y && decide (x = nm f)
  | .clm s m es, .Call (.Attribute (.Name y _) x ap) es' [] p => (gname c s y && (g.clm s m).isSome) && ((decide (x = nm m) && (ap.endLine == p.line)) && (decide (es'.length < 29) && (!es'.isEmpty && (es'.all notStar && Es.chk g c es es'))))
  | .callv i es, .Call (.Name x _) es' [] _ => slot c i x && (!es'.isEmpty && (es'.all notStar && Es.chk g c es es'))
  | .comp t x it ifs, .ListComp x' [⟨t', i', ifs', 0⟩] scope _ => (!c.hot && decide (c.exc = none)) && ((blkB c.N c.sc scope (t.own t') && decide ((t.own t').map (·.2) = t.slots)) && (notSet i' && (It.chk g c t' it i' && (Tg.chk (c.block scope.names) t t' && (Es.chkI g (c.block scope.names) ifs ifs' && E.chk g (c.block scope.names) x x')))))
  | .fmt e, .FormattedValue e' (-1) none _ => E.chk g c e e'
  | .fstr es, .JoinedStr es' _ => !es'.isEmpty && Es.chkJ g c es es'
  | _, _ => false
/-- may stand where a test stands -/
def E.chkT (g : Gs) (c : Ctx) : E → Expr → Bool
  | .nope, _ => true
  | .cmp _ _ _, .Compare .. => true
  | .chain .., .Compare .. => true
  | .band es, .BoolOp .And es' _ => Es.chkT g c es es'
  | .bor es, .BoolOp .Or es' _ => Es.chkT g c es es'
  | .not_ a, .UnaryOp .Not a' _ => E.chkT g c a a'
  | _, e => plainT e
def Es.chk (g : Gs) (c : Ctx) : Es → List Expr → Bool
  | .nil, [] => true
  | .cons e r, e' :: r' => (notStar e' && E.chk g c e e') && Es.chk g c r r'
  | .star e r, .Starred e' _ :: r' => E.chk g c e e' && Es.chk g c r r'
  | _, _ => false
/-- one at least -/
def Es.chkN (g : Gs) (c : Ctx) : Es → List Expr → Bool
  | .cons e .nil, [e'] => E.chk g c e e'
  | .cons e (.cons a r), e' :: r' => E.chk g c e e' && Es.chkN g c (.cons a r) r'
  | _, _ => false
def Es.chkT (g : Gs) (c : Ctx) : Es → List Expr → Bool
  | .nil, [] => true
  | .cons e r, e' :: r' => E.chkT g c e e' && Es.chkT g c r r'
  | _, _ => false
/-- a comprehension's tests -/
def Es.chkI (g : Gs) (c : Ctx) : Es → List Expr → Bool
  | .nil, [] => true
  | .cons e .nil, [e'] => E.chk g c e e' && E.chkT g c e e'
  | _, _ => false
def It.chk (g : Gs) (c : Ctx) (tg : Expr) : It → Expr → Bool
  | .over e, e' => E.chk g c e e'
  | .range1 a, .Call (.Name x _) [a'] [] _ => gname c "range" x && (notStar a' && E.chk g c a a')
  | .range2 a b, .Call (.Name x _) [a', b'] [] _ => gname c "range" x && ((notStar a' && E.chk g c a a') && (notStar b' && E.chk g c b b'))
  | .enum a, .Call (.Name x _) [a'] [] _ => (match tg with | .Tuple .. => true | _ => false) && (gname c "enumerate" x && (notStar a' && E.chk g c a a'))
  | _, _ => false
def Es.chkJ (g : Gs) (c : Ctx) : Es → List Expr → Bool
  | .nil, [] => true
  | .cons e r, e' :: r' => E.chk g c e e' && Es.chkJ g c r r'
  | _, _ => false
/-- none or one -/
def Es.chkO (g : Gs) (c : Ctx) : Es → Option Expr → Bool
  | .nil, none => true
  | .cons e .nil, some e' => E.chk g c e e'
  | _, _ => false
end
/-- the class that a name stands for, in an isinstance -/
def ClN (mg : PySem.Str → Option Value) (x : String) (t : Value) : Prop := (∃ C, mg (nm x) = some (.ref C) ∧ t = .ref C) ∨ (mg (nm x) = none ∧ bootBuiltins (nm x) = some (.type x) ∧ t = .type x)
/-- what a class of the text's own exceptions says -/
structure ExcAt (K : PySem.W.Frag) (mg : PySem.Str → Option Value) (c : String) (C : Addr) : Prop where
  at_ : mg (nm c) = some (.ref C)
  is_ : ExcC K C
  ex : PySem.W.excIn K C He.veBase "ValueError.__new__" = true
  kp : PySem.W.keepIn K (.ref C) = true
  ty : PySem.W.typeIn K (.ref C) = some (.type "type")
structure GOk2 (K : PySem.W.Frag) (mg : PySem.Str → Option Value) (g : Gs) : Prop where
  clsn : ∀ c, g.clsn c = true → ∃ t, ClN mg c t
  bt : ∀ b ∈ ("isinstance" :: "range" :: "enumerate" :: bifs), mg (nm b) = none
  exc : ∀ c, g.exn c = true → ∃ C, ExcAt K mg c C
  nom : ∀ c, g.meth c "" = none
  exm : ∀ t c b, g.exm t c = some b → g.exn t = true ∧ ∃ T C, mg (nm t) = some (.ref T) ∧ mg (nm c) = some (.ref C) ∧ PySem.W.exmOne K (.ref T) (.ref C) = some b
/-- the context fits -/
structure Cok (n : Nat) (g : G) (h : Option Py.X) (xs : Option (Nat × Addr)) (c : Ctx) (W : WX) (X : Cx) : Prop where
  call : Call X W n g
  ok2 : GOk2 X.K X.mg g
  N : X.N = c.N
  nd : X.N.Nodup
  sc : X.env.scope.names = c.sc
  kind : X.env.scope.kind = .function
  calm : c.hot = false → X.calm = true
  po : PassesOwn (model X.prog X.w) X.A X.env X.xe
  fn : c.blk = false → X.fn = fun _ => true
  stk : c.blk = false → X.stack = X.env :: X.outer ∧ X.env.frame = some X.env.locals
  exc : xs.map (·.1) = c.exc
  exh : ∀ x i a, h = some x → xs = some (i, a) → g.exn x.cls = true ∧ ∃ D, X.mg (nm x.cls) = some (.ref D) ∧ ∃ oe, ∀ pins σ H s, Inv X pins σ H s → PySem.W.InstAt s.heap a oe D none
end Py
end

section
set_option Elab.async false
set_option linter.all false
set_option maxRecDepth 100000
set_option maxHeartbeats 4000000
set_option autoImplicit false
/-! The Py layer, part 10: the rules for expressions. -/
namespace Py
open PySem L2
section
variable {X : Cx} {W : WX} {n : Nat} {g : G} {h : Option Py.X} {xs : Option (Nat × Addr)} {c : Ctx} {e a b d : Expr} {es : List Expr} {pos : Pos}
variable {m ma mb md : Env → Store → R D}
theorem and2 {a b : Bool} (h : (a && b) = true) : a = true ∧ b = true := Bool.and_eq_true_iff.mp h
/-- truth behind a datum -/
theorem tru_can {σ : L2.St} {H : Hp} {Q : Bool → Hp → Prop} (q : canT X.K X.mg xs W (fun ρ μ => (m ρ μ).bind fun d μ => truth d μ) σ H Q) : canE X.K X.mg xs W m σ H fun x H' => ∃ k, TruV X.K x H' k ∧ Q k H' := by
  obtain ⟨φ, μ, ρ, rep, rs, p⟩ := q
  refine ⟨φ, μ, ρ, rep, rs, (post.bind (rel := RD X.K X.mg) p).imp fun x H1 z => ?_⟩
  obtain ⟨φ1, μ1, d, _, e1, rep1, rd, p1⟩ := z
  cases e : truth d μ1 with
  | ok k μ2 =>
    obtain ⟨rfl, t⟩ := truth_ok rep1 rd e
    rw [e] at p1
    exact ⟨k, t, p1 φ1 H1 k Ex.refl rep1 rfl⟩
  | err x μ2 => exact (truth_noerr e).elim
  | bad => rw [e] at p1; exact p1.elim
theorem pt_plain (he : PE X e (canE X.K X.mg xs W m)) (hp : plainT e = true) : PT X e (canT X.K X.mg xs W fun ρ μ => (m ρ μ).bind fun d μ => truth d μ) :=
  PT.imp (pt_truth he (plain_true hp)) fun σ H Q q => tru_can q
theorem vis_ok {x : PySem.Str} (k : Cok n g h xs c W X) (hv : visB c x = true) : Vis X.env.scope x := by
  unfold visB at hv
  unfold Vis
  rw [k.sc]
  split at hv <;> first | (rename_i e; rw [e]; simp; done) | cases hv
theorem gl_ok {x : PySem.Str} (k : Cok n g h xs c W X) (hv : glB c x = true) : Gl X x := by
  unfold glB at hv
  unfold Gl PySem.Env.kindOf
  rw [k.sc]
  split at hv
  · assumption
  · cases hv
theorem dbg_ok {x : PySem.Str} (h : dbg x = true) : (x == ("__debug__" : PySem.Str)) = false ∧ (x == ("__classdict__" : PySem.Str)) = false ∧ x ≠ "__name__" := by
  unfold dbg at h
  obtain ⟨h1, h3⟩ := and2 h
  obtain ⟨h1, h2⟩ := and2 h1
  refine ⟨by simpa using h1, by simpa using h2, ?_⟩
  intro z
  subst z
  simp at h3
theorem gname_ok {s : String} {x : PySem.Str} (k : Cok n g h xs c W X) (hv : gname c s x = true) : x = nm s ∧ Gl X x ∧ (x == ("__debug__" : PySem.Str)) = false ∧ x ≠ "__name__" := by
  obtain ⟨h1, h2⟩ := and2 hv
  obtain ⟨h2, h3⟩ := and2 h2
  obtain ⟨d1, _, d3⟩ := dbg_ok h3
  exact ⟨of_decide_eq_true h1, gl_ok k h2, d1, d3⟩
theorem slot_ok {i : Nat} {x : PySem.Str} (k : Cok n g h xs c W X) (hv : slot c i x = true) {pos : Pos} : PE X (.Name x pos) (tVar i) := by
  obtain ⟨h1, h2⟩ := and2 hv
  obtain ⟨h2, h3⟩ := and2 h2
  obtain ⟨d1, d2, _⟩ := dbg_ok h3
  exact pe_var (by rw [k.N]; exact of_decide_eq_true h1) (vis_ok k h2) d1 d2
theorem s_var {i : Nat} {x : PySem.Str} (k : Cok n g h xs c W X) (hv : slot c i x = true) : PE X (.Name x pos) (canE X.K X.mg xs W (E.den g h (.var i))) := by
  refine PE.imp (slot_ok k hv) fun σ H Q q => ?_
  obtain ⟨φ, μ, ρ, rep, rs, p⟩ := q
  have p : post X.K X.mg (RD X.K X.mg) W (getV ρ i μ) φ H σ Q := by rw [show E.den g h (.var i) ρ μ = getV ρ i μ from by simp only [E.den]] at p; exact p
  unfold getV at p
  split at p
  · rename_i d e
    obtain ⟨v, h1, h2⟩ := rs.at_ i d e
    exact ⟨v, h1, p.val rep h2⟩
  · exact p.elim
theorem s_const {v : V} {D0 : D} {t : TE} (ht : PE X e t) (i : ∀ σ H Q, Q v H → t σ H Q) (r : ∀ φ H, RD X.K X.mg φ H D0 v) (hm : ∀ ρ μ, m ρ μ = .ok D0 μ) : PE X e (canE X.K X.mg xs W m) := by
  refine PE.imp ht fun σ H Q q => i σ H Q ?_
  obtain ⟨φ, μ, ρ, rep, rs, p⟩ := q
  rw [hm] at p
  exact p.val rep (r φ H)
theorem s_lit {d : D} {k : Const} {j : Nat} (hl : litB d k = true) : PE X (.Constant k j pos) (canE X.K X.mg xs W (E.den g h (.lit d))) := by
  have hm : ∀ ρ μ, E.den g h (.lit d) ρ μ = .ok d μ := fun ρ μ => by simp only [E.den]
  cases d <;> cases k <;> first | cases hl; done | skip
  · exact s_const (D0 := .non) pe_non (fun _ _ _ q => q) (fun _ _ => rfl) hm
  · rename_i a b
    have : a = b := eq_of_beq hl
    subst this
    exact s_const (D0 := .bl a) pe_bl (fun _ _ _ q => q) (fun _ _ => rfl) hm
  · rename_i a b
    have : a = b := of_decide_eq_true hl
    subst this
    exact s_const (D0 := .int a) pe_int (fun _ _ _ q => q) (fun _ _ => rfl) hm
  · rename_i a b
    have : b.cps.toList = a := of_decide_eq_true hl
    refine s_const (D0 := .str a) pe_str (fun _ _ _ q => q) (fun _ _ => ?_) hm
    show V.str b = V.str (stS a)
    rw [← this]
    simp [stS]
theorem s_glo {s : String} {x : PySem.Str} (k : Cok n g h xs c W X) (hv : gname c s x = true) : PE X (.Name x pos) (canE X.K X.mg xs W (E.den g h (.glo s))) := by
  obtain ⟨rfl, hg, hd, _⟩ := gname_ok k hv
  cases e : g.glo s with
  | none =>
    refine PE.imp PE.never fun σ H Q q => ?_
    obtain ⟨φ, μ, ρ, rep, rs, p⟩ := q
    simp only [E.den, e] at p
    exact p.elim
  | some d =>
    obtain ⟨v, u, r, hm, rd⟩ := k.call.gok.glo _ _ e
    exact s_const (D0 := d) (pe_glob hg hm r hd) (fun _ _ _ q => q) rd fun ρ μ => by simp only [E.den, e]
theorem s_bin {o : BO} {o' : Operator} {ea eb : E} (k : Cok n g h xs c W X) (ho : opB o o' = true) (ha : PE X a (canE X.K X.mg xs W (E.den g h ea))) (hb : PE X b (canE X.K X.mg xs W (E.den g h eb))) :
    PE X (.BinOp a o' b pos) (canE X.K X.mg xs W (E.den g h (.bin o ea eb))) := by
  rw [opB_ok ho]
  exact PE.imp (pe_opC (op_binG k.call o) ha hb) fun σ H Q q => can_op (f := bopG g o) (by simpa only [E.den] using q)
/-- a comparison by values, at the slots -/
theorem pe_cmpC {op : CmpOp} {r : V → V → L2.St → Hp → VK → Prop} {ta tb : TE} (ho : OpC X (compareOp op) r) (ha : PE X a ta) (hb : PE X b tb) (hm : behindInMarks op b = false) : PE X (.Compare a [op] [b] pos) (tOpC r ta tb) := by
  refine ⟨fun pins s σ H Q I q => wpAny_Compare1 (binT ha hb I q fun v u s2 x y H2 I2 rx ry z => ?_) hm⟩
  exact ho pins s2 σ H2 x y v u Q I2 rx ry z
theorem pt_cmpC {op : CmpOp} {r : V → V → L2.St → Hp → VK → Prop} {ta tb : TE} (ho : OpC X (compareOp op) r) (ha : PE X a ta) (hb : PE X b tb) (hm : behindInMarks op b = false) : PT X (.Compare a [op] [b] pos) (tTest (tOpC r ta tb)) := by
  refine ⟨fun pins s σ H Q I q => wpAny_isTrue_Compare1 (thn (ha.run pins s σ H _ I q) fun v s1 h1 => ?_) hm⟩
  obtain ⟨x, H1, I1, r1, q1⟩ := h1
  refine thn (hb.run pins s1 σ H1 _ I1 q1) fun u s2 h2 => ?_
  obtain ⟨y, H2, I2, r2, q2⟩ := h2
  refine thn (ho pins s2 σ H2 x y v u _ I2 r1 r2 q2) fun z s3 h3 => ?_
  obtain ⟨w, H3, I3, r3, k, rfl, q3⟩ := h3
  cases r3
  exact wpAny_truthy_bool ⟨H3, I3, q3⟩
theorem cop_bl {o : CO} {x y z : D} {μ μ' : Store} (e : cop o x y μ = .ok z μ') : ∃ k, z = .bl k := by
  unfold cop at e
  split at e
  · cases e2 : eqD x y μ with
    | ok b μ1 => rw [e2] at e; cases e; exact ⟨_, rfl⟩
    | err => rw [e2] at e; cases e
    | bad => rw [e2] at e; cases e
  · cases e2 : eqD x y μ with
    | ok b μ1 => rw [e2] at e; cases e; exact ⟨_, rfl⟩
    | err => rw [e2] at e; cases e
    | bad => rw [e2] at e; cases e
  · split at e <;> first | (cases e; exact ⟨_, rfl⟩) | cases e
  · split at e <;> first | (cases e; exact ⟨_, rfl⟩) | cases e
  · split at e <;> first | (cases e; exact ⟨_, rfl⟩) | cases e
  · split at e <;> first | (cases e; exact ⟨_, rfl⟩) | cases e
  · split at e <;> first | (cases e; exact ⟨_, rfl⟩) | cases e
  · split at e <;> first | (cases e; exact ⟨_, rfl⟩) | cases e
  · cases e2 : inD x y μ with
    | ok b μ1 => rw [e2] at e; cases e; exact ⟨_, rfl⟩
    | err => rw [e2] at e; cases e
    | bad => rw [e2] at e; cases e
  · cases e2 : inD x y μ with
    | ok b μ1 => rw [e2] at e; cases e; exact ⟨_, rfl⟩
    | err => rw [e2] at e; cases e
    | bad => rw [e2] at e; cases e
theorem copG_bl {o : CO} {x y z : D} {μ μ' : Store} (e : copG g o x y μ = .ok z μ') : ∃ k, z = .bl k := by
  unfold copG at e
  split at e
  · exact cop_bl e
  split at e
  · split at e
    · rename_i key _
      split at e
      · cases e2 : g.callF key [x, y] μ with
        | ok d μ1 =>
          rw [e2] at e
          simp only [R.bind_ok] at e
          split at e
          · cases e; exact ⟨_, rfl⟩
          · cases e
        | err => rw [e2] at e; cases e
        | bad => rw [e2] at e; cases e
      · cases e
    · split at e
      · split at e
        · rename_i key _ _ _
          cases e2 : g.callF key [x, y] μ with
          | ok d μ1 =>
            rw [e2] at e
            simp only [R.bind_ok] at e
            split at e
            · cases e; exact ⟨_, rfl⟩
            · cases e
          | err => rw [e2] at e; cases e
          | bad => rw [e2] at e; cases e
        · cases e
      · cases e
  · exact cop_bl e
theorem own_cop (k : Cok n g h xs c W X) (o : CO) : ∀ c key, g.meth c o.dun = some key → o.own = true := by
  intro c key e
  have hd : g.meth c "" = none := k.ok2.nom c
  cases o <;> first | rfl | (exact absurd (hd.symm.trans e) (fun z => nomatch z))
theorem s_cmp {o : CO} {o' : CmpOp} {ea eb : E} (k : Cok n g h xs c W X) (ho : copB o o' = true) (hs : notSet b = true) (ha : PE X a (canE X.K X.mg xs W (E.den g h ea))) (hb : PE X b (canE X.K X.mg xs W (E.den g h eb))) :
    PE X (.Compare a [o'] [b] pos) (canE X.K X.mg xs W (E.den g h (.cmp o ea eb))) := by
  rw [copB_ok ho]
  exact PE.imp (pe_cmpC (op_copG k.call o (own_cop k o)) ha hb (no_marks hs)) fun σ H Q q => can_op (f := copG g o) (by simpa only [E.den] using q)
theorem t_cmp {o : CO} {o' : CmpOp} {ea eb : E} (k : Cok n g h xs c W X) (ho : copB o o' = true) (hs : notSet b = true) (ha : PE X a (canE X.K X.mg xs W (E.den g h ea))) (hb : PE X b (canE X.K X.mg xs W (E.den g h eb))) :
    PT X (.Compare a [o'] [b] pos) (canT X.K X.mg xs W fun ρ μ => (E.den g h (.cmp o ea eb) ρ μ).bind fun d μ => truth d μ) := by
  rw [copB_ok ho]
  refine PT.imp (pt_cmpC (op_copG k.call o (own_cop k o)) ha hb (no_marks hs)) fun σ H Q q => ?_
  have q2 := tru_can q
  refine can_op (f := copG g o) (W := W) (xs := xs) (Q := fun x H' => ∃ k, x = .bl k ∧ Q k H') ?_
  have q3 : canE X.K X.mg xs W (fun ρ μ => (E.den g h ea ρ μ).bind fun x μ => (E.den g h eb ρ μ).bind fun y μ => copG g o x y μ) σ H fun x H' => ∃ k, TruV X.K x H' k ∧ Q k H' := by simpa only [E.den] using q2
  obtain ⟨φ, μ, ρ, rep, rs, p⟩ := q3
  refine ⟨φ, μ, ρ, rep, rs, ?_⟩
  have hbl : ∀ z μ', ((E.den g h ea ρ μ).bind fun x μ => (E.den g h eb ρ μ).bind fun y μ => copG g o x y μ) = .ok z μ' → ∃ k, z = .bl k := by
    intro z μ' e
    cases e1 : E.den g h ea ρ μ with
    | ok x μ1 =>
      rw [e1] at e
      simp only [R.bind_ok] at e
      cases e2 : E.den g h eb ρ μ1 with
      | ok y μ2 =>
        rw [e2] at e
        exact copG_bl e
      | err => rw [e2] at e; cases e
      | bad => rw [e2] at e; cases e
    | err => rw [e1] at e; cases e
    | bad => rw [e1] at e; cases e
  dsimp only at p ⊢
  revert p hbl
  generalize ((E.den g h ea ρ μ).bind fun x μ => (E.den g h eb ρ μ).bind fun y μ => copG g o x y μ) = r
  intro p hbl
  cases r with
  | ok z μ' =>
    intro φ' H' v e1 rep1 rd
    obtain ⟨k, rfl⟩ := hbl z μ' rfl
    cases rd
    obtain ⟨k', t, q⟩ := p φ' H' (.bl k) e1 rep1 rfl
    cases (show k' = k from t)
    exact ⟨k, rfl, q⟩
  | err x μ' => exact p
  | bad => exact p
/-- an operator's rule for a chain: it raises nothing -/
theorem op_copR (hu : X.A.units + 64 < cLine) (o : CO) : OpR X (compareOp o.op) fun x y H Q => can2 X (fun _ _ _ _ => False) (cop o) x y [] H Q := by
  intro pins s σ H x y v u Q I rx ry q
  refine op_cop hu o (W := fun _ _ _ _ => False) pins s σ H x y v u Q I rx ry ?_
  obtain ⟨φ, μ, a, b, rep, ra, rb, p⟩ := q
  refine ⟨φ, μ, a, b, rep, ra, rb, ?_⟩
  revert p
  generalize cop o a b μ = r
  intro p
  cases r <;> exact p
theorem cop_noerr {o : CO} {x y : D} {z : Py.X} {μ μ' : Store} : cop o x y μ ≠ .err z μ' := by
  unfold cop
  intro e
  split at e
  · cases e2 : eqD x y μ with
    | ok b μ1 => rw [e2] at e; cases e
    | err => exact eqD_noerr e2
    | bad => rw [e2] at e; cases e
  · cases e2 : eqD x y μ with
    | ok b μ1 => rw [e2] at e; cases e
    | err => exact eqD_noerr e2
    | bad => rw [e2] at e; cases e
  · split at e <;> cases e
  · split at e <;> cases e
  · split at e <;> cases e
  · split at e <;> cases e
  · split at e <;> cases e
  · split at e <;> cases e
  · cases e2 : inD x y μ with
    | ok b μ1 => rw [e2] at e; cases e
    | err => exact inD_noerr e2
    | bad => rw [e2] at e; cases e
  · cases e2 : inD x y μ with
    | ok b μ1 => rw [e2] at e; cases e
    | err => exact inD_noerr e2
    | bad => rw [e2] at e; cases e
theorem post_nox {α β : Type} {rel : List Addr → Hp → α → β → Prop} {K : PySem.W.Frag} {mg : PySem.Str → Option Value} {r : R α} {φ : List Addr} {H : Hp} {σ σ' : L2.St} {Q : β → Hp → Prop} {W' : WX} (hn : ∀ x μ', r ≠ .err x μ') (p : post K mg rel W r φ H σ Q) : post K mg rel W' r φ H σ' Q := by
  cases r with
  | ok a μ' => exact p
  | err x μ' => exact (hn _ _ rfl).elim
  | bad => exact p
/-- the chain's reading -/
theorem can_chain {o p : CO} {σ : L2.St} {H : Hp} {Q : VK} {ea eb ed : E}
    (q : canE X.K X.mg xs W (E.den g h (.chain o p ea eb ed)) σ H Q) :
    tChain (fun x y H Q => can2 X (fun _ _ _ _ => False) (cop o) x y [] H Q) (fun x y H Q => can2 X (fun _ _ _ _ => False) (cop p) x y [] H Q) (canE X.K X.mg xs W (E.den g h ea)) (canE X.K X.mg xs W (E.den g h eb)) (canE X.K X.mg xs W (E.den g h ed)) σ H Q := by
  obtain ⟨φ, μ, ρ, rep, rs, z⟩ := q
  simp only [E.den] at z
  refine ⟨φ, μ, ρ, rep, rs, (post.bind (rel := RD X.K X.mg) z).imp fun x H1 z1 => ?_⟩
  obtain ⟨φ1, μ1, dx, _, e1, rep1, rx, p1⟩ := z1
  refine ⟨φ1, μ1, ρ, rep1, rs.mono e1, (post.bind (rel := RD X.K X.mg) p1).imp fun y H2 z2 => ?_⟩
  obtain ⟨φ2, μ2, dy, _, e2, rep2, ry, p2⟩ := z2
  refine ⟨φ2, μ2, dx, dy, rep2, RD.mono e2 _ _ rx, ry, ?_⟩
  refine (post_nox (fun _ _ => cop_noerr) (post.bind (rel := RD X.K X.mg) p2)).imp fun w H3 z3 => ?_
  obtain ⟨φ3, μ3, dw, ew, e3, rep3, rw', p3⟩ := z3
  split at p3
  · cases rw'
    refine ⟨true, rfl, ?_⟩
    rw [if_pos rfl]
    refine ⟨φ3, μ3, ρ, rep3, rs.mono ((e1.trans e2).trans e3), (post.bind (rel := RD X.K X.mg) p3).imp fun u H4 z4 => ?_⟩
    obtain ⟨φ4, μ4, du, _, e4, rep4, ru, p4⟩ := z4
    exact ⟨φ4, μ4, dy, du, rep4, RD.mono (e3.trans e4) _ _ ry, ru, post_nox (fun _ _ => cop_noerr) p4⟩
  · cases rw'
    refine ⟨false, rfl, ?_⟩
    rw [if_neg (by simp)]
    exact p3.val rep3 rfl
  · exact p3.elim
theorem s_chain {o p : CO} {o' p' : CmpOp} {ea eb ed : E} (k : Cok n g h xs c W X) (ho : copB o o' = true) (hp : copB p p' = true) (hs : notSet b = true) (hs' : notSet d = true) (ha : PE X a (canE X.K X.mg xs W (E.den g h ea))) (hb : PE X b (canE X.K X.mg xs W (E.den g h eb))) (hd : PE X d (canE X.K X.mg xs W (E.den g h ed))) :
    PE X (.Compare a [o', p'] [b, d] pos) (canE X.K X.mg xs W (E.den g h (.chain o p ea eb ed))) := by
  rw [copB_ok ho, copB_ok hp]
  exact PE.imp (pe_chain (op_copR k.call.un o) (op_copR k.call.un p) ha hb hd (no_marks2 hs hs')) fun σ H Q q => can_chain q
theorem t_chain {o p : CO} {o' p' : CmpOp} {ea eb ed : E} (k : Cok n g h xs c W X) (ho : copB o o' = true) (hp : copB p p' = true) (hs : notSet b = true) (hs' : notSet d = true) (ha : PE X a (canE X.K X.mg xs W (E.den g h ea))) (hb : PE X b (canE X.K X.mg xs W (E.den g h eb))) (hd : PE X d (canE X.K X.mg xs W (E.den g h ed))) :
    PT X (.Compare a [o', p'] [b, d] pos) (canT X.K X.mg xs W fun ρ μ => (E.den g h (.chain o p ea eb ed) ρ μ).bind fun d μ => truth d μ) := by
  rw [copB_ok ho, copB_ok hp]
  refine PT.imp (pt_chain (op_copR k.call.un o) (op_copR k.call.un p) ha hb hd (no_marks2 hs hs')) fun σ H Q q => ?_
  refine can_chain (Q := fun x H' => ∃ k, x = .bl k ∧ Q k H') ?_
  obtain ⟨φ, μ, ρ, rep, rs, z⟩ := tru_can q
  refine ⟨φ, μ, ρ, rep, rs, ?_⟩
  have hbl : ∀ z μ', E.den g h (.chain o p ea eb ed) ρ μ = .ok z μ' → ∃ k, z = .bl k := by
    have cb : ∀ {o x y μ z μ'}, cop o x y μ = .ok z μ' → ∃ k, z = .bl k := by
      intro o x y μ z μ' e
      have e' : copG g o x y μ = .ok z μ' ∨ ∃ c, insOf x μ = some c := by
        cases e3 : insOf x μ with
        | none => left; unfold copG; rw [e3]; simp only [ite_self]; exact e
        | some c => right; exact ⟨c, rfl⟩
      rcases e' with e' | ⟨c, e3⟩
      · exact copG_bl e'
      · unfold cop at e
        split at e
        all_goals first
          | (cases e2 : eqD x y μ with
             | ok b μ1 => rw [e2] at e; cases e; exact ⟨_, rfl⟩
             | err => rw [e2] at e; cases e
             | bad => rw [e2] at e; cases e)
          | (cases e2 : inD x y μ with
             | ok b μ1 => rw [e2] at e; cases e; exact ⟨_, rfl⟩
             | err => rw [e2] at e; cases e
             | bad => rw [e2] at e; cases e)
          | (split at e <;> first | (cases e; exact ⟨_, rfl⟩) | cases e)
    intro z μ' e
    simp only [E.den] at e
    cases e1 : E.den g h ea ρ μ with
    | ok x μ1 =>
      rw [e1] at e
      simp only [R.bind_ok] at e
      cases e2 : E.den g h eb ρ μ1 with
      | ok y μ2 =>
        rw [e2] at e
        simp only [R.bind_ok] at e
        cases e3 : cop o x y μ2 with
        | ok w μ3 =>
          rw [e3] at e
          simp only [R.bind_ok] at e
          split at e
          · cases e4 : E.den g h ed ρ μ3 with
            | ok u μ4 =>
              rw [e4] at e
              exact cb e
            | err => rw [e4] at e; cases e
            | bad => rw [e4] at e; cases e
          · cases e; exact ⟨_, rfl⟩
          · cases e
        | err => rw [e3] at e; cases e
        | bad => rw [e3] at e; cases e
      | err => rw [e2] at e; cases e
      | bad => rw [e2] at e; cases e
    | err => rw [e1] at e; cases e
    | bad => rw [e1] at e; cases e
  revert z hbl
  generalize E.den g h (.chain o p ea eb ed) ρ μ = r
  intro z hbl
  cases r with
  | ok z' μ' =>
    intro φ' H' v e1 rep1 rd
    obtain ⟨k, rfl⟩ := hbl z' μ' rfl
    cases rd
    obtain ⟨k', t, q⟩ := z φ' H' (.bl k) e1 rep1 rfl
    cases (show k' = k from t)
    exact ⟨k, rfl, q⟩
  | err x μ' => exact z
  | bad => exact z
/-! ### and, or, not, if-else -/
theorem s_and {eb : E} {r : Es} {es' : List Expr} (ha : PE X a (canE X.K X.mg xs W (E.den g h eb))) {eb' : E} (hr : PE X (.BoolOp .And (b :: es') pos) (canE X.K X.mg xs W (Es.denAnd g h (.cons eb' r)))) :
    PE X (.BoolOp .And (a :: b :: es') pos) (canE X.K X.mg xs W (Es.denAnd g h (.cons eb (.cons eb' r)))) := by
  refine PE.imp (pe_andT ha hr) fun σ H Q q => ?_
  obtain ⟨φ, μ, ρ, rep, rs, p⟩ := q
  simp only [Es.denAnd] at p
  refine ⟨φ, μ, ρ, rep, rs, (post.bind (rel := RD X.K X.mg) p).imp fun x H1 z => ?_⟩
  obtain ⟨φ1, μ1, d, _, e1, rep1, rd, p1⟩ := z
  cases e : truth d μ1 with
  | ok k μ2 =>
    obtain ⟨rfl, t⟩ := truth_ok rep1 rd e
    rw [e] at p1
    refine ⟨k, t, ?_⟩
    cases k with
    | true => exact ⟨φ1, μ2, ρ, rep1, rs.mono e1, p1⟩
    | false => exact post.val rep1 rd p1
  | err x μ2 => exact (truth_noerr e).elim
  | bad => rw [e] at p1; exact p1.elim
theorem s_or {eb : E} {r : Es} {es' : List Expr} (ha : PE X a (canE X.K X.mg xs W (E.den g h eb))) {eb' : E} (hr : PE X (.BoolOp .Or (b :: es') pos) (canE X.K X.mg xs W (Es.denOr g h (.cons eb' r)))) :
    PE X (.BoolOp .Or (a :: b :: es') pos) (canE X.K X.mg xs W (Es.denOr g h (.cons eb (.cons eb' r)))) := by
  refine PE.imp (pe_orT ha hr) fun σ H Q q => ?_
  obtain ⟨φ, μ, ρ, rep, rs, p⟩ := q
  simp only [Es.denOr] at p
  refine ⟨φ, μ, ρ, rep, rs, (post.bind (rel := RD X.K X.mg) p).imp fun x H1 z => ?_⟩
  obtain ⟨φ1, μ1, d, _, e1, rep1, rd, p1⟩ := z
  cases e : truth d μ1 with
  | ok k μ2 =>
    obtain ⟨rfl, t⟩ := truth_ok rep1 rd e
    rw [e] at p1
    refine ⟨k, t, ?_⟩
    cases k with
    | false => exact ⟨φ1, μ2, ρ, rep1, rs.mono e1, p1⟩
    | true => exact post.val rep1 rd p1
  | err x μ2 => exact (truth_noerr e).elim
  | bad => rw [e] at p1; exact p1.elim
abbrev mT (m : Env → Store → R D) : Env → Store → R Bool := fun ρ μ => (m ρ μ).bind fun d μ => truth d μ
theorem truth_twice {d : D} {k : Bool} {μ μ' : Store} (e : truth d μ = .ok k μ') : μ' = μ := by
  unfold truth at e
  split at e <;> first | (cases e; rfl) | (split at e <;> first | (cases e; rfl) | cases e) | cases e
theorem tw_and {eb : E} {r : Es} {es' : List Expr} (ha : PT X a (canT X.K X.mg xs W (mT (E.den g h eb)))) {eb' : E} (hr : PW X (.BoolOp .And (b :: es') pos) (canT X.K X.mg xs W (mT (Es.denAnd g h (.cons eb' r))))) :
    PW X (.BoolOp .And (a :: b :: es') pos) (canT X.K X.mg xs W (mT (Es.denAnd g h (.cons eb (.cons eb' r))))) := by
  refine ⟨fun whole pins s σ H Q I q => (pw_and ha hr).run whole pins s σ H Q I ?_⟩
  obtain ⟨φ, μ, ρ, rep, rs, p⟩ := q
  simp only [mT, Es.denAnd] at p
  refine ⟨φ, μ, ρ, rep, rs, ?_⟩
  simp only [mT]
  cases e0 : E.den g h eb ρ μ with
  | ok d μ1 =>
    rw [e0] at p
    simp only [R.bind_ok] at p ⊢
    cases e : truth d μ1 with
    | ok k μ2 =>
      rw [e] at p
      simp only [R.bind_ok] at p
      intro φ1 H1 b1 e1 rep1 hb
      cases hb
      cases k with
      | true =>
        simp only [if_true] at p ⊢
        exact ⟨φ1, μ2, ρ, rep1, rs.mono e1, post.mono e1 p⟩
      | false =>
        obtain rfl := truth_twice e
        simp only [Bool.false_eq_true, if_false, R.bind_ok] at p ⊢
        rw [e] at p
        exact (post.mono e1 p) φ1 H1 false Ex.refl rep1 rfl
    | err x μ2 => exact (truth_noerr e).elim
    | bad => rw [e] at p; exact p.elim
  | err x μ1 => rw [e0] at p; exact p
  | bad => rw [e0] at p; exact p.elim
theorem tw_or {eb : E} {r : Es} {es' : List Expr} (ha : PT X a (canT X.K X.mg xs W (mT (E.den g h eb)))) {eb' : E} (hr : PW X (.BoolOp .Or (b :: es') pos) (canT X.K X.mg xs W (mT (Es.denOr g h (.cons eb' r))))) :
    PW X (.BoolOp .Or (a :: b :: es') pos) (canT X.K X.mg xs W (mT (Es.denOr g h (.cons eb (.cons eb' r))))) := by
  refine ⟨fun whole pins s σ H Q I q => (pw_or ha hr).run whole pins s σ H Q I ?_⟩
  obtain ⟨φ, μ, ρ, rep, rs, p⟩ := q
  simp only [mT, Es.denOr] at p
  refine ⟨φ, μ, ρ, rep, rs, ?_⟩
  simp only [mT]
  cases e0 : E.den g h eb ρ μ with
  | ok d μ1 =>
    rw [e0] at p
    simp only [R.bind_ok] at p ⊢
    cases e : truth d μ1 with
    | ok k μ2 =>
      rw [e] at p
      simp only [R.bind_ok] at p
      intro φ1 H1 b1 e1 rep1 hb
      cases hb
      cases k with
      | false =>
        simp only [Bool.false_eq_true, if_false] at p ⊢
        exact ⟨φ1, μ2, ρ, rep1, rs.mono e1, post.mono e1 p⟩
      | true =>
        obtain rfl := truth_twice e
        simp only [if_true, R.bind_ok] at p ⊢
        rw [e] at p
        exact (post.mono e1 p) φ1 H1 true Ex.refl rep1 rfl
    | err x μ2 => exact (truth_noerr e).elim
    | bad => rw [e] at p; exact p.elim
  | err x μ1 => rw [e0] at p; exact p
  | bad => rw [e0] at p; exact p.elim
theorem s_not {ea : E} (ha : PE X a (canE X.K X.mg xs W (E.den g h ea))) : PE X (.UnaryOp .Not a pos) (canE X.K X.mg xs W (E.den g h (.not_ ea))) := by
  refine PE.imp (pe_notT ha) fun σ H Q q => ?_
  obtain ⟨φ, μ, ρ, rep, rs, p⟩ := q
  simp only [E.den] at p
  refine ⟨φ, μ, ρ, rep, rs, (post.bind (rel := RD X.K X.mg) p).imp fun x H1 z => ?_⟩
  obtain ⟨φ1, μ1, d, _, e1, rep1, rd, p1⟩ := z
  cases e : truth d μ1 with
  | ok k μ2 =>
    obtain ⟨rfl, t⟩ := truth_ok rep1 rd e
    rw [e] at p1
    exact ⟨k, t, p1.val rep1 rfl⟩
  | err x μ2 => exact (truth_noerr e).elim
  | bad => rw [e] at p1; exact p1.elim
theorem t_not {ea : E} (ha : PT X a (canT X.K X.mg xs W (mT (E.den g h ea)))) : PT X (.UnaryOp .Not a pos) (canT X.K X.mg xs W (mT (E.den g h (.not_ ea)))) := by
  refine PT.imp (pt_not ha) fun σ H Q q => ?_
  obtain ⟨φ, μ, ρ, rep, rs, p⟩ := q
  simp only [mT, E.den] at p
  refine ⟨φ, μ, ρ, rep, rs, ?_⟩
  simp only [mT]
  cases e0 : E.den g h ea ρ μ with
  | ok d μ1 =>
    rw [e0] at p
    simp only [R.bind_ok] at p ⊢
    cases e : truth d μ1 with
    | ok k μ2 =>
      rw [e] at p
      simp only [R.bind_ok] at p
      intro φ1 H1 b1 e1 rep1 hb
      cases hb
      exact (post.mono e1 p) φ1 H1 _ Ex.refl rep1 rfl
    | err x μ2 => exact (truth_noerr e).elim
    | bad => rw [e] at p; exact p.elim
  | err x μ1 => rw [e0] at p; exact p
  | bad => rw [e0] at p; exact p.elim
theorem s_ite {et ea eb : E} (ht : PT X d (canT X.K X.mg xs W (mT (E.den g h et)))) (ha : PE X a (canE X.K X.mg xs W (E.den g h ea))) (hb : PE X b (canE X.K X.mg xs W (E.den g h eb))) : PE X (.IfExp d a b pos) (canE X.K X.mg xs W (E.den g h (.ite et ea eb))) := by
  refine PE.imp (pe_ifExp ht ha hb) fun σ H Q q => ?_
  obtain ⟨φ, μ, ρ, rep, rs, p⟩ := q
  simp only [E.den] at p
  refine ⟨φ, μ, ρ, rep, rs, ?_⟩
  have p' : post X.K X.mg (RD X.K X.mg) W ((mT (E.den g h et) ρ μ).bind fun k μ => if k = true then E.den g h ea ρ μ else E.den g h eb ρ μ) φ H σ Q := by
    simp only [mT]
    cases e0 : E.den g h et ρ μ with
    | ok d μ1 => rw [e0] at p; exact p
    | err => rw [e0] at p; exact p
    | bad => rw [e0] at p; exact p
  refine (post.bind (rel := relB) p').imp fun k H1 z => ?_
  obtain ⟨φ1, μ1, k', _, e1, rep1, hk, p1⟩ := z
  cases (show k = k' from hk)
  cases k with
  | true => rw [if_pos rfl] at p1 ⊢; exact ⟨φ1, μ1, ρ, rep1, rs.mono e1, p1⟩
  | false =>
    rw [if_neg (by simp)] at p1 ⊢
    exact ⟨φ1, μ1, ρ, rep1, rs.mono e1, p1⟩
/-! ### arguments, displays -/
theorem s_nil : PA X [] (canA X.K X.mg xs W (Es.den g h .nil)) := by
  refine PA.imp pa_nil fun σ H Q q => ?_
  obtain ⟨φ, μ, ρ, rep, rs, p⟩ := q
  simp only [Es.den] at p
  exact post.val (rel := RDs X.K X.mg) rep RDs.nil p
theorem s_cons {ea : E} {er : Es} (hs : notStar a = true) (ha : PE X a (canE X.K X.mg xs W (E.den g h ea))) (hr : PA X es (canA X.K X.mg xs W (Es.den g h er))) : PA X (a :: es) (canA X.K X.mg xs W (Es.den g h (.cons ea er))) := by
  refine PA.imp (pa_cons ha hr (star_one hs)) fun σ H Q q => ?_
  obtain ⟨φ, μ, ρ, rep, rs, p⟩ := q
  simp only [Es.den] at p
  refine ⟨φ, μ, ρ, rep, rs, (post.bind (rel := RD X.K X.mg) p).imp fun x H1 z => ?_⟩
  obtain ⟨φ1, μ1, dx, _, e1, rep1, rx, p1⟩ := z
  refine ⟨φ1, μ1, ρ, rep1, rs.mono e1, (post.bind (rel := RDs X.K X.mg) p1).imp fun ys H2 z2 => ?_⟩
  obtain ⟨φ2, μ2, dys, _, e2, rep2, rys, p2⟩ := z2
  exact post.val (rel := RDs X.K X.mg) rep2 (RDs.cons (RD.mono e2 _ _ rx) rys) p2
theorem s_tup {ea : Es} {k : Nat} (ha : PA X es (canA X.K X.mg xs W (Es.den g h ea))) : PE X (.Tuple es k pos) (canE X.K X.mg xs W (E.den g h (.tup ea))) := by
  refine PE.imp (pe_tup ha) fun σ H Q q => ?_
  obtain ⟨φ, μ, ρ, rep, rs, p⟩ := q
  simp only [E.den] at p
  refine ⟨φ, μ, ρ, rep, rs, (post.bind (rel := RDs X.K X.mg) p).imp fun ys H1 z => ?_⟩
  obtain ⟨φ1, μ1, ds, _, e1, rep1, rds, p1⟩ := z
  split at p1
  · rename_i hl
    refine ⟨by rw [rds.length, ← line_eq]; exact hl, fun q hq => ?_⟩
    exact p1 φ1 _ (.ref q) (Ex.junk hq) (rep1.junk hq) ⟨q, ys, rfl, .inl (.inl upd_same), RDs.mono (Ex.junk hq) _ _ rds⟩
  · exact p1.elim
theorem s_lst {ea : Es} (ha : PA X es (canA X.K X.mg xs W (Es.den g h ea))) : PE X (.List es pos) (canE X.K X.mg xs W (E.den g h (.lst ea))) := by
  refine PE.imp (pe_lst ha) fun σ H Q q => ?_
  obtain ⟨φ, μ, ρ, rep, rs, p⟩ := q
  simp only [E.den] at p
  refine ⟨φ, μ, ρ, rep, rs, (post.bind (rel := RDs X.K X.mg) p).imp fun ys H1 z => ?_⟩
  obtain ⟨φ1, μ1, ds, _, e1, rep1, rds, p1⟩ := z
  split at p1
  · rename_i hl
    refine ⟨by rw [rds.length, ← line_eq]; exact hl, fun q hq => ?_⟩
    refine p1 (φ1 ++ [q]) _ (.ref q) (Ex.new hq) (rep1.new hq ⟨ys, upd_same, RDs.mono (Ex.new hq) _ _ rds⟩) ⟨q, ?_, rfl⟩
    rw [← rep1.len]; simp
  · exact p1.elim
theorem ok_ix {e : Expr} (h : okIx e = true) : PlainIx e := by
  intro o i
  cases e <;> first | rfl | cases h
theorem s_idx {ea ei : E} (hi : okIx b = true) (ha : PE X a (canE X.K X.mg xs W (E.den g h ea))) (hb : PE X b (canE X.K X.mg xs W (E.den g h ei))) : PE X (.Subscript a b pos) (canE X.K X.mg xs W (E.den g h (.idx ea ei))) :=
  PE.imp (pe_ix ix_seq ha hb (ok_ix hi)) fun σ H Q q => can_opr (f := idx) (fun x y H Q z => ix_can x y H Q z) (by simpa only [E.den] using q)
/-- a part of a slice -/
def canO (X : Cx) (xs : Option (Nat × Addr)) (W : WX) (m : Env → Store → R (List D)) : TO := can X.K X.mg xs (fun _ _ a (b : Option Int) => b = a) W fun ρ μ => (m ρ μ).bind fun ds μ => partD ds μ
theorem s_part0 : PO X none (canO X xs W (Es.den g h .nil)) := by
  have h0 : PO X none tNoPart := by first | exact po_none | exact L2.po_none
  refine ⟨fun pins s σ H Q I q => h0.run pins s σ H Q I ?_⟩
  obtain ⟨φ, μ, ρ, rep, rs, p⟩ := q
  simp only [Es.den, R.bind_ok, partD, part] at p
  exact post.val (rel := fun _ _ a (b : Option Int) => b = a) rep rfl p
theorem s_part1 {ea : E} (ha : PE X a (canE X.K X.mg xs W (E.den g h ea))) : PO X (some a) (canO X xs W (Es.den g h (.cons ea .nil))) := by
  refine ⟨fun pins s σ H Q I q => (po_some ha).run pins s σ H Q I ?_⟩
  obtain ⟨φ, μ, ρ, rep, rs, p⟩ := q
  simp only [Es.den] at p
  have p' : post X.K X.mg (fun _ _ a (b : Option Int) => b = a) W ((E.den g h ea ρ μ).bind fun d μ => partD [d] μ) φ H σ Q := by
    cases e0 : E.den g h ea ρ μ with
    | ok d μ1 => rw [e0] at p; exact p
    | err => rw [e0] at p; exact p
    | bad => rw [e0] at p; exact p
  refine ⟨φ, μ, ρ, rep, rs, (post.bind (rel := RD X.K X.mg) p').imp fun x H1 z => ?_⟩
  obtain ⟨φ1, μ1, d, _, e1, rep1, rd, p1⟩ := z
  cases d <;> first | (exact (show False from p1).elim) | skip
  cases rd
  exact ⟨_, rfl, post.val (rel := fun _ _ a (b : Option Int) => b = a) (a := some _) rep1 rfl p1⟩
theorem s_slc {ea : E} {el eu : Es} {lo hi : Option Expr} {p2 : Pos} (ha : PE X a (canE X.K X.mg xs W (E.den g h ea))) (hl : PO X lo (canO X xs W (Es.den g h el))) (hu : PO X hi (canO X xs W (Es.den g h eu))) :
    PE X (.Subscript a (.Slice lo hi none p2) pos) (canE X.K X.mg xs W (E.den g h (.slc ea el eu))) := by
  refine PE.imp (pe_slice sl_both ha hl hu) fun σ H Q q => ?_
  obtain ⟨φ, μ, ρ, rep, rs, p⟩ := q
  simp only [E.den] at p
  refine ⟨φ, μ, ρ, rep, rs, (post.bind (rel := RD X.K X.mg) p).imp fun x H1 z => ?_⟩
  obtain ⟨φ1, μ1, d, _, e1, rep1, rd, p1⟩ := z
  refine ⟨φ1, μ1, ρ, rep1, rs.mono e1, (post.bind (rel := fun _ _ a (b : Option Int) => b = a) p1).imp fun l H2 z2 => ?_⟩
  obtain ⟨φ2, μ2, l', _, e2, rep2, hl2, p2⟩ := z2
  cases (show l = l' from hl2)
  refine ⟨φ2, μ2, ρ, rep2, rs.mono (e1.trans e2), (post.bind (rel := fun _ _ a (b : Option Int) => b = a) p2).imp fun u H3 z3 => ?_⟩
  obtain ⟨φ3, μ3, u', _, e3, rep3, hu3, p3⟩ := z3
  cases (show u = u' from hu3)
  exact sl_can rep3 (RD.mono (e2.trans e3) _ _ rd) p3
/-! ### calls -/
/-- the arguments, then what follows -/
theorem args_then {ea : Es} {f : List D → Store → R D} {r : List V → L2.St → Hp → VK → Prop} {σ : L2.St} {H : Hp} {Q : VK} (i : ∀ φ μ vs ds H, Rep X.K X.mg φ μ H → RDs X.K X.mg φ H ds vs → post X.K X.mg (RD X.K X.mg) W (f ds μ) φ H σ Q → r vs σ H Q)
    (q : canE X.K X.mg xs W (fun ρ μ => (Es.den g h ea ρ μ).bind fun ds μ => f ds μ) σ H Q) : canA X.K X.mg xs W (Es.den g h ea) σ H fun vs H1 => r vs σ H1 Q := by
  obtain ⟨φ, μ, ρ, rep, rs, p⟩ := q
  refine ⟨φ, μ, ρ, rep, rs, (post.bind (rel := RDs X.K X.mg) p).imp fun vs H1 z => ?_⟩
  obtain ⟨φ1, μ1, ds, _, e1, rep1, rds, p1⟩ := z
  exact i φ1 μ1 vs ds H1 rep1 rds p1
theorem s_star {ea : E} {er : Es} (ha : PE X a (canE X.K X.mg xs W (E.den g h ea))) (hr : PA X es (canA X.K X.mg xs W (Es.den g h er))) : PA X (.Starred a pos :: es) (canA X.K X.mg xs W (Es.den g h (.star ea er))) := by
  refine PA.imp (StX.pa_star ha hr) fun σ H Q q => ?_
  obtain ⟨φ, μ, ρ, rep, rs, p⟩ := q
  simp only [Es.den] at p
  refine ⟨φ, μ, ρ, rep, rs, (post.bind (rel := RD X.K X.mg) p).imp fun x H1 z => ?_⟩
  obtain ⟨φ1, μ1, dx, _, e1, rep1, rx, p1⟩ := z
  unfold itemsOf at p1
  split at p1
  · rename_i zs ez
    split at ez
    · cases ez
      obtain ⟨t, vs, rfl, h1, h2⟩ := rx
      refine ⟨t, vs, rfl, .inl h1, φ1, μ1, ρ, rep1, rs.mono e1, (post.bind (rel := RDs X.K X.mg) p1).imp fun ws H2 z2 => ?_⟩
      obtain ⟨φ2, μ2, ds, _, e2, rep2, rds, p2⟩ := z2
      exact p2 φ2 H2 _ Ex.refl rep2 (RDs.append (RDs.mono e2 _ _ h2) rds)
    · rename_i l
      obtain ⟨t, vs, h0, h1, h2⟩ := rep1.list ez
      obtain ⟨t', h4, rfl⟩ := rx
      rw [h0] at h4; cases h4
      refine ⟨t, vs, rfl, .inr h1, φ1, μ1, ρ, rep1, rs.mono e1, (post.bind (rel := RDs X.K X.mg) p1).imp fun ws H2 z2 => ?_⟩
      obtain ⟨φ2, μ2, ds, _, e2, rep2, rds, p2⟩ := z2
      exact p2 φ2 H2 _ Ex.refl rep2 (RDs.append (RDs.mono e2 _ _ h2) rds)
    · cases ez
  · exact p1.elim
theorem chk_star {ea : Es} {es : List Expr} (hc : (es.all notStar && Es.chk g c ea es) = true) : es.all notStar = true := (and2 hc).1
theorem args0 {ea : Es} (hc : (([] : List Expr).all notStar && Es.chk g c ea []) = true) : ea = .nil := by
  have hc := (and2 hc).2
  cases ea with
  | nil => rfl
  | cons e r => simp only [Es.chk] at hc; cases hc
  | star e r => simp only [Es.chk] at hc; cases hc
theorem s_goes {f : String} {p : Pos} {ea : Es} {A : Addr} {m : Env → Store → R D} {ff : List D → Store → R D} (hg : Gl X (nm f)) (hd : (nm f == ("__debug__" : PySem.Str)) = false) (hm : X.mg (nm f) = some (.ref A)) (hk : PySem.W.keepIn X.K (.ref A) = true)
    (hc : (es.all notStar && Es.chk g c ea es) = true) (ha : PA X es (canA X.K X.mg xs W (Es.den g h ea))) (hden : ∀ ρ μ, m ρ μ = (Es.den g h ea ρ μ).bind fun ds μ => ff ds μ)
    (go : ∀ σ φ μ vs ds H Q, Rep X.K X.mg φ μ H → RDs X.K X.mg φ H ds vs → post X.K X.mg (RD X.K X.mg) W (ff ds μ) φ H σ Q → Goes X A vs σ H Q) :
    PE X (.Call (.Name (nm f) p) es [] pos) (canE X.K X.mg xs W m) := by
  have em : m = fun ρ μ => (Es.den g h ea ρ μ).bind fun ds μ => ff ds μ := funext fun ρ => funext fun μ => hden ρ μ
  rw [em]
  have hst := chk_star hc
  cases es with
  | nil =>
    obtain rfl := args0 hc
    refine PE.imp (pe_fun0 hg hm hk hd) fun σ H Q q => ?_
    obtain ⟨φ, μ, ρ, rep, rs, z⟩ := q
    simp only [Es.den, R.bind_ok] at z
    exact go σ φ μ [] [] H Q rep RDs.nil z
  | cons e es =>
    simp only [List.all_cons, Bool.and_eq_true] at hst
    exact PE.imp (pe_fun hg hm hk ha hd (star_one hst.1) (star_all hst.2)) fun σ H Q q => args_then (f := ff) (r := fun vs σ H Q => Goes X A vs σ H Q) (fun φ μ vs ds H rep rds z => go σ φ μ vs ds H Q rep rds z) q
theorem s_call {f : String} {x : PySem.Str} {p : Pos} {ea : Es} (k : Cok n g h xs c W X) (hx : gname c f x = true) (hf : g.fnk f = true) (hc : (es.all notStar && Es.chk g c ea es) = true) (ha : PA X es (canA X.K X.mg xs W (Es.den g h ea))) :
    PE X (.Call (.Name x p) es [] pos) (canE X.K X.mg xs W (E.den g h (.call f ea))) := by
  obtain ⟨rfl, hg, hd, _⟩ := gname_ok k hx
  obtain ⟨A, hm, fa⟩ := k.call.gok.fn _ hf
  exact s_goes (ff := g.callF f) hg hd hm fa.kp hc ha (fun ρ μ => by simp only [E.den]) fun σ φ μ vs ds H Q rep rds z => goes_fn k.call fa rep rds z
theorem s_new {f : String} {x : PySem.Str} {p : Pos} {ea : Es} (k : Cok n g h xs c W X) (hx : gname c f x = true) (hi : (g.init f).isSome = true) (hc : (es.all notStar && Es.chk g c ea es) = true) (ha : PA X es (canA X.K X.mg xs W (Es.den g h ea))) :
    PE X (.Call (.Name x p) es [] pos) (canE X.K X.mg xs W (E.den g h (.new f ea))) := by
  obtain ⟨rfl, hg, hd, _⟩ := gname_ok k hx
  obtain ⟨key, e⟩ := Option.isSome_iff_exists.mp hi
  obtain ⟨C, fi, own, M, fa⟩ := k.call.gok.init _ _ e
  exact s_goes (ff := newD g f) hg hd own.at_ M.kp hc ha (fun ρ μ => by simp only [E.den]) fun σ φ μ vs ds H Q rep rds z => goes_new k.call own M fa e rep rds z
/-- a class called with a star behind the first argument -/
theorem s_newS {f : String} {x : PySem.Str} {p : Pos} {ea : Es} (k : Cok n g h xs c W X) (hx : gname c f x = true) (hi : (g.init f).isSome = true) (h1 : notStar e = true) (h2 : es.all notStar = false) (ha : PA X (e :: es) (canA X.K X.mg xs W (Es.den g h ea))) :
    PE X (.Call (.Name x p) (e :: es) [] pos) (canE X.K X.mg xs W (E.den g h (.newS f ea))) := by
  obtain ⟨rfl, hg, hd, _⟩ := gname_ok k hx
  obtain ⟨key, ek⟩ := Option.isSome_iff_exists.mp hi
  obtain ⟨C, fi, own, M, fa⟩ := k.call.gok.init _ _ ek
  refine ⟨fun pins s σ H Q I q => wpAny_Call_Name_kw (ld_glob I hg own.at_ ?_ hd)⟩
  have q2 := args_then (f := newD g f) (r := fun vs σ H Q => Goes X C vs σ H Q) (fun φ μ vs ds H rep rds z => goes_new k.call own M fa ek rep rds z) (by simpa only [E.den] using q)
  refine PySem.W.callWith_S2 (h₀ := X.base) I.ok.mod.kin M.kp (thn (ha.run pos pins s σ H _ I q2) fun us s1 hu => ?_) (star_one h1) (star_some h2)
  obtain ⟨vs, H1, I1, r, q3⟩ := hu
  exact ⟨I1.kIn, q3 pins s1 us I1 r⟩
/-- a built-in function, by values -/
theorem pe_callBC {x : PySem.Str} {p : Pos} {t : TA} {id : String} {r : List V → L2.St → Hp → VK → Prop} (hc : CallC X (.builtin id) r) (hg : Gl X x) (hm : X.mg x = none) (hv : bootBuiltins x = some (.builtin id)) (ha : PA X (e :: es) t) (hn : x ≠ "__name__") (hdb : (x == ("__debug__" : PySem.Str)) = false)
    (hst : starEach (e :: es) X.env = (false, eval e X.env) :: starEach es X.env) (hpl : (backTo pos (starEach es X.env)).any (·.1) = false) : PE X (.Call (.Name x p) (e :: es) [] pos) (fun σ H Q => t σ H fun vs H1 => r vs σ H1 Q) := by
  refine ⟨fun pins s σ H Q I q => wpAny_Call_Name_kw (ld_blt I hg hm hv (PyProof.Rows.callWith_builtin1 (thn (ha.run pos pins s σ H _ I q) fun us s1 h1 => ?_) hst hpl) hn hdb)⟩
  obtain ⟨vs, H1, I1, r1, q1⟩ := h1
  exact hc pins s1 σ H1 vs us Q I1 r1 q1
theorem pe_callTC {x : PySem.Str} {p : Pos} {t : TA} {T : String} {r : List V → L2.St → Hp → VK → Prop} (hc : CallC X (.type T) r) (hg : Gl X x) (hm : X.mg x = none) (hv : bootBuiltins x = some (.type T)) (ha : PA X (e :: es) t) (hn : x ≠ "__name__") (hdb : (x == ("__debug__" : PySem.Str)) = false)
    (hst : starEach (e :: es) X.env = (false, eval e X.env) :: starEach es X.env) (hpl : (backTo pos (starEach es X.env)).any (·.1) = false) : PE X (.Call (.Name x p) (e :: es) [] pos) (fun σ H Q => t σ H fun vs H1 => r vs σ H1 Q) := by
  refine ⟨fun pins s σ H Q I q => wpAny_Call_Name_kw (ld_blt I hg hm hv (PyProof.Rows.callWith_type1 (thn (ha.run pos pins s σ H _ I q) fun us s1 h1 => ?_) hst hpl) hn hdb)⟩
  obtain ⟨vs, H1, I1, r1, q1⟩ := h1
  exact hc pins s1 σ H1 vs us Q I1 r1 q1
theorem s_bif {b : String} {x : PySem.Str} {p : Pos} {ea : Es} (k : Cok n g h xs c W X) (hx : gname c b x = true) (hb : b ∈ bifs) (hst : (e :: es).all notStar = true) (ha : PA X (e :: es) (canA X.K X.mg xs W (Es.den g h ea))) :
    PE X (.Call (.Name x p) (e :: es) [] pos) (canE X.K X.mg xs W (E.den g h (.bif b ea))) := by
  obtain ⟨rfl, hg, hd, hn⟩ := gname_ok k hx
  have hm : X.mg (nm b) = none := k.ok2.bt b (List.mem_cons_of_mem _ (List.mem_cons_of_mem _ (List.mem_cons_of_mem _ hb)))
  simp only [List.all_cons, Bool.and_eq_true] at hst
  have i : ∀ {σ H Q}, canE X.K X.mg xs W (E.den g h (.bif b ea)) σ H Q → canA X.K X.mg xs W (Es.den g h ea) σ H fun vs H1 => canL X W (bifG g b) vs σ H1 Q := fun {σ H Q} q =>
    args_then (f := bifG g b) (r := fun vs σ H Q => canL X W (bifG g b) vs σ H Q) (fun φ μ vs ds H rep rds z => ⟨φ, μ, ds, rep, rds, z⟩) (by simpa only [E.den] using q)
  have cb := call_bif k.call b hb
  simp only [bifs, List.mem_cons, List.not_mem_nil, or_false] at hb
  rcases hb with rfl | rfl | rfl | rfl | rfl | rfl | rfl
  rotate_right 3
  · exact PE.imp (pe_callTC cb hg hm (by decide +kernel) ha hn hd (star_one hst.1) (star_all hst.2)) fun σ H Q q => i q
  · exact PE.imp (pe_callTC cb hg hm (by decide +kernel) ha hn hd (star_one hst.1) (star_all hst.2)) fun σ H Q q => i q
  · exact PE.imp (pe_callTC cb hg hm (by decide +kernel) ha hn hd (star_one hst.1) (star_all hst.2)) fun σ H Q q => i q
  · exact PE.imp (pe_callBC cb hg hm (by decide +kernel) ha hn hd (star_one hst.1) (star_all hst.2)) fun σ H Q q => i q
  · exact PE.imp (pe_callTC cb hg hm (by decide +kernel) ha hn hd (star_one hst.1) (star_all hst.2)) fun σ H Q q => i q
  · exact PE.imp (pe_callTC cb hg hm (by decide +kernel) ha hn hd (star_one hst.1) (star_all hst.2)) fun σ H Q q => i q
  · exact PE.imp (pe_callBC cb hg hm (by decide +kernel) ha hn hd (star_one hst.1) (star_all hst.2)) fun σ H Q q => i q
/-! ### isinstance -/
theorem ClN.tyN {mg : PySem.Str → Option Value} {x : String} {t : Value} (h : ClN mg x t) : TyN mg x t := by
  rcases h with ⟨C, e, r⟩ | ⟨e, _, r⟩
  · exact .inl ⟨C, e, r⟩
  · exact .inr ⟨e, r⟩
/-- a class's name -/
theorem s_cls {s : String} (k : Cok n g h xs c W X) (hc : clsB g c s e = true) : ∃ v u, PE X e (tC v) ∧ ClsV v u ∧ RelV v u ∧ TyN X.mg s u := by
  cases e <;> first | (cases hc; done) | skip
  rename_i x p
  obtain ⟨hx, hk⟩ := and2 (show (gname c s x && g.clsn s) = true from hc)
  obtain ⟨rfl, hg, hd, hn⟩ := gname_ok k hx
  obtain ⟨t, ht⟩ := k.ok2.clsn _ hk
  rcases id ht with ⟨C, e1, rfl⟩ | ⟨e1, e2, rfl⟩
  · exact ⟨.ref C, .ref C, pe_glob hg e1 rfl hd, .own C, rfl, ht.tyN⟩
  · exact ⟨.ty s, .type s, pe_bltn hg e1 e2 rfl hn hd, .ty s, rfl, ht.tyN⟩
theorem s_clss (k : Cok n g h xs c W X) : ∀ {cs : List String} {es : List Expr}, clssB g c cs es = true → ∃ vs us, PA X es (fun σ H Q => Q vs H) ∧ Paired ClsV vs us ∧ Paired (fun c u => TyN X.mg c u) cs us ∧ vs.length = es.length
  | [], [], _ => ⟨[], [], pa_nil, .nil, .nil, rfl⟩
  | s :: ss, e :: es, hc => by
    obtain ⟨h1, h2⟩ := and2 (show (clsB g c s e && clssB g c ss es) = true from hc)
    obtain ⟨v, u, p1, q1, r1, t1⟩ := s_cls k h1
    obtain ⟨vs, us, p2, q2, t2, l2⟩ := s_clss k h2
    have hs : notStar e = true := by
      cases e <;> first | rfl | cases h1
    exact ⟨v :: vs, u :: us, PA.imp (pa_cons p1 p2 (star_one hs)) fun _ _ _ q => q, .cons q1 q2, .cons t1 t2, by simp [l2]⟩
  | [], _ :: _, hc => by cases hc
  | _ :: _, [], hc => by cases hc
theorem isi_one {many : Bool} {cs : List String} (hi : isiB g c many cs d = true) (hT : ¬ ∃ es k0 p0, d = .Tuple es k0 p0) : ∃ s, cs = [s] ∧ clsB g c s d = true := by
  unfold isiB at hi
  split at hi
  · exact absurd ⟨_, _, _, rfl⟩ hT
  · split at hi
    · exact ⟨_, rfl, hi⟩
    · cases hi
theorem tyx_junk {K : PySem.W.Frag} {H : Hp} {v : V} {t : Value} {q : Addr} {o : HO} (hq : H q = none) (h : TyX K H v t) : TyX K (upd H q o) v t := by
  have up : ∀ {a : Addr} {u : HO}, H a = some u → (upd H q o) a = some u := fun {a u} e => by rw [upd_ne (ne_of_none e hq)]; exact e
  cases h with
  | base b =>
    cases b with
    | non => exact .base .non
    | bl x => exact .base (.bl x)
    | int x => exact .base (.int x)
    | str x => exact .base (.str x)
    | flt x => exact .base (.flt x)
    | lst e => exact .base (.lst (up e))
    | frz e => exact .base (.frz (up e))
    | tup e => exact .base (.tup (up e))
    | dK e => exact .base (.dK (up e))
    | dT e => exact .base (.dT (up e))
    | ins e cl ha hn htk hm => exact .base (.ins (up e) cl ha hn htk hm)
  | byt b => exact .byt b
  | set e => exact .set (up e)
  | kList e c => exact .kList e c
  | kTuple e c => exact .kTuple e c
  | kDict e c => exact .kDict e c
  | fTuple e => exact .fTuple (up e)
  | fDict e => exact .fDict (up e)
/-- isinstance's second argument: one class, or a tuple of such -/
theorem s_isi {many : Bool} {cs : List String} {x : PySem.Str} {p : Pos} {ea : E} (k : Cok n g h xs c W X) (hx : gname c "isinstance" x = true) (hs : notStar a = true) (hs' : notStar d = true) (hi : isiB g c many cs d = true)
    (ha : PE X a (canE X.K X.mg xs W (E.den g h ea))) : PE X (.Call (.Name x p) [a, d] [] pos) (canE X.K X.mg xs W (E.den g h (.isi ea many cs))) := by
  obtain ⟨rfl, hg, hd, hn⟩ := gname_ok k hx
  have hm : X.mg (nm "isinstance") = none := k.ok2.bt _ List.mem_cons_self
  have hb : bootBuiltins (nm "isinstance") = some (.builtin "isinstance") := by decide +kernel
  have st1 : starEach (a :: [d]) X.env = (false, eval a X.env) :: starEach [d] X.env := star_one hs
  have st2 : (backTo pos (starEach [d] X.env)).any (·.1) = false := star_all (by simp [hs'])
  have i : ∀ {σ H Q}, canE X.K X.mg xs W (E.den g h (.isi ea many cs)) σ H Q → canE X.K X.mg xs W (E.den g h ea) σ H fun v H1 => ∃ (t : String) (tv : Value) (b : Bool), TyN X.mg t tv ∧ TyX X.K H1 v tv ∧ anySub g t cs = some b ∧ Q (.bl b) H1 ∧ ∀ q o, H1 q = none → Q (.bl b) (upd H1 q o) := by
    intro σ H Q q
    obtain ⟨φ, μ, ρ, rep, rs, z⟩ := q
    simp only [E.den] at z
    refine ⟨φ, μ, ρ, rep, rs, (post.bind (rel := RD X.K X.mg) z).imp fun v H1 z1 => ?_⟩
    obtain ⟨φ1, μ1, dx, _, e1, rep1, rx, p1⟩ := z1
    unfold isiD at p1
    split at p1
    · rename_i t et
      split at p1
      · rename_i b eb
        obtain ⟨tv, h1, h2⟩ := tyx_of k.call.gok rep1 rx et
        exact ⟨t, tv, b, h1, h2, eb, p1.val rep1 rfl, fun q o hq => p1 φ1 _ _ (Ex.junk hq) (rep1.junk hq) rfl⟩
      · exact p1.elim
    · exact p1.elim
  by_cases hT : ∃ es k0 p0, d = .Tuple es k0 p0
  · obtain ⟨es, k0, p0, rfl⟩ := hT
    obtain ⟨hl, hcs⟩ := and2 (show (decide (es.length ≤ 1000) && clssB g c cs es) = true from hi)
    obtain ⟨vs, us, p2, q2, t2, l2⟩ := s_clss k hcs
    refine PE.imp (pe_callB call_isiT hg hm hb (pa_cons ha (pa_cons (pe_tup p2) pa_nil (star_one hs')) st1) hn hd st1 st2) fun σ H Q q => ?_
    obtain ⟨φ, μ, ρ, rep, rs, z⟩ := i q
    refine ⟨φ, μ, ρ, rep, rs, z.imp fun v H1 z1 => ?_⟩
    obtain ⟨t, tv, b, h1, h2, h3, _, h5⟩ := z1
    refine ⟨by rw [l2]; exact Nat.le_trans (of_decide_eq_true hl) (by decide), fun q hq => ?_⟩
    exact ⟨v, q, vs, tv, us, b, rfl, upd_same, q2, tyx_junk hq h2, kits_of k.call.gok h1 h3 t2, h5 q _ hq⟩
  · obtain ⟨s, rfl, hi'⟩ := isi_one hi hT
    obtain ⟨v0, u0, p1, q1, r1, t1⟩ := s_cls k hi'
    refine PE.imp (pe_callB call_isi hg hm hb (pa_cons ha (pa_cons p1 pa_nil (star_one hs')) st1) hn hd st1 st2) fun σ H Q q => ?_
    obtain ⟨φ, μ, ρ, rep, rs, z⟩ := i q
    refine ⟨φ, μ, ρ, rep, rs, z.imp fun v H1 z1 => ?_⟩
    obtain ⟨t, tv, b, h1, h2, h3, h4, _⟩ := z1
    have h6 := kits_of k.call.gok h1 h3 (.cons t1 .nil)
    have h7 : PySem.W.kitOne X.K tv u0 = some b := by
      unfold PySem.W.kitAny at h6
      split at h6
      · rename_i e6; rw [e6]; exact h6
      · rename_i e6; rw [e6]; exact h6
      · cases h6
    exact ⟨v, v0, tv, u0, b, rfl, q1, h2, h7, h4⟩
/-- isinstance of the exception that a suite holds -/
theorem exc_isi {x : Py.X} {i0 : Nat} (k : Cok n g (some x) xs c W X) (hi0 : c.exc = some i0) : ∃ (a : Addr) (i : Nat) (D : Addr), xs = some (i, a) ∧ TyN X.mg x.cls (.ref D) ∧
    CallC X (.builtin "isinstance") (fun vs _ H Q => ∃ (v : V) (u : Value) (b : Bool), vs = [.ref a, v] ∧ ClsV v u ∧ PySem.W.kitOne X.K (.ref D) u = some b ∧ Q (.bl b) H) ∧
    CallC X (.builtin "isinstance") (fun vs _ H Q => ∃ (tp : Addr) (cs : List V) (us : List Value) (b : Bool), vs = [.ref a, .ref tp] ∧ H tp = some (.tup cs) ∧ Paired ClsV cs us ∧ PySem.W.kitAny X.K (.ref D) us = some b ∧ Q (.bl b) H) := by
  obtain ⟨i, a, e⟩ : ∃ i a, xs = some (i, a) := by
    have := k.exc
    rw [hi0] at this
    cases xs with
    | none => cases this
    | some p => exact ⟨p.1, p.2, rfl⟩
  obtain ⟨hx, D, hm, oe, J⟩ := k.exh x i a rfl e
  obtain ⟨D', ⟨hm', E1⟩⟩ := k.ok2.exc _ hx
  rw [hm] at hm'
  cases hm'
  refine ⟨a, i, D, e, .inl ⟨D, hm, rfl⟩, ?_, ?_⟩
  · intro pins s σ H vs us Q I r q
    obtain ⟨v, u, b, rfl, h1, h2, q⟩ := q
    obtain ⟨u1, u2, rfl, r1, r2⟩ := vals2 r
    cases r1
    obtain rfl := h1.eq r2
    exact PySem.W.kia_one (PySem.W.handS_kitx_exc E1.hg E1.hk E1.hs E1.hd E1.ha E1.hn E1.ht E1.hm) I.kIn (J pins σ H s I) h2 (fun z => nomatch z) fun tk => ⟨.bl b, H, I.tok tk, rfl, q⟩
  · intro pins s σ H vs us Q I r q
    obtain ⟨tp, cs, ws, b, rfl, h0, h1, h2, q⟩ := q
    obtain ⟨u1, u2, rfl, r1, r2⟩ := vals2 r
    cases r1
    cases r2
    obtain ⟨_, its, rv, o, g1, g2, m, g3⟩ := (show ObjOk X.prog X.w H s.heap tp (.tup cs) from I.hok tp _ h0)
    obtain rfl := ClsV.all h1 rv
    obtain ⟨oc, od, dt, sl⟩ := o
    simp only at g2 g3
    subst g2 g3
    exact PySem.W.kia_tup (PySem.W.handS_kitx_exc E1.hg E1.hk E1.hs E1.hd E1.ha E1.hn E1.ht E1.hm) I.kIn (J pins σ H s I) g1 h2 (fun z => nomatch z) fun tk => ⟨.bl b, H, I.tok tk, rfl, q⟩
theorem s_ise {many : Bool} {cs : List String} {x y : PySem.Str} {p p2 : Pos} {i : Nat} (k : Cok n g h xs c W X) (hx : gname c "isinstance" x = true) (hs' : notStar d = true) (hi : isiB g c many cs d = true) (hy : slot c i y = true) (hc : c.exc = some i) :
    PE X (.Call (.Name x p) [.Name y p2, d] [] pos) (canE X.K X.mg xs W (E.den g h (.ise i many cs))) := by
  cases h with
  | none =>
    refine PE.imp PE.never fun σ H Q q => ?_
    obtain ⟨φ, μ, ρ, rep, rs, z⟩ := q
    simp only [E.den] at z
    exact z.elim
  | some ex =>
    obtain ⟨rfl, hg, hd, hn⟩ := gname_ok k hx
    have hm : X.mg (nm "isinstance") = none := k.ok2.bt _ List.mem_cons_self
    have hb : bootBuiltins (nm "isinstance") = some (.builtin "isinstance") := by decide +kernel
    obtain ⟨a, i', D, hxs, ht, c1, c2⟩ := exc_isi k hc
    have hi2 : i' = i := by
      have := k.exc
      rw [hxs, hc] at this
      exact Option.some.inj this
    subst hi2
    have st1 : starEach (.Name y p2 :: [d]) X.env = (false, eval (.Name y p2) X.env) :: starEach [d] X.env := star_one rfl
    have st2 : (backTo pos (starEach [d] X.env)).any (·.1) = false := star_all (by simp [hs'])
    have iq : ∀ {σ H Q}, canE X.K X.mg xs W (E.den g (some ex) (.ise i' many cs)) σ H Q → σ[i']? = some (some (.ref a)) ∧ ∃ b, anySub g ex.cls cs = some b ∧ Q (.bl b) H ∧ ∀ q o, H q = none → Q (.bl b) (upd H q o) := by
      intro σ H Q q
      obtain ⟨φ, μ, ρ, rep, rs, z⟩ := q
      simp only [E.den] at z
      refine ⟨rs.exc i' a hxs, ?_⟩
      split at z
      · rename_i b eb
        exact ⟨b, eb, z.val rep rfl, fun q o hq => z φ _ _ (Ex.junk hq) (rep.junk hq) rfl⟩
      · exact z.elim
    by_cases hT : ∃ es k0 p0, d = .Tuple es k0 p0
    · obtain ⟨es, k0, p0, rfl⟩ := hT
      obtain ⟨hl, hcs⟩ := and2 (show (decide (es.length ≤ 1000) && clssB g c cs es) = true from hi)
      obtain ⟨vs, us, p3, q3, t3, l3⟩ := s_clss k hcs
      refine PE.imp (pe_callBC c2 hg hm hb (pa_cons (slot_ok k hy) (pa_cons (pe_tup p3) pa_nil (star_one hs')) st1) hn hd st1 st2) fun σ H Q q => ?_
      obtain ⟨e1, b, e2, _, e4⟩ := iq q
      refine ⟨_, e1, by rw [l3]; exact Nat.le_trans (of_decide_eq_true hl) (by decide), fun r hr => ?_⟩
      exact ⟨r, vs, us, b, rfl, upd_same, q3, kits_of k.call.gok ht e2 t3, e4 r _ hr⟩
    · obtain ⟨s, rfl, hi'⟩ := isi_one hi hT
      obtain ⟨v0, u0, p1, q1, r1, t1⟩ := s_cls k hi'
      refine PE.imp (pe_callBC c1 hg hm hb (pa_cons (slot_ok k hy) (pa_cons p1 pa_nil (star_one hs')) st1) hn hd st1 st2) fun σ H Q q => ?_
      obtain ⟨e1, b, e2, e3, _⟩ := iq q
      have h6 := kits_of k.call.gok ht e2 (.cons t1 .nil)
      have h7 : PySem.W.kitOne X.K (.ref D) u0 = some b := by
        unfold PySem.W.kitAny at h6
        split at h6
        · rename_i e6; rw [e6]; exact h6
        · rename_i e6; rw [e6]; exact h6
        · cases h6
      exact ⟨_, e1, v0, u0, b, rfl, q1, h7, e3⟩
/-! ### attributes, methods -/
theorem s_attr {ea : E} {f : String} (k : Cok n g h xs c W X) (hab : attB e = true) (ha : PE X e (canE X.K X.mg xs W (E.den g h ea))) : PE X (.Attribute e (nm f) pos) (canE X.K X.mg xs W (E.den g h (.attr ea f))) := by
  refine PE.imp (pe_getp ha (att_base hab)) fun σ H Q q => ?_
  obtain ⟨φ, μ, ρ, rep, rs, z⟩ := q
  simp only [E.den] at z
  refine ⟨φ, μ, ρ, rep, rs, (post.bind (rel := RD X.K X.mg) z).imp fun x H1 z1 => ?_⟩
  obtain ⟨φ1, μ1, d, _, e1, rep1, rd, p1⟩ := z1
  exact fun pins s u I r => attr_can k.call I r rep1 rd p1
/-- a built-in type's method -/
theorem bm_run {T id : String} {f : D → List D → Store → R D} {r : V → List V → Hp → VK → Prop} {ap p : Pos} {m : String} {eo : E} {ea : Es} {dv : D} {φ : List Addr} {μ μ1 : Store} {ρ : Env} {σ : L2.St} {H : Hp} {Q : VK} {pins : List (Addr × Obj)} {s : Shared}
    (pa : PlainAttrs T) (slot : Slot T (nm m) id) (hty : typeOf (.builtin id) = pure (.type "method_descriptor")) (hm : MtR X id r) (i : ∀ x vs H, canM X W f x vs σ H Q → r x vs H Q)
    (ho : PE X e (canE X.K X.mg xs W (E.den g h eo))) (ha : PA X es (canA X.K X.mg xs W (Es.den g h ea))) (hb : attB e = true) (hl : (ap.endLine == p.line) = true) (hc : (es.all notStar && Es.chk g c ea es) = true) (hn : es.length < 29)
    (I : Inv X pins σ H s) (rep : Rep X.K X.mg φ μ H) (rs : RS X.K X.mg xs φ H ρ σ) (he : E.den g h eo ρ μ = .ok dv μ1) (ht : ∀ φ H v, Rep X.K X.mg φ μ1 H → RD X.K X.mg φ H dv v → tyV X.K T v H)
    (q : post X.K X.mg (RD X.K X.mg) W ((Es.den g h ea ρ μ1).bind fun ds μ => f dv ds μ) φ H σ Q) : wpAny (model X.prog X.w) X.A (eval (.Call (.Attribute e (nm m) ap) es [] p) X.env) (EP X pins σ Q) X.xe s := by
  have hst := chk_star hc
  cases es with
  | nil =>
    obtain rfl := args0 hc
    refine (pe_bm0 pa slot hty hm ho (att_base hb) hl).run pins s σ H Q I ⟨φ, μ, ρ, rep, rs, ?_⟩
    rw [he]
    intro φ1 H1 v e1 rep1 rd
    simp only [Es.den, R.bind_ok] at q
    exact ⟨ht _ _ _ rep1 rd, i _ _ _ ⟨φ1, μ1, dv, [], rep1, rd, RDs.nil, post.mono e1 q⟩⟩
  | cons b es =>
    have hfew := few_ok (pos := p) (env := X.env) hst hn
    simp only [List.all_cons, Bool.and_eq_true] at hst
    refine (pe_bm pa slot hty hm ho ha (att_base hb) hfew hl (star_one hst.1) (star_all hst.2)).run pins s σ H Q I ⟨φ, μ, ρ, rep, rs, ?_⟩
    rw [he]
    intro φ1 H1 v e1 rep1 rd
    refine ⟨ht _ _ _ rep1 rd, φ1, μ1, ρ, rep1, rs.mono e1, (post.bind (rel := RDs X.K X.mg) (post.mono e1 q)).imp fun vs H2 z => ?_⟩
    obtain ⟨φ2, μ2, ds, _, e2, rep2, rds, p2⟩ := z
    exact i _ _ _ ⟨φ2, μ2, dv, ds, rep2, RD.mono e2 _ _ rd, rds, p2⟩
theorem s_meth {ap p : Pos} {m : String} {eo : E} {ea : Es} (k : Cok n g h xs c W X) (hb : attB e = true) (hl : (ap.endLine == p.line) = true) (hc : (es.all notStar && Es.chk g c ea es) = true) (hn : es.length < 29)
    (ho : PE X e (canE X.K X.mg xs W (E.den g h eo))) (ha : PA X es (canA X.K X.mg xs W (Es.den g h ea))) : PE X (.Call (.Attribute e (nm m) ap) es [] p) (canE X.K X.mg xs W (E.den g h (.meth eo m ea))) := by
  refine ⟨fun pins s σ H Q I q => ?_⟩
  obtain ⟨φ, μ, ρ, rep, rs, z⟩ := q
  simp only [E.den] at z
  have hst := chk_star hc
  have own : ∀ (t : tOwnM X (nm m) (canE X.K X.mg xs W (E.den g h eo)) (canA X.K X.mg xs W (Es.den g h ea)) σ H Q), wpAny (model X.prog X.w) X.A (eval (.Call (.Attribute e (nm m) ap) es [] p) X.env) (EP X pins σ Q) X.xe s := by
    intro t
    cases es with
    | nil =>
      obtain rfl := args0 hc
      refine (pe_ownM0 ho (meth_eval (args := []) (att_base hb) (few_ok rfl (by decide)) hl)).run pins s σ H Q I ?_
      obtain ⟨φ, μ, ρ, rep, rs, z⟩ := t
      refine ⟨φ, μ, ρ, rep, rs, z.imp fun x H1 z1 => ?_⟩
      obtain ⟨a, C, dx, fs, f, e1, e2, e3, e4, e5, φ1, μ1, ρ1, rep1, rs1, q⟩ := z1
      refine ⟨a, C, dx, fs, f, e1, e2, e3, e4, e5, ?_⟩
      simp only [Es.den] at q
      exact post.val (rel := RDs X.K X.mg) rep1 RDs.nil q
    | cons b es =>
      have hfew := few_ok (pos := p) (env := X.env) hst hn
      have h2 := hst
      simp only [List.all_cons, Bool.and_eq_true] at h2
      exact (pe_ownM ho ha (star_one h2.1) (star_all h2.2) (meth_eval (att_base hb) hfew hl)).run pins s σ H Q I t
  cases he : E.den g h eo ρ μ with
  | bad => rw [he] at z; exact z.elim
  | err x μ1 =>
    rw [he] at z
    refine own ⟨φ, μ, ρ, rep, rs, ?_⟩
    rw [he]
    exact z
  | ok dv μ1 =>
    rw [he] at z
    simp only [R.bind_ok] at z
    cases hr : recv g dv m μ1 with
    | none => rw [hr] at z; exact z.elim
    | some rk =>
      rw [hr] at z
      simp only at z
      unfold recv at hr
      split at hr
      · rename_i s0
        split at hr
        · rename_i hm
          cases hr
          have ht : ∀ φ H v, Rep X.K X.mg φ μ1 H → RD X.K X.mg φ H (.str s0) v → tyV X.K "str" v H := fun φ H v _ rd => by
            cases rd
            first | trivial | rfl | exact ⟨_, rfl⟩
          rcases hm with rfl | rfl
          · exact bm_run (f := sM "startswith") PySem.F.plainAttrs_str PySem.F.slot_str_startswith PySem.F.type_str_startswith mt_startswith (fun _ _ _ q => sm_starts q) ho ha hb hl hc hn I rep rs he ht z
          · exact bm_run (f := sM "removeprefix") PySem.F.plainAttrs_str PySem.F.slot_str_removeprefix PySem.F.type_str_removeprefix mt_removeprefix (fun _ _ _ q => sm_rmpre q) ho ha hb hl hc hn I rep rs he ht z
        · cases hr
      · rename_i i
        split at hr
        · rename_i ds ei
          split at hr
          · rename_i hm
            cases hr
            have ht : ∀ φ H v, Rep X.K X.mg φ μ1 H → RD X.K X.mg φ H (.obj i) v → tyV X.K "list" v H := fun φ H v rep rd => by
              obtain ⟨a, vs, rfl, h1, h2, h3⟩ := lst_at rep rd ei
              exact .inl ⟨rfl, vs, .inl (.inl h2)⟩
            rcases hm with rfl | rfl | rfl
            · exact bm_run (f := lM "append") PySem.F.plainAttrs_list PySem.F.slot_list_append PySem.F.type_list_append mt_append (fun _ _ _ q => lm_append q) ho ha hb hl hc hn I rep rs he ht z
            · exact bm_run (f := lM "pop") PySem.F.plainAttrs_list PySem.F.slot_list_pop PySem.F.type_list_pop mt_pop (fun _ _ _ q => lm_pop q) ho ha hb hl hc hn I rep rs he ht z
            · exact bm_run (f := lM "reverse") PySem.F.plainAttrs_list PySem.F.slot_list_reverse PySem.F.type_list_reverse mt_reverse (fun _ _ _ q => lm_reverse q) ho ha hb hl hc hn I rep rs he ht z
          · cases hr
        · rename_i kc fs ei
          split at hr
          · rename_i key e1 e2
            cases hr
            obtain ⟨C0, f, ow, me, fa⟩ := k.call.gok.meth _ _ _ e1
            refine own ⟨φ, μ, ρ, rep, rs, ?_⟩
            rw [he]
            intro φ1 H1 v ex1 rep1 rd
            obtain ⟨a, h1, C, dx, l, h2, h3, h4⟩ := rep1.at_ _ _ ei
            obtain ⟨a', h5, rfl⟩ := id rd
            rw [h1] at h5; cases h5
            obtain rfl := own_eq ow h2
            have lk := h4.look m
            rw [e2] at lk
            refine ⟨a, _, dx, l, f, rfl, h3, ow.cl, me, lk, φ1, μ1, ρ, rep1, rs.mono ex1, (post.bind (rel := RDs X.K X.mg) (post.mono ex1 z)).imp fun vs H2 z2 => ?_⟩
            obtain ⟨φ2, μ2, ds, _, e3, rep2, rds, p2⟩ := z2
            exact goes_fn k.call fa rep2 (RDs.cons (RD.mono e3 _ _ rd) rds) p2
          · cases hr
        · cases hr
      · cases hr
theorem pe_unC {op : UnaryOp} {r : V → L2.St → Hp → VK → Prop} {ta : TE} (ho : UnC X (unaryOp op) r) (ha : PE X a ta) : PE X (.UnaryOp op a pos) (fun σ H Q => ta σ H fun x H1 => r x σ H1 Q) := by
  refine ⟨fun pins s σ H Q I q => wpAny_UnaryOp (thn (ha.run pins s σ H _ I q) fun v s1 h1 => ?_)⟩
  obtain ⟨x, H1, I1, r1, q1⟩ := h1
  exact ho pins s1 σ H1 x v Q I1 r1 q1
theorem s_un {o : UO} {o' : UnaryOp} {ea : E} (k : Cok n g h xs c W X) (ho : uopB o o' = true) (ha : PE X a (canE X.K X.mg xs W (E.den g h ea))) : PE X (.UnaryOp o' a pos) (canE X.K X.mg xs W (E.den g h (.un o ea))) := by
  rw [uopB_ok ho]
  refine PE.imp (pe_unC (op_unG k.call o) ha) fun σ H Q q => ?_
  obtain ⟨φ, μ, ρ, rep, rs, p⟩ := q
  simp only [E.den] at p
  refine ⟨φ, μ, ρ, rep, rs, (post.bind (rel := RD X.K X.mg) p).imp fun x H1 z => ?_⟩
  obtain ⟨φ1, μ1, dx, _, e1, rep1, rx, p1⟩ := z
  exact ⟨φ1, μ1, dx, rep1, rx, p1⟩
end
end Py
end

section
set_option Elab.async false
set_option linter.all false
set_option maxRecDepth 100000
set_option maxHeartbeats 4000000
set_option autoImplicit false
/-! The Py layer, part 12: statements. -/
namespace Py
open PySem L2
section
variable (K : PySem.W.Frag) (mg : PySem.Str → Option Value) (xs : Option (Nat × Addr))
def postS (W : WX) (r : SR) (φ : List Addr) (H : Hp) (D : Ends) : Prop := match r with
  | .nx ρ' μ' => ∀ φ' H' σ', Ex φ H φ' H' → Rep K mg φ' μ' H' → RS K mg xs φ' H' ρ' σ' → D.nx σ' H'
  | .rt d μ' => ∀ φ' H' v, Ex φ H φ' H' → Rep K mg φ' μ' H' → RD K mg φ' H' d v → D.rt v H'
  | .bk ρ' μ' => ∀ φ' H' σ', Ex φ H φ' H' → Rep K mg φ' μ' H' → RS K mg xs φ' H' ρ' σ' → D.bk σ' H'
  | .ct ρ' μ' => ∀ φ' H' σ', Ex φ H φ' H' → Rep K mg φ' μ' H' → RS K mg xs φ' H' ρ' σ' → D.ct σ' H'
  | .er x ρ' μ' => ∀ φ' H' σ' cls d, Ex φ H φ' H' → Rep K mg φ' μ' H' → RS K mg xs φ' H' ρ' σ' → RX K mg φ' H' x cls d → W cls d σ' H'
  | .bad => False
def canS (W : WX) (m : Env → Store → SR) : TS := fun D σ H => ∃ φ μ ρ, Rep K mg φ μ H ∧ RS K mg xs φ H ρ σ ∧ postS K mg xs W (m ρ μ) φ H D
/-- a target -/
def canG (t : Tg) : TG := fun v σ H Q => ∃ φ μ ρ d ρ', Rep K mg φ μ H ∧ RS K mg xs φ H ρ σ ∧ RD K mg φ H d v ∧ t.put d ρ μ = some ρ' ∧ ∀ σ', RS K mg xs φ H ρ' σ' → (∀ vs, (∀ i ∈ t.slots, i ∈ vs) → wipe σ' vs = wipe σ vs) → Q σ' H
end
section
variable {X : Cx} {W : WX} {n : Nat} {g : G} {h : Option Py.X} {xs : Option (Nat × Addr)} {c : Ctx} {e a b d : Expr} {es : List Expr} {pos : Pos}
variable {K : PySem.W.Frag} {mg : PySem.Str → Option Value} {φ φ' : List Addr} {H H' : Hp} {σ : L2.St} {ρ : Env} {μ : Store} {D : Ends}
theorem postS.mono {r : SR} (e : Ex φ H φ' H') (p : postS K mg xs W r φ H D) : postS K mg xs W r φ' H' D := by
  cases r with
  | nx ρ1 μ1 => exact fun φ2 H2 σ2 e2 => p φ2 H2 σ2 (e.trans e2)
  | rt d μ1 => exact fun φ2 H2 v e2 => p φ2 H2 v (e.trans e2)
  | bk ρ1 μ1 => exact fun φ2 H2 σ2 e2 => p φ2 H2 σ2 (e.trans e2)
  | ct ρ1 μ1 => exact fun φ2 H2 σ2 e2 => p φ2 H2 σ2 (e.trans e2)
  | er x ρ1 μ1 => exact fun φ2 H2 σ2 cl d e2 => p φ2 H2 σ2 cl d (e.trans e2)
  | bad => exact p
/-- an expression first -/
theorem postS.st {α β : Type} {rel : List Addr → Hp → α → β → Prop} {r : R α} {f : α → Store → SR} (rs : RS K mg xs φ H ρ σ) (p : postS K mg xs W (r.st ρ f) φ H D) :
    post K mg rel W r φ H σ fun b H1 => ∃ φ1 μ1 a, r = .ok a μ1 ∧ Ex φ H φ1 H1 ∧ Rep K mg φ1 μ1 H1 ∧ rel φ1 H1 a b ∧ postS K mg xs W (f a μ1) φ1 H1 D := by
  cases r with
  | ok a μ' => exact fun φ1 H1 b e1 rep r => ⟨φ1, μ', a, rfl, e1, rep, r, postS.mono e1 p⟩
  | err x μ' => exact fun φ1 H1 cl d e1 rep rx => p φ1 H1 σ cl d e1 rep (rs.mono e1) rx
  | bad => exact p
theorem PS.imp {st : Stmt} {t t' : TS} (h : PS X st t) (i : ∀ D σ H, t' D σ H → t D σ H) : PS X st t' := ⟨fun pins s σ H D I q => h.run pins s σ H D I (i D σ H q)⟩
theorem PSs.imp {st : List Stmt} {t t' : TS} (h : PSs X st t) (i : ∀ D σ H, t' D σ H → t D σ H) : PSs X st t' := ⟨fun pins s σ H D I q => h.run pins s σ H D I (i D σ H q)⟩
theorem PG.imp {tg : Expr} {t t' : TG} (h : PG X tg t) (i : ∀ v σ H Q, t' v σ H Q → t v σ H Q) : PG X tg t' := ⟨fun pins s σ H v u Q I r q => h.run pins s σ H v u Q I r (i v σ H Q q)⟩
/-! ### blocks -/
theorem z_nil : PSs X [] (canS X.K X.mg xs W (Ss.den g h .nil)) := by
  refine PSs.imp pss_nil fun D σ H q => ?_
  obtain ⟨φ, μ, ρ, rep, rs, p⟩ := q
  simp only [Ss.den] at p
  exact p φ H σ Ex.refl rep rs
theorem z_cons {st : Stmt} {rest : List Stmt} {s : Py.St} {r : Ss} (h1 : PS X st (canS X.K X.mg xs W (St.den g h s))) (h2 : PSs X rest (canS X.K X.mg xs W (Ss.den g h r))) : PSs X (st :: rest) (canS X.K X.mg xs W (Ss.den g h (.cons s r))) := by
  refine PSs.imp (pss_cons h1 h2) fun D σ H q => ?_
  obtain ⟨φ, μ, ρ, rep, rs, p⟩ := q
  simp only [Ss.den] at p
  refine ⟨φ, μ, ρ, rep, rs, ?_⟩
  cases e0 : St.den g h s ρ μ with
  | nx ρ1 μ1 =>
    rw [e0] at p
    exact fun φ1 H1 σ1 e1 rep1 rs1 => ⟨φ1, μ1, ρ1, rep1, rs1, postS.mono e1 p⟩
  | rt d μ1 => rw [e0] at p; exact p
  | bk ρ1 μ1 => rw [e0] at p; exact p
  | ct ρ1 μ1 => rw [e0] at p; exact p
  | er x ρ1 μ1 => rw [e0] at p; exact p
  | bad => rw [e0] at p; exact p
/-! ### targets -/
theorem loc_ok {x : PySem.Str} (k : Cok n g h xs c W X) (hv : locB c x = true) : L2.Loc X.env.scope x ∧ (X.fn x = true ∨ X.env.scope.names.lookup x = some .local) := by
  unfold locB at hv
  unfold L2.Loc
  rw [k.sc]
  split at hv
  · rename_i e; exact ⟨.inl e, .inr e⟩
  · rename_i e
    refine ⟨.inr e, .inl ?_⟩
    rw [k.fn (by simpa using hv)]
  · cases hv
theorem wipe_get : ∀ {vs : List Nat} {σ : L2.St} (j : Nat), (wipe σ vs)[j]? = if j ∈ vs then (if j < σ.length then some none else none) else σ[j]?
  | [], σ, j => by simp [wipe]
  | v :: vs, σ, j => by
    unfold wipe
    by_cases hv : v = j
    · subst hv
      by_cases hl : v < σ.length
      · rw [List.getElem?_set_self (by rw [wipe_length]; exact hl)]
        simp [hl]
      · rw [List.getElem?_eq_none (by rw [List.length_set, wipe_length]; omega)]
        simp [hl]
    · rw [List.getElem?_set_ne hv, wipe_get j]
      have : (j ∈ v :: vs) ↔ j ∈ vs := by simp [List.mem_cons, Ne.symm hv]
      simp only [this]
theorem wipe_set {σ : L2.St} {vs : List Nat} {i : Nat} {x : Option V} (h : i ∈ vs) : wipe (σ.set i x) vs = wipe σ vs := by
  apply List.ext_getElem?
  intro j
  rw [wipe_get, wipe_get]
  by_cases hj : j ∈ vs
  · simp [hj]
  · have : i ≠ j := fun e => hj (e ▸ h)
    simp [hj, List.getElem?_set_ne this]
theorem g_name {i : Nat} {x : PySem.Str} (k : Cok n g h xs c W X) (h1 : c.N[i]? = some x) (h2 : locB c x = true) (h3 : c.exc ≠ some i) : PG X (.Name x pos) (canG X.K X.mg xs (.name i)) := by
  obtain ⟨l1, l2⟩ := loc_ok k h2
  refine PG.imp (pg_name k.nd (by rw [k.N]; exact h1) l1 l2) fun v σ H Q q => ?_
  obtain ⟨φ, μ, ρ, d, ρ', rep, rs, rd, e, q⟩ := q
  cases e
  exact q _ (rs.set rd (by rw [k.exc]; exact h3)) fun vs hi => wipe_set (hi i (by simp [Tg.slots]))
def canGs (K : PySem.W.Frag) (mg : PySem.Str → Option Value) (xs : Option (Nat × Addr)) (is : List Nat) : TGs := fun vs σ H Q => ∃ φ ρ ds, RS K mg xs φ H ρ σ ∧ RDs K mg φ H ds vs ∧ ds.length = is.length ∧ ∀ σ', RS K mg xs φ H (setAll is ds ρ) σ' → (∀ vs, (∀ i ∈ is, i ∈ vs) → wipe σ' vs = wipe σ vs) → Q σ' H
theorem PGs.imp {ts : List Expr} {t t' : TGs} (h : PGs X ts t) (i : ∀ v σ H Q, t' v σ H Q → t v σ H Q) : PGs X ts t' := ⟨fun pins s σ H v u Q I r q => h.run pins s σ H v u Q I r (i v σ H Q q)⟩
theorem g_names (k : Cok n g h xs c W X) : ∀ {is : List Nat} {es : List Expr}, Tg.chk.namesB c is es = true → PGs X es (canGs X.K X.mg xs is) ∧ (assignEach es X.env).length = is.length ∧ (assignEach es X.env).findIdx? (·.1) = none
  | [], [], _ => by
    refine ⟨PGs.imp pgs_nil fun vs σ H Q q => ?_, rfl, rfl⟩
    obtain ⟨φ, ρ, ds, rs, rd, hl, q⟩ := q
    cases ds with
    | nil => cases rd; exact ⟨rfl, q σ rs fun _ _ => rfl⟩
    | cons => cases hl
  | i :: is, e :: es, hc => by
    cases e <;> first | (cases hc; done) | skip
    rename_i x p
    obtain ⟨h1, h2⟩ := and2 (show ((decide (c.N[i]? = some x) && (locB c x && decide (c.exc ≠ some i))) && Tg.chk.namesB c is es) = true from hc)
    obtain ⟨h1, h3⟩ := and2 h1
    obtain ⟨h3, h4⟩ := and2 h3
    obtain ⟨p1, p2, p3⟩ := g_names k h2
    obtain ⟨l1, l2⟩ := loc_ok k h3
    have hx : xs.map (·.1) ≠ some i := by rw [k.exc]; exact of_decide_eq_true h4
    refine ⟨PGs.imp (pgs_cons (pg_name k.nd (by rw [k.N]; exact of_decide_eq_true h1) l1 l2) p1 rfl) fun vs σ H Q q => ?_, ?_, ?_⟩
    · obtain ⟨φ, ρ, ds, rs, rd, hl, q⟩ := q
      cases ds with
      | nil => cases hl
      | cons d ds =>
        obtain ⟨v, r, rfl, rv, rr⟩ := rd
        exact ⟨v, r, rfl, φ, ρ.set i (some d), ds, rs.set rv hx, rr, by simpa using hl, fun σ' rs' hw => q σ' rs' fun vs hi => (hw vs fun j hj => hi j (List.mem_cons_of_mem _ hj)).trans (wipe_set (hi i List.mem_cons_self))⟩
    · have : assignEach (.Name x p :: es) X.env = (false, assign (.Name x p) X.env) :: assignEach es X.env := rfl
      rw [this]
      simp [p2]
    · have : assignEach (.Name x p :: es) X.env = (false, assign (.Name x p) X.env) :: assignEach es X.env := rfl
      rw [this, List.findIdx?_cons, p3]
      rfl
  | [], _ :: _, hc => by cases hc
  | _ :: _, [], hc => by cases hc
theorem PG.or {e : Expr} {t1 t2 : TG} (h1 : PG X e t1) (h2 : PG X e t2) : PG X e fun v σ H Q => t1 v σ H Q ∨ t2 v σ H Q :=
  ⟨fun pins s σ H v u Q I r q => q.elim (fun q => h1.run pins s σ H v u Q I r q) fun q => h2.run pins s σ H v u Q I r q⟩
theorem g_tg {t : Tg} (k : Cok n g h xs c W X) (hc : t.chk c e = true) : PG X e (canG X.K X.mg xs t) := by
  cases t with
  | name i =>
    cases e <;> first | (cases hc; done) | skip
    rename_i x p
    obtain ⟨h1, h2⟩ := and2 (show (decide (c.N[i]? = some x) && (locB c x && decide (c.exc ≠ some i))) = true from hc)
    obtain ⟨h2, h3⟩ := and2 h2
    exact g_name k (of_decide_eq_true h1) h2 (of_decide_eq_true h3)
  | tup is =>
    cases e <;> first | (cases hc; done) | skip
    rename_i es kk p
    obtain ⟨h1, h2⟩ := and2 (show (!c.hot && Tg.chk.namesB c is es) = true from hc)
    obtain ⟨p1, p2, p3⟩ := g_names k h2
    refine PG.imp (PG.or (pg_tup (k.calm (by simpa using h1)) p1 p2 p3) (pg_lst (k.calm (by simpa using h1)) p1 p2 p3)) fun v σ H Q q => ?_
    obtain ⟨φ, μ, ρ, d, ρ', rep, rs, rd, e, q⟩ := q
    cases d <;> first | (simp only [Tg.put] at e; cases e; done) | skip
    · rename_i ds
      simp only [Tg.put] at e
      split at e
      · rename_i hl
        cases e
        obtain ⟨a, vs, rfl, h3, h4⟩ := rd
        exact .inl ⟨a, vs, rfl, h3, by rw [h4.length]; exact hl, φ, ρ, ds, rs, h4, hl, q⟩
      · cases e
    · rename_i l
      simp only [Tg.put] at e
      split at e
      · rename_i ds el
        split at e
        · rename_i hl
          cases e
          obtain ⟨a, vs, g1, g2, g3⟩ := rep.list el
          obtain ⟨a', z, rfl⟩ := rd
          rw [g1] at z; cases z
          exact .inr ⟨a, vs, rfl, g2, by rw [g3.length]; exact hl, φ, ρ, ds, rs, g3, hl, q⟩
        · cases e
      · cases e

/-! ### plain statements -/
theorem z_expr {ea : E} (hs : notComp e = true) (ha : PE X e (canE X.K X.mg xs W (E.den g h ea))) : PS X (.Expr e pos) (canS X.K X.mg xs W (St.den g h (.expr ea))) := by
  refine PS.imp (ps_expr ha (no_swap hs)) fun D σ H q => ?_
  obtain ⟨φ, μ, ρ, rep, rs, p⟩ := q
  simp only [St.den] at p
  refine ⟨φ, μ, ρ, rep, rs, (postS.st (rel := RD X.K X.mg) rs p).imp fun v H1 q => ?_⟩
  obtain ⟨φ1, μ1, d, _, e1, rep1, rd, p1⟩ := q
  exact p1 φ1 H1 σ Ex.refl rep1 (rs.mono e1)
theorem z_ret {ea : E} (ha : PE X e (canE X.K X.mg xs W (E.den g h ea))) : PS X (.Return (some e) pos) (canS X.K X.mg xs W (St.den g h (.ret ea))) := by
  refine PS.imp (ps_ret ha) fun D σ H q => ?_
  obtain ⟨φ, μ, ρ, rep, rs, p⟩ := q
  simp only [St.den] at p
  refine ⟨φ, μ, ρ, rep, rs, (postS.st (rel := RD X.K X.mg) rs p).imp fun v H1 q => ?_⟩
  obtain ⟨φ1, μ1, d, _, e1, rep1, rd, p1⟩ := q
  exact p1 φ1 H1 v Ex.refl rep1 rd
theorem z_retN : PS X (.Return none pos) (canS X.K X.mg xs W (St.den g h .retN)) := by
  refine PS.imp ps_retN fun D σ H q => ?_
  obtain ⟨φ, μ, ρ, rep, rs, p⟩ := q
  simp only [St.den] at p
  exact p φ H .non Ex.refl rep rfl
theorem z_pass : PS X (.Pass pos) (canS X.K X.mg xs W (St.den g h .pass)) := by
  refine PS.imp ps_pass fun D σ H q => ?_
  obtain ⟨φ, μ, ρ, rep, rs, p⟩ := q
  simp only [St.den] at p
  exact p φ H σ Ex.refl rep rs
theorem z_brk : PS X (.Break pos) (canS X.K X.mg xs W (St.den g h .brk)) := by
  refine PS.imp ps_break fun D σ H q => ?_
  obtain ⟨φ, μ, ρ, rep, rs, p⟩ := q
  simp only [St.den] at p
  exact p φ H σ Ex.refl rep rs
theorem z_cont : PS X (.Continue pos) (canS X.K X.mg xs W (St.den g h .cont)) := by
  refine PS.imp ps_continue fun D σ H q => ?_
  obtain ⟨φ, μ, ρ, rep, rs, p⟩ := q
  simp only [St.den] at p
  exact p φ H σ Ex.refl rep rs
theorem Tg.den_nx {t : Tg} {d : Py.D} {ρ : Env} {μ : Store} : t.den d ρ μ = .bad ∨ ∃ ρ', t.put d ρ μ = some ρ' ∧ t.den d ρ μ = .nx ρ' μ := by
  unfold Tg.den
  cases t.put d ρ μ with
  | none => exact .inl rfl
  | some ρ' => exact .inr ⟨ρ', rfl, rfl⟩
/-- a pair of names for a pair: stored in another order -/
def plainSet : Expr → Expr → Bool
  | .Name .., _ => true
  | .Tuple .., .Tuple .. => false
  | .Tuple .., _ => true
  | _, _ => false
theorem no_stores {t : Expr} {env : PySem.Env} (h : plainSet t e = true) : swappedStores [t] e env = pure none := by
  cases t <;> first | (cases h; done) | skip
  · cases e <;> first | rfl | cases h
  · cases e <;> first | rfl | cases h
theorem one_each {t : Expr} {env : PySem.Env} (h : plainSet t e = true) : (assignEach [t] env).map (·.2) = [assign t env] := by
  cases t <;> first | rfl | cases h
theorem z_set {t : Tg} {t' : Expr} {ea : E} (k : Cok n g h xs c W X) (hc : t.chk c t' = true) (hs : swapsWithSole [t'] e pos.line X.env = pure false) (hp : plainSet t' e = true) (ha : PE X e (canE X.K X.mg xs W (E.den g h ea))) :
    PS X (.Assign [t'] e pos) (canS X.K X.mg xs W (St.den g h (.set t ea))) := by
  refine PS.imp (ps_asg ha (g_tg k hc) hs (no_stores hp) (one_each hp)) fun D σ H q => ?_
  obtain ⟨φ, μ, ρ, rep, rs, p⟩ := q
  simp only [St.den] at p
  refine ⟨φ, μ, ρ, rep, rs, (postS.st (rel := RD X.K X.mg) rs p).imp fun v H1 q => ?_⟩
  obtain ⟨φ1, μ1, d, _, e1, rep1, rd, p1⟩ := q
  rcases Tg.den_nx (t := t) (d := d) (ρ := ρ) (μ := μ1) with z | ⟨ρ', z0, z⟩
  · rw [z] at p1; exact p1.elim
  · rw [z] at p1
    exact ⟨φ1, μ1, ρ, d, ρ', rep1, rs.mono e1, rd, z0, fun σ' rs' _ => p1 φ1 H1 σ' Ex.refl rep1 rs'⟩
/-- += -= -/
def augB : BO → Bool
  | .add => true
  | .sub => true
  | _ => false
def ipS : TIp := fun x y H Q => ∃ s t : S, x = .str (stS s) ∧ y = .str (stS t) ∧ s.length + t.length ≤ line ∧ Q (.str (stS (s ++ t))) H
theorem ip_str : PIp X .Add ipS := by
  intro pins s σ H x y v u Q I r1 r2 hh
  obtain ⟨a, b, rfl, rfl, hl, q⟩ := hh
  obtain ⟨t, rfl⟩ := r1
  obtain ⟨t', rfl⟩ := r2
  refine PyProof.Rows.iadd_str (fun t' tk => ⟨.str (stS (a ++ b)), H, I.tok _, ⟨t', by rw [stS_app]⟩, q⟩) ?_
  rw [← line_eq]
  simpa [stS, PySem.Str.length] using hl
theorem PIp.or {op : Operator} {t1 t2 : TIp} (h1 : PIp X op t1) (h2 : PIp X op t2) : PIp X op fun x y H Q => t1 x y H Q ∨ t2 x y H Q := by
  intro pins s σ H x y v u Q I r1 r2 hh
  rcases hh with hh | hh
  · exact h1 pins s σ H x y v u Q I r1 r2 hh
  · exact h2 pins s σ H x y v u Q I r1 r2 hh
theorem PIp.imp {op : Operator} {t1 t2 : TIp} (h1 : PIp X op t1) (i : ∀ x y H Q, t2 x y H Q → t1 x y H Q) : PIp X op t2 := fun pins s σ H x y v u Q I r1 r2 hh => h1 pins s σ H x y v u Q I r1 r2 (i _ _ _ _ hh)
def ipC (X : Cx) (o : BO) : TIp := fun x y H Q => ∃ φ μ a b z, Rep X.K X.mg φ μ H ∧ RD X.K X.mg φ H a x ∧ RD X.K X.mg φ H b y ∧ augD o a b μ = .ok z μ ∧ ∀ v, RD X.K X.mg φ H z v → Q v H
theorem ip_bop {o : BO} (ho : augB o = true) : PIp X o.op (ipC X o) := by
  cases o <;> first | (cases ho; done) | skip
  · refine PIp.imp (PIp.or ip_add ip_str) fun x y H Q q => ?_
    obtain ⟨φ, μ, a, b, z, rep, ra, rb, e, q⟩ := q
    unfold augD at e
    split at e
    all_goals first | contradiction | skip
    · cases e; cases ra; cases rb
      exact .inl ⟨_, _, rfl, rfl, q _ rfl⟩
    · split at e
      · rename_i hl
        cases e; cases ra; cases rb
        exact .inr ⟨_, _, rfl, rfl, hl, q _ rfl⟩
      · cases e
    all_goals cases e
  · refine PIp.imp ip_sub fun x y H Q q => ?_
    obtain ⟨φ, μ, a, b, z, rep, ra, rb, e, q⟩ := q
    unfold augD at e
    split at e
    all_goals first | contradiction | skip
    · cases e; cases ra; cases rb
      exact ⟨_, _, rfl, rfl, q _ rfl⟩
    all_goals cases e
theorem bop_aug {o : BO} (ho : augB o = true) (a b : Py.D) (μ : Store) : augD o a b μ = .bad ∨ ∃ z, augD o a b μ = .ok z μ := by
  cases o <;> first | (cases ho; done) | skip
  all_goals
    unfold augD
    split
    all_goals first | contradiction | skip
    all_goals first
      | exact .inl rfl
      | exact .inr ⟨_, rfl⟩
      | (split
         · exact .inr ⟨_, rfl⟩
         · exact .inl rfl)
/-- a op= b by values, at the slots -/
def IpC (X : Cx) (op : Operator) (r : V → V → L2.St → Hp → VK → Prop) : Prop := ∀ (pins : List (Addr × Obj)) (s : Shared) (σ : L2.St) (H : Hp) (x y : V) (v u : Value) (Q : VK), Inv X pins σ H s → RelV x v → RelV y u → r x y σ H Q → wpAny (model X.prog X.w) X.A (inplaceOp op v u) (EP X pins σ Q) X.xe s
theorem ip_augG {o : BO} (ho : augB o = true) (c : Call X W n g) : IpC X o.op (can2 X W (augG g o)) := by
  intro pins s σ H x y v u Q I rx ry h
  obtain ⟨φ, μ, a, b, rep, ra, rb, p⟩ := h
  unfold augG at p
  split at p
  · rename_i k e
    obtain ⟨i, q, C, dx, l, fs, rfl, hμ, hφ, rfl, hm, hH, hF⟩ := ins_at rep ra e
    split at p
    · rename_i key e3
      cases rx
      obtain ⟨mA, J, _⟩ := ins_get I.hok hH
      obtain ⟨od, J, _⟩ := J.look
      obtain ⟨m, hF0⟩ := I.fr
      obtain ⟨C0, f, own, me, fa⟩ := c.gok.meth _ _ _ e3
      obtain rfl := own_eq own hm
      exact PySem.W.ksp_inplace hF0 I.ok.mod.kin J own.sf (by rw [idun_bop]; exact me.at_) me.fn (bin_call c fa I ry rep ra rb p)
    · exact p.elim
  · refine ip_bop ho pins s σ H x y v u Q I rx ry ?_
    rcases bop_aug ho a b μ with z | ⟨z, hz⟩
    · rw [z] at p; exact p.elim
    · rw [hz] at p
      exact ⟨φ, μ, a, b, z, rep, ra, rb, hz, fun w rw' => p φ H w Ex.refl rep rw'⟩
/-- x op= e, x a local name -/
theorem ps_augC {i : Nat} {x : PySem.Str} {te : TE} {op : Operator} {r : V → V → L2.St → Hp → VK → Prop} {pos' : Pos} (nd : X.N.Nodup) (hi : X.N[i]? = some x) (lx : Loc X.env.scope x) (he : PE X e te) (ho : IpC X op r) (hf : X.fn x = true ∨ X.env.scope.names.lookup x = some .local) :
    PS X (.AugAssign (.Name x pos') op e pos) (fun D σ H => ∃ v, σ[i]? = some (some v) ∧ te σ H fun y H1 => r v y σ H1 fun z H2 => D.nx (σ.set i (some z)) H2) := by
  refine ⟨fun pins s σ H D I ⟨v, ev, h⟩ => ?_⟩
  obtain ⟨mm, hnn, hll⟩ := I.loc
  obtain ⟨u, ru, place⟩ := hll i x v hi ev (lx.elim .inl fun z => .inr (.inl z))
  have step : wpAny (model X.prog X.w) X.A (eval e X.env) (fun b s₂ => wpAny (model X.prog X.w) X.A (inplaceOp op u b) (fun c s₃ => wpAny (model X.prog X.w) X.A (storeName X.env x c) (fun _ => SP X pins D .next) X.xe s₃) X.xe s₂) X.xe s := by
    refine thn (he.run pins s σ H _ I h) fun b s1 hb => ?_
    obtain ⟨y, H1, I1, r1, q1⟩ := hb
    refine thn (ho pins s1 σ H1 v y u b _ I1 ru r1 q1) fun c s2 hc => ?_
    obtain ⟨zv, H2, I2, r2, q2⟩ := hc
    exact store_ok I2 nd hi lx r2 (fun s3 I3 => ⟨_, H2, I3, q2⟩) hf
  refine wpAny_AugAssign_Name ?_
  rcases place with ⟨isl, hm⟩ | ⟨isc, cl, hcl, hcell⟩
  · exact wpAny_loadName_local I.ok.kind isl hnn hm step
  · rcases isc with isc | isc
    · exact wpAny_loadName_cell I.ok.kind isc hcl hcell step
    · have w : X.env.scope.names.lookup x = some .free := isc
      rcases lx with z | z <;> (rw [z] at w; cases w)
theorem z_aug {i : Nat} {x : PySem.Str} {pos' : Pos} {o : BO} {o' : Operator} {ea : E} (k : Cok n g h xs c W X) (h1 : c.N[i]? = some x) (h2 : locB c x = true) (h3 : c.exc ≠ some i) (ho : opB o o' = true) (hb : augB o = true) (ha : PE X e (canE X.K X.mg xs W (E.den g h ea))) :
    PS X (.AugAssign (.Name x pos') o' e pos) (canS X.K X.mg xs W (St.den g h (.aug i o ea))) := by
  obtain rfl := opB_ok ho
  obtain ⟨l1, l2⟩ := loc_ok k h2
  refine PS.imp (ps_augC k.nd (by rw [k.N]; exact h1) l1 ha (ip_augG hb k.call) l2) fun D σ H q => ?_
  obtain ⟨φ, μ, ρ, rep, rs, p⟩ := q
  simp only [St.den, getV] at p
  split at p
  · rename_i d e0
    obtain ⟨v, s1, r1⟩ := rs.at_ i d e0
    simp only [R.st_ok] at p
    refine ⟨v, s1, φ, μ, ρ, rep, rs, (postS.st (rel := RD X.K X.mg) rs p).imp fun y H1 q => ?_⟩
    obtain ⟨φ1, μ1, d2, _, e1, rep1, rd, p1⟩ := q
    refine ⟨φ1, μ1, d, d2, rep1, RD.mono e1 _ _ r1, rd, (postS.st (rel := RD X.K X.mg) (rs.mono e1) p1).imp fun z H2 q => ?_⟩
    obtain ⟨φ2, μ2, dz, _, e2, rep2, rz, p2⟩ := q
    exact p2 φ2 H2 _ Ex.refl rep2 (((rs.mono e1).mono e2).set rz (by rw [k.exc]; exact h3))
  · simp only [R.st_bad] at p
    exact p.elim
theorem z_iff {t : E} {a b : Ss} {t' : Expr} {as bs : List Stmt} (ht : PT X t' (canT X.K X.mg xs W (mT (E.den g h t)))) (ha : PSs X as (canS X.K X.mg xs W (Ss.den g h a))) (hb : PSs X bs (canS X.K X.mg xs W (Ss.den g h b))) :
    PS X (.If t' as bs pos) (canS X.K X.mg xs W (St.den g h (.iff t a b))) := by
  refine PS.imp (ps_if ht ha hb) fun D σ H q => ?_
  obtain ⟨φ, μ, ρ, rep, rs, p⟩ := q
  simp only [St.den] at p
  have p' : postS X.K X.mg xs W ((mT (E.den g h t) ρ μ).st ρ fun k μ => if k = true then Ss.den g h a ρ μ else Ss.den g h b ρ μ) φ H D := by
    unfold mT
    revert p
    cases E.den g h t ρ μ with
    | ok d μ1 => exact id
    | err x μ1 => exact id
    | bad => exact id
  refine ⟨φ, μ, ρ, rep, rs, (postS.st (rel := relB) rs p').imp fun v H1 q => ?_⟩
  obtain ⟨φ1, μ1, d, _, e1, rep1, rd, p1⟩ := q
  cases rd
  cases v with
  | true => exact ⟨φ1, μ1, ρ, rep1, rs.mono e1, p1⟩
  | false => exact ⟨φ1, μ1, ρ, rep1, rs.mono e1, p1⟩
end
end Py
end

section
set_option Elab.async false
set_option linter.all false
set_option maxRecDepth 100000
set_option maxHeartbeats 4000000
set_option autoImplicit false
/-! The Py layer, part 13: what is walked; loops. -/
namespace Py
open PySem L2
/-! ### the next item -/
def nextD (w : Wk) (i : Nat) (μ : Store) : Option (Option D) := match w with
  | .items ds => some ds[i]?
  | .list l => (lstOf μ l).map fun ds => ds[i]?
def forW (body : D → Env → Store → SR) (w : Wk) : Nat → Nat → Env → Store → SR
  | 0, _, _, _ => .bad
  | n + 1, i, ρ, μ => match nextD w i μ with
    | none => .bad
    | some none => .nx ρ μ
    | some (some d) => (body d ρ μ).turn fun ρ μ => forW body w n (i + 1) ρ μ
theorem forP_forW (body : D → Env → Store → SR) (ds : List D) : ∀ (n i : Nat) (ρ : Env) (μ : Store), n + i = ds.length → forP body (ds.drop i) ρ μ = forW body (.items ds) (n + 1) i ρ μ
  | 0, i, ρ, μ, e => by
    have e1 : ds.length ≤ i := by omega
    rw [List.drop_eq_nil_of_le e1]
    simp only [forP, forW, nextD, List.getElem?_eq_none e1]
  | n + 1, i, ρ, μ, e => by
    have h : i < ds.length := by omega
    rw [List.drop_eq_getElem_cons h]
    simp only [forP]
    rw [forW]
    simp only [nextD, List.getElem?_eq_getElem h]
    have : (fun ρ μ => forP body (ds.drop (i + 1)) ρ μ) = fun ρ μ => forW body (.items ds) (n + 1) (i + 1) ρ μ := funext fun ρ => funext fun μ => forP_forW body ds n (i + 1) ρ μ (by omega)
    rw [this]
theorem forL_forW (body : D → Env → Store → SR) (l : Nat) : ∀ (n i : Nat) (ρ : Env) (μ : Store), forL body l n i ρ μ = forW body (.list l) n i ρ μ
  | 0, i, ρ, μ => rfl
  | n + 1, i, ρ, μ => by
    have : (fun ρ μ => forL body l n (i + 1) ρ μ) = fun ρ μ => forW body (.list l) n (i + 1) ρ μ := funext fun ρ => funext fun μ => forL_forW body l n (i + 1) ρ μ
    rw [forL, forW, this]
    simp only [nextD]
    cases lstOf μ l with
    | none => rfl
    | some ds =>
      simp only [Option.map_some]
      cases ds[i]? <;> rfl
def wkN (w : Wk) (μ : Store) : Option Nat := match w with
  | .items ds => some (ds.length + 1)
  | .list l => (lstOf μ l).map fun ds => ds.length + 1
theorem forD_forW (body : D → Env → Store → SR) (w : Wk) (ρ : Env) (μ : Store) : forD body w ρ μ = match wkN w μ with
    | some n => forW body w n 0 ρ μ
    | none => .bad := by
  cases w with
  | items ds =>
    simp only [forD, wkN]
    rw [← forP_forW body ds ds.length 0 ρ μ (by omega)]
    rfl
  | list l =>
    simp only [forD, wkN]
    cases lstOf μ l with
    | none => rfl
    | some ds => simp only [Option.map_some]; rw [forL_forW]
section
variable (K : PySem.W.Frag) (mg : PySem.Str → Option Value)
/-- the iterator J walks w -/
def Itw (φ : List Addr) (H : Hp) (w : Wk) (J : L2.It) : Prop := ∀ φ' H' μ' i r, Ex φ H φ' H' → Rep K mg φ' μ' H' → nextD w i μ' = some r → match r with
  | none => J.stop i H'
  | some d => J.go i H' ∧ ∀ x H2, J.yld i H' x H2 → Ex φ' H' φ' H2 ∧ Rep K mg φ' μ' H2 ∧ RD K mg φ' H2 d x
end
section
variable {K : PySem.W.Frag} {mg : PySem.Str → Option Value} {φ φ' : List Addr} {H H' : Hp}
theorem Itw.mono {w : Wk} {J : L2.It} (e : Ex φ H φ' H') (h : Itw K mg φ H w J) : Itw K mg φ' H' w J := fun φ2 H2 μ2 i r e2 => h φ2 H2 μ2 i r (e.trans e2)
theorem RDs.none {ds : List D} {vs : List V} {i : Nat} (h : RDs K mg φ H ds vs) (e : ds[i]? = none) : vs.length ≤ i := by
  rw [h.length]
  exact List.getElem?_eq_none_iff.mp e
theorem itw_tup {a : Addr} {ds : List D} {vs : List V} (h : SqT K H a vs) (r : RDs K mg φ H ds vs) : Itw K mg φ H (.items ds) (Itt K a) := by
  intro φ' H' μ' i z e rep hz
  simp only [nextD, Option.some.injEq] at hz
  subst hz
  have h' := e.sqT h
  have r' := RDs.mono e _ _ r
  cases hd : ds[i]? with
  | none => exact ⟨vs, h', r'.none hd⟩
  | some d =>
    obtain ⟨v, hv, rv⟩ := r'.get hd
    refine ⟨⟨vs, v, h', hv⟩, fun x H2 y => ?_⟩
    obtain ⟨rfl, y⟩ := y
    have := y vs h'
    rw [hv] at this
    cases this
    exact ⟨Ex.refl, rep, rv⟩
theorem itw_fz {a : Addr} {ds : List D} {vs : List V} (h : FzL K H a vs) (r : RDs K mg φ H ds vs) : Itw K mg φ H (.items ds) (Itl K a) := by
  intro φ' H' μ' i z e rep hz
  simp only [nextD, Option.some.injEq] at hz
  subst hz
  have h' : SqL K H' a vs := (h.elim (fun ⟨o, z⟩ => .inl ⟨o, e.frz _ _ _ z⟩) .inr : FzL K H' a vs).sq
  have r' := RDs.mono e _ _ r
  cases hd : ds[i]? with
  | none => exact ⟨vs, h', r'.none hd⟩
  | some d =>
    obtain ⟨v, hv, rv⟩ := r'.get hd
    refine ⟨⟨vs, v, h', hv⟩, fun x H2 y => ?_⟩
    obtain ⟨rfl, y⟩ := y
    have := y vs h'
    rw [hv] at this
    cases this
    exact ⟨Ex.refl, rep, rv⟩
theorem itw_list {a : Addr} {l : Nat} (h : φ[l]? = some a) : Itw K mg φ H (.list l) (Itl K a) := by
  intro φ' H' μ' i z e rep hz
  simp only [nextD] at hz
  cases hl : lstOf μ' l with
  | none => rw [hl] at hz; cases hz
  | some ds =>
    rw [hl] at hz
    cases hz
    obtain ⟨a', vs, h1, h2, h3⟩ := rep.list hl
    rw [e.get h] at h1
    cases h1
    show (match ds[i]? with
      | none => (Itl K a).stop i H'
      | some d => (Itl K a).go i H' ∧ ∀ x H2, (Itl K a).yld i H' x H2 → Ex φ' H' φ' H2 ∧ Rep K mg φ' μ' H2 ∧ RD K mg φ' H2 d x)
    cases hd : ds[i]? with
    | none => exact ⟨vs, h2, h3.none hd⟩
    | some d =>
      obtain ⟨v, hv, rv⟩ := h3.get hd
      refine ⟨⟨vs, v, h2, hv⟩, fun x H2 y => ?_⟩
      obtain ⟨rfl, y⟩ := y
      have := y vs h2
      rw [hv] at this
      cases this
      exact ⟨Ex.refl, rep, rv⟩
theorem itw_str {s : S} : Itw K mg φ H (.items (s.map fun c => .str [c])) (Its (stS s)) := by
  intro φ' H' μ' i z e rep hz
  simp only [nextD, Option.some.injEq, List.getElem?_map] at hz
  subst hz
  cases hd : s[i]? with
  | none =>
    have := List.getElem?_eq_none_iff.mp hd
    show (stS s).cps.size ≤ i
    simpa [stS] using this
  | some c =>
    refine ⟨?_, fun x H2 y => ?_⟩
    · have := (List.getElem?_eq_some_iff.mp hd).1
      show i < (stS s).cps.size
      simpa [stS] using this
    · obtain ⟨rfl, c', hc, rfl⟩ := y
      have : c' = c := by
        have h2 : s[i]? = some c' := by simpa [stS] using hc
        rw [hd] at h2
        cases h2
        rfl
      subst this
      exact ⟨Ex.refl, rep, rfl⟩
theorem rints_get : ∀ (n : Nat) (lo : Int) (i : Nat), (rints lo n)[i]? = if i < n then some (.int (lo + i)) else none
  | 0, lo, i => by simp [rints]
  | n + 1, lo, 0 => by simp [rints]
  | n + 1, lo, i + 1 => by
    simp only [rints, List.getElem?_cons_succ, Nat.add_lt_add_iff_right]
    rw [rints_get n (lo + 1) i]
    have : lo + 1 + (i : Int) = lo + ((i + 1 : Nat) : Int) := by omega
    rw [this]
theorem itw_range {lo : Int} {n : Nat} : Itw K mg φ H (.items (rints lo n)) (Itr lo n) := by
  intro φ' H' μ' i z e rep hz
  simp only [nextD, Option.some.injEq, rints_get] at hz
  subst hz
  by_cases h : i < n
  · rw [if_pos h]
    refine ⟨h, fun x H2 y => ?_⟩
    obtain ⟨rfl, rfl⟩ := y
    exact ⟨Ex.refl, rep, rfl⟩
  · rw [if_neg h]
    exact Nat.le_of_not_lt h
end
/-! ### enumerate of a tuple -/
section
open PyProof PyProof.Rows PySem.Calls
/-- enumerate's own maker, by what its iterator begins as -/
theorem enum_meets {v : Value} {ob : Obj} {P : Heap → Prop} (B : Begins v ob P) : Meets (Builtin.«enumerate.__new__» ⟨[.type "enumerate", v], []⟩) (fun _ R s => P s.heap ∧
    R (.ok (.ret (.ref (s.heap.push ob).objs.size))) { s with heap := (s.heap.push ob).push { cls := .type "enumerate", data := .fields #[.none, .bool false, .ref s.heap.objs.size, rawInt 0, .none, .none] } }) :=
  .of_wp fun prog w A R s hs => by
    obtain ⟨hp0, gg, dd, tt, oo⟩ := s
    obtain ⟨hP, hR⟩ := hs
    have hsub := sub_enumerate
    have it1 : ∀ {A' : Around} {E : Value → Shared → Prop} {Q : Value → Shared → Prop}, Q (.ref hp0.objs.size) ⟨hp0.push ob, gg, dd, tt, oo⟩ → wpAny (model prog w) A' (pyIter v) Q E ⟨hp0, gg, dd, tt, oo⟩ := fun q => B.iter _ _ _ _ ⟨hp0, gg, dd, tt, oo⟩ _ hP q
    wp_walk using it1
    refine wpAny_stack_any fun st => wpAny_pure ?_
    split
    · rename_i c _ _ _ _ _
      cases (c == Value.type "enumerate") <;> (wp_walk using it1; exact ⟨_, rfl, hR⟩)
    · wp_walk using it1
      exact ⟨_, rfl, hR⟩
theorem call_enumT {prog : Program} {w : World} {A : Around} {E : Value → Shared → Prop} {s : Shared} {t : Addr} {its : Array Value} {Q : Value → Shared → Prop} (ht : s.heap.IsTuple t its)
    (q : ∀ h', IsEnum h' (s.heap.objs.size + 1) s.heap.objs.size 0 .none → h'.IsTupleIter s.heap.objs.size t 0 → (∀ b o, s.heap.get? b = some o → h'.get? b = some o) → Q (.ref (s.heap.objs.size + 1)) { s with heap := h' }) : wpAny (model prog w) A (call (.type "enumerate") [.ref t]) Q E s := by
  refine callType_new F.called_enumerate (by decide) (F.typeCall_enumerate_1 _) (F.newCall_enumerate_1 _) (fun x => F.args_object_init_2 x _) F.entry_enumerate_new (enum_meets (begins_tuple t its)) ⟨ht, ?_⟩
  have sz : (s.heap.push ({ cls := .type "tuple_iterator", data := .fields #[.ref t, .int 0 0] } : Obj)).objs.size = s.heap.objs.size + 1 := Heap.size_push ..
  show _ ∧ _
  rw [sz]
  have he : IsEnum ((s.heap.push ({ cls := .type "tuple_iterator", data := .fields #[.ref t, .int 0 0] } : Obj)).push { cls := .type "enumerate", data := .fields #[.none, .bool false, .ref s.heap.objs.size, rawInt 0, .none, .none] }) (s.heap.objs.size + 1) s.heap.objs.size 0 .none := by
    have z := Heap.get?_push_size (s.heap.push ({ cls := .type "tuple_iterator", data := .fields #[.ref t, .int 0 0] } : Obj)) (o := ({ cls := .type "enumerate", data := .fields #[.none, .bool false, .ref s.heap.objs.size, rawInt 0, .none, .none] } : Obj)) rfl
    rw [sz] at z
    exact z
  exact ⟨⟨_, he, rfl⟩, q _ he ⟨_, Heap.get?_push_of_some _ (Heap.get?_push_size _ rfl), rfl, rfl⟩ fun b o x => Heap.get?_push_of_some _ (Heap.get?_push_of_some _ x)⟩
/-- a tuple's items, each in a new pair with its place -/
def IteT (K : PySem.W.Frag) (a : Addr) : L2.It :=
  ⟨fun i H => ∃ (xs : List V) (x : V), SqT K H a xs ∧ xs[i]? = some x, fun i H v H' => ∃ T x, v = .ref T ∧ H T = none ∧ H' = upd H T (.tup [.int (i : Nat), x]) ∧ ∀ xs, SqT K H a xs → xs[i]? = some x, fun i H => ∃ xs : List V, SqT K H a xs ∧ xs.length ≤ i⟩
theorem turn_enumT {P : Program} {w : World} {K : PySem.W.Frag} {elts : List Expr} {kk : Nat} {tpos : Pos} (a e it : Addr) :
    Turn P w K (.Tuple elts kk tpos) (IteT K a) [e, it] e (fun i h => (∃ old, IsEnum h e it ((i : Nat) : Int) old) ∧ h.IsTupleIter it a i ∧ e ≠ it) where
  mem := by simp
  obj := fun i h st b hb => by
    obtain ⟨⟨old, he⟩, ⟨o, ho, hc, hd⟩, _⟩ := st
    rcases (show b = e ∨ b = it by simpa using hb) with z | z
    · subst z; exact ⟨_, he, fun v q => nomatch q⟩
    · subst z; exact ⟨o, ho, fun v q => by rw [hd] at q; cases q⟩
  keep := fun i h h' st k => ⟨⟨st.1.choose, k e (by simp) _ st.1.choose_spec⟩, st.2.1.at fun o q => k it (by simp) o q, st.2.2⟩
  item := by
    intro X hP hw hK hc i pins s σ H E I hf st hg
    subst hP hw hK
    obtain ⟨⟨old, he⟩, hit, hne⟩ := st
    obtain ⟨xs, x, hq, hx⟩ := hg
    obtain ⟨its, rv, p, hz⟩ := I.tuple hq
    obtain ⟨u, hu, ru⟩ := rv.get hx
    have pt : s.heap.IsTuple a its.toArray := p
    have nat : a ≠ it := fun z => by
      obtain ⟨o, ho, hc', _⟩ := hit
      obtain ⟨o2, ho2, hc2, _⟩ := pt
      rw [z] at ho2
      rw [ho] at ho2
      cases ho2
      rw [hc'] at hc2
      exact absurd (Value.type.inj hc2) (by decide)
    have nae : e ≠ a := fun z => by
      obtain ⟨o2, ho2, hc2, _⟩ := pt
      rw [← z] at ho2
      rw [show s.heap.get? e = _ from he] at ho2
      cases ho2
      exact absurd (Value.type.inj hc2) (by decide)
    have e1 : e < s.heap.objs.size := Heap.lt_size he
    have e2 : it < s.heap.objs.size := by obtain ⟨_, q, _⟩ := hit; exact Heap.lt_size q
    have lt : i < its.toArray.size := by simpa using (List.getElem?_eq_some_iff.mp hu).1
    refine wpAny_pyNext_enum_itemD (Draws.tuple (A := X.A.in1) (I.ok.hd hc) it a nat its.toArray) he (show s.heap.IsTupleIter it a i ∧ s.heap.IsTuple a its.toArray from ⟨hit, pt⟩) lt hne (by simp [hne, nae]) fun y h' tk hy ho hst hT hsz hk => ?_
    have hy : its[i]? = some y := by simpa using hy
    rw [hu] at hy
    cases hy
    refine ⟨_, rfl, wpAny_letOwnedTupleGo_enum (s := { s with heap := h', toks := tk + 1 }) ho fun h'' he' sb => ?_⟩
    have hT2 : h''.get? s.heap.objs.size = some { cls := .type "tuple", data := .seq #[.int i tk, u] } := (sb.2 _ (Nat.ne_of_gt e1)).trans hT
    have new : ObjOk X.prog X.w (upd H s.heap.objs.size (.tup [.int (i : Nat), x])) h'' s.heap.objs.size (.tup [.int (i : Nat), x]) :=
      ⟨(by decide : 2 ≤ sizeLine), [.int i tk, u], .cons ⟨_, rfl⟩ (.cons ru .nil), ⟨_, hT2, rfl, _, rfl⟩⟩
    have I1 : Inv X pins σ (upd H s.heap.objs.size (.tup [.int (i : Nat), x])) { s with heap := h'', toks := tk + 1 } :=
      I.turnedNew (ch := [e, it]) (fun b ob hb q => (sb.2 b (fun z => hb (by simp [z]))).trans (hk b ob (fun z => hb (by simp [z])) (fun z => hb (by simp [z])) q)) hf (Nat.le_refl _) new
    refine ⟨.ref s.heap.objs.size, _, I1, rfl, ⟨_, x, rfl, I.hok.fresh (Nat.le_refl _), rfl, fun ys hy => by rw [I.tuple_inj hy hq]; exact hx⟩, ⟨⟨u, ?_⟩, hst.1.at fun o q => (sb.2 it (Ne.symm hne)).trans q, hne⟩, fun b hb => ?_⟩
    · rw [show ((i + 1 : Nat) : Int) = (i : Int) + 1 by omega]
      exact he'
    · have hb' : b < s.heap.objs.size := by
        rcases (show b = e ∨ b = it by simpa using hb) with z | z <;> (rw [z]; assumption)
      rw [upd_ne (Nat.ne_of_lt hb')]
      exact (hf b hb).1
  done := by
    intro X hP hw hK hc i pins s σ H E I hf st hg
    subst hP hw hK
    obtain ⟨⟨old, he⟩, hit, hne⟩ := st
    obtain ⟨xs, hq, hx⟩ := hg
    obtain ⟨its, rv, p, hz⟩ := I.tuple hq
    have pt : s.heap.IsTuple a its.toArray := p
    have hl := rv.length
    obtain ⟨f0, f1, f2, f3, f4, f5⟩ := hf it (by simp)
    have hT : s.TypeIs (.ref e) "enumerate" := ⟨_, he, rfl⟩
    have fin : wpAny (model X.prog X.w) X.A.in1 (Builtin.«enumerate.__next__» ⟨[.ref e], []⟩) (fun fin s' => ∃ v, fin = .done (.ret v) ∧ False) (fun x s' => (∃ o, s'.heap.get? (match x with | .ref r => r | _ => 0) = some o ∧ o.cls = .type "StopIteration") ∧ (∃ r, x = .ref r) ∧ ∃ h', s' = { s with heap := h' } ∧ Heap.ExtBut it s.heap h') s := by
      show wpAny _ _ (field (.ref e) 2 >>= _) _ _ _
      refine wpAny_bind (wpAny_field he rfl (x := .ref it) rfl (wpAny_bind (wpAny_nextOf_tuple_end (I.ok.hd hc) hit pt (by simp; omega) fun h' x he' hx' => ?_)))
      exact ⟨hx', ⟨x, rfl⟩, h', rfl, he'⟩
    unfold pyNext
    refine wpAny_bind (wpAny_attempt (wpAny_callSpecial?_slot (name := Str.ofString "__next__") hT F.slot_enumerate_next (wpAny_call_entry F.slot_enumerate_next hT F.entry_enumerate_next (wpAny_mono fin (fun z s' hz => ?_) fun x s' hx => ?_) (F.args_enumerate_next_1 _))))
    · obtain ⟨v, _, q⟩ := hz
      exact q.elim
    · obtain ⟨⟨o, ho, hco⟩, ⟨r, rfl⟩, h', rfl, hb⟩ := hx
      refine wpAny_bind (wpAny_isInstance (T := "StopIteration") (b := true) ⟨o, ho, hco⟩ isSubtype_stop (wpAny_pure ?_))
      exact ⟨rfl, I.turned (t' := s.toks) (fun b o hb' q => hb b o hb' q) f0 f1 f3 f4 f5⟩
  self := fun A i s Q E st h => wpAny_pyIter_enum st.1.choose_spec h
end
section
variable {K : PySem.W.Frag} {mg : PySem.Str → Option Value} {φ φ' : List Addr} {H H' : Hp}
theorem enumP_get : ∀ (ds : List D) (lo : Int) (i : Nat), (enumP lo ds)[i]? = ds[i]?.map fun d => .tup [.int (lo + i), d]
  | [], lo, i => by simp [enumP]
  | d :: ds, lo, 0 => by simp [enumP]
  | d :: ds, lo, i + 1 => by
    simp only [enumP, List.getElem?_cons_succ]
    rw [enumP_get ds (lo + 1) i]
    have : lo + 1 + (i : Int) = lo + ((i + 1 : Nat) : Int) := by omega
    rw [this]
theorem itw_enumT {a : Addr} {ds : List D} {vs : List V} (h : SqT K H a vs) (r : RDs K mg φ H ds vs) : Itw K mg φ H (.items (enumP 0 ds)) (IteT K a) := by
  intro φ' H' μ' i z e rep hz
  simp only [nextD, Option.some.injEq, enumP_get] at hz
  subst hz
  have h' := e.sqT h
  have r' := RDs.mono e _ _ r
  cases hd : ds[i]? with
  | none => exact ⟨vs, h', r'.none hd⟩
  | some d =>
    obtain ⟨v, hv, rv⟩ := r'.get hd
    refine ⟨⟨vs, v, h', hv⟩, fun x H2 y => ?_⟩
    obtain ⟨T, w, rfl, hT, rfl, y⟩ := y
    have := y vs h'
    rw [hv] at this
    cases this
    exact ⟨Ex.junk hT, rep.junk hT, T, [.int (i : Nat), v], rfl, .inl (.inl upd_same), RDs.cons (by show V.int _ = V.int _; simp) (RDs.cons (RD.mono (Ex.junk hT) _ _ rv) RDs.nil)⟩
end
/-! ### what is walked, begun -/
section
variable {X : Cx} {W : WX} {n : Nat} {g : G} {h : Option Py.X} {xs : Option (Nat × Addr)} {c : Ctx} {e a b tg : Expr} {pos : Pos}
abbrev canI (K : PySem.W.Frag) (mg : PySem.Str → Option Value) (xs : Option (Nat × Addr)) (W : WX) (m : Env → Store → R Wk) : TI := can K mg xs (Itw K mg) W m
theorem PI.imp {t t' : TI} (p : PI X tg e t) (i : ∀ σ H R, t' σ H R → t σ H R) : PI X tg e t' := ⟨fun pins s σ H R I q => p.run pins s σ H R I (i σ H R q)⟩
theorem PI.or {t u : TI} (p : PI X tg e t) (q : PI X tg e u) : PI X tg e fun σ H R => t σ H R ∨ u σ H R := ⟨fun pins s σ H R I z => z.elim (p.run pins s σ H R I) (q.run pins s σ H R I)⟩
/-- over any of the three kinds, told when the value is there -/
theorem pi_any {te : TE} (pe : PE X e te) : PI X tg e fun σ H R => te σ H fun v H1 => (∃ a, v = .ref a ∧ (∃ xs, SqL X.K H1 a xs) ∧ R (Itl X.K a) H1) ∨ (∃ a, v = .ref a ∧ (∃ xs, SqT X.K H1 a xs) ∧ R (Itt X.K a) H1) ∨ (∃ x, v = .str x ∧ R (Its x) H1) := by
  refine ⟨fun pins s σ H R I hh => ?_⟩
  refine thn (pe.run pins s σ H _ I hh) fun v s1 ⟨x, H1, I1, r1, q⟩ => ?_
  rcases q with ⟨a, rfl, ⟨ys, hq⟩, q⟩ | ⟨a, rfl, ⟨ys, hq⟩, q⟩ | ⟨y, rfl, q⟩
  · cases r1
    obtain ⟨its, rv, p, hz⟩ := I1.list hq
    refine wpAny_pyIter_list p.isList ?_
    refine ⟨s1.heap.objs.size, [s1.heap.objs.size], _, _, H1, rfl, I1.kept (t' := s1.toks) fun b o e => Heap.get?_push_of_some _ e, turn_list a _, ⟨_, Heap.get?_push_size _ rfl, rfl, rfl⟩, fun b hb => ?_, q⟩
    have e : b = s1.heap.objs.size := by simpa using hb
    subst e
    exact I1.fpOk (Nat.le_refl _) (I1.hok.fresh (Nat.le_refl _))
  · cases r1
    obtain ⟨its, rv, p, hz⟩ := I1.tuple hq
    refine wpAny_pyIter_tuple (show s1.heap.IsTuple a its.toArray from p) ?_
    refine ⟨s1.heap.objs.size, [s1.heap.objs.size], _, _, H1, rfl, I1.kept (t' := s1.toks) fun b o e => Heap.get?_push_of_some _ e, turn_tuple a _, ⟨_, Heap.get?_push_size _ rfl, rfl, rfl⟩, fun b hb => ?_, q⟩
    have e : b = s1.heap.objs.size := by simpa using hb
    subst e
    exact I1.fpOk (Nat.le_refl _) (I1.hok.fresh (Nat.le_refl _))
  · obtain ⟨t, rfl⟩ := r1
    cases ha : y.cps.all (· < 128)
    · exact wpAny_pyIter_wide ha (pi_one (tk := s1.toks) I1 _ (turn_str _ y t "str_iterator" (.inr rfl)) ⟨_, Heap.get?_push_size _ rfl, rfl, rfl⟩ q)
    · exact wpAny_pyIter_ascii ha (pi_one (tk := s1.toks) I1 _ (turn_str _ y t "str_ascii_iterator" (.inl rfl)) ⟨_, Heap.get?_push_size _ rfl, rfl, rfl⟩ q)
theorem i_over {ea : E} (pe : PE X e (canE X.K X.mg xs W (E.den g h ea))) : PI X tg e (canI X.K X.mg xs W (It.den g h (.over ea))) := by
  refine PI.imp (pi_any pe) fun σ H R q => ?_
  obtain ⟨φ, μ, ρ, rep, rs, p⟩ := q
  simp only [It.den] at p
  refine ⟨φ, μ, ρ, rep, rs, (post.bind (rel := RD X.K X.mg) p).imp fun v H1 q => ?_⟩
  obtain ⟨φ1, μ1, d, _, e1, rep1, rd, p1⟩ := q
  unfold overD at p1
  split at p1
  · obtain ⟨a, vs, rfl, h1, h2⟩ := rd
    exact .inr (.inl ⟨a, rfl, ⟨vs, h1⟩, p1 φ1 H1 (Itt X.K a) Ex.refl rep1 (itw_tup h1 h2)⟩)
  · obtain ⟨a, vs, rfl, h1, h2⟩ := rd
    exact .inl ⟨a, rfl, ⟨vs, h1.sq⟩, p1 φ1 H1 (Itl X.K a) Ex.refl rep1 (itw_fz h1 h2)⟩
  · cases rd
    exact .inr (.inr ⟨_, rfl, p1 φ1 H1 _ Ex.refl rep1 itw_str⟩)
  · split at p1
    · rename_i ds hl
      obtain ⟨a, vs, h1, h2, h3⟩ := rep1.list hl
      obtain ⟨a', h4, rfl⟩ := rd
      rw [h1] at h4
      cases h4
      exact .inl ⟨a, rfl, ⟨vs, h2⟩, p1 φ1 H1 (Itl X.K a) Ex.refl rep1 (itw_list h1)⟩
    · exact p1.elim
  · exact p1.elim
theorem okR_ok {i : Int} (h : okR i = true) : -(2 ^ 62) ≤ i ∧ i < 2 ^ 62 := by
  unfold okR at h
  simp only [Bool.and_eq_true, decide_eq_true_eq] at h
  exact h
theorem i_range1 {ea : E} {x : PySem.Str} {p : Pos} (k : Cok n g h xs c W X) (hx : gname c "range" x = true) (hs : notStar a = true) (pe : PE X a (canE X.K X.mg xs W (E.den g h ea))) :
    PI X tg (.Call (.Name x p) [a] [] pos) (canI X.K X.mg xs W (It.den g h (.range1 ea))) := by
  obtain ⟨rfl, h1, h2, h3⟩ := gname_ok k hx
  have pa : PA X [a] (canA X.K X.mg xs W (Es.den g h (.cons ea .nil))) := s_cons hs pe s_nil
  refine PI.imp (pi_range1 h1 (k.ok2.bt "range" (by simp)) pa (by rw [star_one hs]; rfl)) fun σ H R q => ?_
  obtain ⟨φ, μ, ρ, rep, rs, p⟩ := q
  have p' : post X.K X.mg (Itw X.K X.mg) W ((Es.den g h (.cons ea .nil) ρ μ).bind fun ds μ => match ds with
      | [d] => rangeD (.int 0) d μ
      | _ => .bad) φ H σ R := by
    revert p
    simp only [It.den, Es.den]
    cases E.den g h ea ρ μ with
    | ok d μ1 => exact id
    | err x μ1 => exact id
    | bad => exact id
  refine ⟨φ, μ, ρ, rep, rs, (post.bind (rel := RDs X.K X.mg) p').imp fun vs H1 q => ?_⟩
  obtain ⟨φ1, μ1, ds, _, e1, rep1, rd, p1⟩ := q
  split at p1
  · rename_i d
    obtain ⟨v, r, rfl, rv, rr⟩ := rd
    cases rr
    unfold rangeD at p1
    split at p1
    · rename_i i j ei
      cases ei
      split at p1
      · rename_i hk
        simp only [Bool.and_eq_true] at hk
        obtain ⟨j1, j2⟩ := okR_ok hk.2
        cases rv
        refine ⟨_, rfl, j1, j2, p1 φ1 H1 _ Ex.refl rep1 ?_⟩
        have : (j - 0).toNat = j.toNat := by simp
        rw [this]
        exact itw_range
      · exact p1.elim
    · exact p1.elim
  · exact p1.elim
theorem i_range2 {ea eb : E} {x : PySem.Str} {p : Pos} (k : Cok n g h xs c W X) (hx : gname c "range" x = true) (hs : notStar a = true) (hs' : notStar b = true) (pe : PE X a (canE X.K X.mg xs W (E.den g h ea))) (pe' : PE X b (canE X.K X.mg xs W (E.den g h eb))) :
    PI X tg (.Call (.Name x p) [a, b] [] pos) (canI X.K X.mg xs W (It.den g h (.range2 ea eb))) := by
  obtain ⟨rfl, h1, h2, h3⟩ := gname_ok k hx
  have pa : PA X [a, b] (canA X.K X.mg xs W (Es.den g h (.cons ea (.cons eb .nil)))) := s_cons hs pe (s_cons hs' pe' s_nil)
  refine PI.imp (pi_range2 h1 (k.ok2.bt "range" (by simp)) pa (by rw [star_one hs, star_one hs']; rfl) (by rw [star_one hs']; rfl)) fun σ H R q => ?_
  obtain ⟨φ, μ, ρ, rep, rs, p⟩ := q
  have p' : post X.K X.mg (Itw X.K X.mg) W ((Es.den g h (.cons ea (.cons eb .nil)) ρ μ).bind fun ds μ => match ds with
      | [d, d'] => rangeD d d' μ
      | _ => .bad) φ H σ R := by
    revert p
    simp only [It.den, Es.den]
    cases E.den g h ea ρ μ with
    | ok d μ1 =>
      simp only [Py.R.bind_ok]
      cases E.den g h eb ρ μ1 with
      | ok d' μ2 => exact id
      | err x μ2 => exact id
      | bad => exact id
    | err x μ1 => exact id
    | bad => exact id
  refine ⟨φ, μ, ρ, rep, rs, (post.bind (rel := RDs X.K X.mg) p').imp fun vs H1 q => ?_⟩
  obtain ⟨φ1, μ1, ds, _, e1, rep1, rd, p1⟩ := q
  split at p1
  · rename_i d d'
    obtain ⟨v, r, rfl, rv, rr⟩ := rd
    obtain ⟨v', r', rfl, rv', rr⟩ := rr
    cases rr
    unfold rangeD at p1
    split at p1
    · rename_i i j
      split at p1
      · rename_i hk
        simp only [Bool.and_eq_true] at hk
        obtain ⟨i1, i2⟩ := okR_ok hk.1
        obtain ⟨j1, j2⟩ := okR_ok hk.2
        cases rv
        cases rv'
        exact ⟨_, _, rfl, ⟨i1, i2, j1, j2⟩, p1 φ1 H1 _ Ex.refl rep1 itw_range⟩
      · exact p1.elim
    · exact p1.elim
  · exact p1.elim
/-- enumerate(e), e a tuple -/
theorem pi_enumT {te : TE} {elts : List Expr} {kk : Nat} {p tpos : Pos} (hg : Gl X (nm "enumerate")) (hm : X.mg (nm "enumerate") = none) (pe : PE X a te) (hs : notStar a = true) (hn : nm "enumerate" ≠ "__name__") (hd : (nm "enumerate" == ("__debug__" : PySem.Str)) = false) :
    PI X (.Tuple elts kk tpos) (.Call (.Name (nm "enumerate") p) [a] [] pos) (fun σ H R => te σ H fun v H1 => ∃ q ys, v = .ref q ∧ SqT X.K H1 q ys ∧ R (IteT X.K q) H1) := by
  have pa : PA X [a] (fun σ H Q => te σ H fun v H1 => Q [v] H1) := PA.imp (pa_cons pe pa_nil (star_one hs)) fun _ _ _ q => q
  refine ⟨fun pins s σ H R I h => ?_⟩
  have hb : bootBuiltins (nm "enumerate") = some (.type "enumerate") := by decide +kernel
  refine wpAny_Call_Name_kw (ld_blt I hg hm hb (PyProof.Rows.callWith_type1 (thn (pa.run pos pins s σ H (fun vs H1 => ∃ q ys, vs = [.ref q] ∧ SqT X.K H1 q ys ∧ R (IteT X.K q) H1) I (cast (congrArg (te σ H) (funext fun v => funext fun H1 => propext ⟨fun ⟨q, ys, e1, e2⟩ => ⟨q, ys, by rw [e1], e2⟩, fun ⟨q, ys, e1, e2⟩ => ⟨q, ys, by simpa using e1, e2⟩⟩)) h)) fun us s1 hu => ?_) (star_one hs) rfl) hn hd)
  obtain ⟨vs, H1, I1, r1, q, ys, e1, hq, hR⟩ := hu
  have e2 : vs = [V.ref q] := e1
  subst e2
  cases r1 with
  | cons r rr =>
    cases rr
    cases r
    obtain ⟨its, rv, p', hz⟩ := I1.tuple hq
    refine call_enumT (show s1.heap.IsTuple q its.toArray from p') fun h' he hit hk => wpAny_pyIter_enum he ?_
    have I2 : Inv X pins σ H1 { s1 with heap := h' } := I1.kept (t' := s1.toks) hk
    refine ⟨s1.heap.objs.size + 1, [s1.heap.objs.size + 1, s1.heap.objs.size], _, _, H1, rfl, I2, turn_enumT q (s1.heap.objs.size + 1) s1.heap.objs.size, ⟨⟨.none, he⟩, hit, Nat.succ_ne_self _⟩, fun b hb => ?_, hR⟩
    have hle : s1.heap.objs.size ≤ b := by
      rcases (show b = s1.heap.objs.size + 1 ∨ b = s1.heap.objs.size by simpa using hb) with z | z
      · exact Nat.le_trans (Nat.le_succ _) (Nat.le_of_eq z.symm)
      · exact Nat.le_of_eq z.symm
    exact I1.fpOk hle (I1.hok.fresh hle)
theorem i_enum {ea : E} {x : PySem.Str} {elts : List Expr} {kk : Nat} {p tpos : Pos} (k : Cok n g h xs c W X) (hx : gname c "enumerate" x = true) (hs : notStar a = true) (pe : PE X a (canE X.K X.mg xs W (E.den g h ea))) :
    PI X (.Tuple elts kk tpos) (.Call (.Name x p) [a] [] pos) (canI X.K X.mg xs W (It.den g h (.enum ea))) := by
  obtain ⟨rfl, h1, h2, h3⟩ := gname_ok k hx
  refine PI.imp (pi_enumT h1 (k.ok2.bt "enumerate" (by simp)) pe hs h3 h2) fun σ H R q => ?_
  obtain ⟨φ, μ, ρ, rep, rs, z⟩ := q
  simp only [It.den] at z
  refine ⟨φ, μ, ρ, rep, rs, (post.bind (rel := RD X.K X.mg) z).imp fun v H1 q => ?_⟩
  obtain ⟨φ1, μ1, d, _, e1, rep1, rd, p1⟩ := q
  unfold enumD at p1
  split at p1
  · obtain ⟨q, vs, rfl, g1, g2⟩ := rd
    exact ⟨q, vs, rfl, g1, p1 φ1 H1 (IteT X.K q) Ex.refl rep1 (itw_enumT g1 g2)⟩
  · exact p1.elim
end
end Py
end

section
set_option Elab.async false
set_option linter.all false
set_option maxRecDepth 100000
set_option maxHeartbeats 4000000
set_option autoImplicit false
/-! The Py layer, part 14: comprehensions; classmethods; f-strings. -/
namespace Py
open PySem L2
def compW (f : D → Store → R (Option D)) (o : Nat) (w : Wk) : Nat → Nat → Store → R Unit
  | 0, _, _ => .bad
  | n + 1, i, μ => match nextD w i μ with
    | none => .bad
    | some none => .ok () μ
    | some (some d) => (f d μ).bind fun y μ1 => match y with
      | none => compW f o w n (i + 1) μ1
      | some v => (match μ1[o]? with
        | some (.lst acc) => if acc.length < line then compW f o w n (i + 1) (μ1.set o (.lst (acc ++ [v]))) else .bad
        | _ => .bad)
theorem compP_compW (f : D → Store → R (Option D)) (o : Nat) (ds : List D) : ∀ (n i : Nat) (μ : Store), n + i = ds.length → compP f o (ds.drop i) μ = compW f o (.items ds) (n + 1) i μ
  | 0, i, μ, e => by
    have e1 : ds.length ≤ i := by omega
    rw [List.drop_eq_nil_of_le e1]
    simp only [compP, compW, nextD, List.getElem?_eq_none e1]
  | n + 1, i, μ, e => by
    have h : i < ds.length := by omega
    rw [List.drop_eq_getElem_cons h]
    simp only [compP]
    rw [compW]
    simp only [nextD, List.getElem?_eq_getElem h]
    have : ∀ μ, compP f o (ds.drop (i + 1)) μ = compW f o (.items ds) (n + 1) (i + 1) μ := fun μ => compP_compW f o ds n (i + 1) μ (by omega)
    first
      | (simp only [this]; done)
      | (simp only [this]
         cases f ds[i] μ with
         | ok y μ1 =>
           cases y with
           | none => rfl
           | some v =>
             simp only [R.bind_ok]
             cases μ1[o]? with
             | none => rfl
             | some z => cases z <;> rfl
         | err x μ1 => rfl
         | bad => rfl)
theorem compL_compW (f : D → Store → R (Option D)) (o l : Nat) : ∀ (n i : Nat) (μ : Store), compL f o l n i μ = compW f o (.list l) n i μ
  | 0, i, μ => rfl
  | n + 1, i, μ => by
    have : ∀ μ, compL f o l n (i + 1) μ = compW f o (.list l) n (i + 1) μ := fun μ => compL_compW f o l n (i + 1) μ
    rw [compL, compW]
    simp only [this, nextD]
    cases lstOf μ l with
    | none => rfl
    | some ds =>
      simp only [Option.map_some]
      cases ds[i]? with
      | none => rfl
      | some d =>
        first
        | (simp only []; done)
        | rfl
        | (simp only []
           cases f d μ with
           | ok y μ1 =>
             cases y with
             | none => rfl
             | some v =>
               simp only [R.bind_ok]
               cases μ1[o]? with
               | none => rfl
               | some z => cases z <;> rfl
           | err x μ1 => rfl
           | bad => rfl)
theorem compD_compW (f : D → Store → R (Option D)) (w : Wk) (μ : Store) : compD f w μ = match wkN w μ with
    | some n => (compW f μ.length w n 0 (μ ++ [.lst []])).bind fun _ μ' => .ok (.obj μ.length) μ'
    | none => .bad := by
  cases w with
  | items ds =>
    simp only [compD, wkN]
    rw [← compP_compW f μ.length ds ds.length 0 _ (by omega)]
    rfl
  | list l =>
    simp only [compD, wkN]
    cases lstOf μ l with
    | none => rfl
    | some ds => simp only [Option.map_some]; rw [compL_compW]
/-- slots forgotten -/
def wipeE (ρ : Env) : List Nat → Env
  | [] => ρ
  | v :: vs => (wipeE ρ vs).set v none
theorem wipeE_get : ∀ {vs : List Nat} {ρ : Env} (j : Nat), (wipeE ρ vs)[j]? = if j ∈ vs then (if j < ρ.length then some none else none) else ρ[j]?
  | [], σ, j => by simp [wipeE]
  | v :: vs, σ, j => by
    have hlen : ∀ (vs : List Nat), (wipeE σ vs).length = σ.length := fun vs => by
      induction vs with
      | nil => rfl
      | cons v vs ih => unfold wipeE; rw [List.length_set, ih]
    unfold wipeE
    by_cases hv : v = j
    · subst hv
      by_cases hl : v < σ.length
      · rw [List.getElem?_set_self (by rw [hlen]; exact hl)]
        simp [hl]
      · rw [List.getElem?_eq_none (by rw [List.length_set, hlen]; omega)]
        simp [hl]
    · rw [List.getElem?_set_ne hv, wipeE_get j]
      have : (j ∈ v :: vs) ↔ j ∈ vs := by simp [List.mem_cons, Ne.symm hv]
      simp only [this]
theorem wipeE_length (ρ : Env) (vs : List Nat) : (wipeE ρ vs).length = ρ.length := by
  induction vs with
  | nil => rfl
  | cons v vs ih => unfold wipeE; rw [List.length_set, ih]
theorem setAll_congr : ∀ {is : List Nat} {ds : List D} {ρ1 ρ2 : Env}, ds.length = is.length → ρ1.length = ρ2.length → (∀ j, j ∉ is → ρ1[j]? = ρ2[j]?) → setAll is ds ρ1 = setAll is ds ρ2
  | [], [], ρ1, ρ2, _, hl, hj => by
    simp only [setAll]
    exact List.ext_getElem? fun j => hj j (by simp)
  | i :: is, d :: ds, ρ1, ρ2, hd, hl, hj => by
    simp only [setAll]
    refine setAll_congr (by simpa using hd) (by simp [hl]) fun j h => ?_
    by_cases hi : i = j
    · subst hi
      by_cases hlt : i < ρ1.length
      · rw [List.getElem?_set_self hlt, List.getElem?_set_self (hl ▸ hlt)]
      · rw [List.getElem?_eq_none (by simp; omega), List.getElem?_eq_none (by simp; omega)]
    · rw [List.getElem?_set_ne hi, List.getElem?_set_ne hi]
      exact hj j (by simp only [List.mem_cons, not_or]; exact ⟨fun e => hi e.symm, h⟩)
  | [], _ :: _, _, _, h, _, _ => by cases h
  | _ :: _, [], _, _, h, _, _ => by cases h
theorem put_wipe (t : Tg) (d : D) (ρ : Env) (μ : Store) : t.put d (wipeE ρ t.slots) μ = t.put d ρ μ := by
  cases t with
  | name i =>
    simp only [Tg.put, Tg.slots, wipeE]
    congr 1
    exact List.ext_getElem? fun j => by
      by_cases hi : i = j
      · subst hi
        by_cases hlt : i < ρ.length
        · rw [List.getElem?_set_self (by simpa using hlt), List.getElem?_set_self hlt]
        · rw [List.getElem?_eq_none (by simp; omega), List.getElem?_eq_none (by simp; omega)]
      · rw [List.getElem?_set_ne hi, List.getElem?_set_ne hi, List.getElem?_set_ne hi]
  | tup is =>
    cases d <;> simp only [Tg.put]
    · split
      · rename_i hl
        rw [setAll_congr hl (wipeE_length _ _) fun j hj => by rw [wipeE_get]; simp [Tg.slots, hj]]
      · rfl
    · split
      · split
        · rename_i hl
          rw [setAll_congr hl (wipeE_length _ _) fun j hj => by rw [wipeE_get]; simp [Tg.slots, hj]]
        · rfl
      · rfl
section
variable {X : Cx} {W : WX} {n : Nat} {g : G} {h : Option Py.X} {xs : Option (Nat × Addr)} {c : Ctx} {e a b tg : Expr} {es : List Expr} {pos : Pos}
variable {K : PySem.W.Frag} {mg : PySem.Str → Option Value} {φ φ' : List Addr} {H H' : Hp} {σ : L2.St} {ρ : Env} {μ : Store} {D : Ends}
theorem RS.wipe (r : RS K mg xs φ H ρ σ) (vs : List Nat) : RS K mg none φ H (wipeE ρ vs) (L2.wipe σ vs) := by
  refine ⟨by rw [wipe_length, wipeE_length, r.len], (fun _ _ z => nomatch z), fun j d e => ?_⟩
  rw [wipeE_get] at e
  rw [wipe_get]
  by_cases hj : j ∈ vs
  · rw [if_pos hj] at e
    split at e <;> cases e
  · rw [if_neg hj] at e
    rw [if_neg hj]
    exact r.at_ j d e
theorem wipe_wipe (σ : L2.St) (vs : List Nat) : L2.wipe (L2.wipe σ vs) vs = L2.wipe σ vs := by
  apply List.ext_getElem?
  intro j
  rw [wipe_get, wipe_get, wipe_length]
  by_cases hj : j ∈ vs <;> simp [hj]
abbrev W0 : WX := fun _ _ _ _ => False
/-- a block's names fit -/
theorem blk_ok {scope : Scope} {own : List (PySem.Str × Nat)} (k : Cok n g h xs c W X) (hb : blkB c.N c.sc scope own = true) : BlkOk X.N X.env.scope scope own := by
  unfold blkB at hb
  simp only [Bool.and_eq_true, List.all_eq_true, decide_eq_true_eq] at hb
  obtain ⟨h1, h2, h3, h4⟩ := hb
  refine ⟨?_, h2, fun p hp => by rw [k.N]; exact h3 p hp, fun y hy e => ?_, fun y hy e => ?_⟩
  · split at h1
    · assumption
    · cases h1
  · rw [k.sc]
    have q := h4 y hy
    simp only [e] at q
    split at q <;> first | exact .inl (by assumption) | exact .inr (by assumption) | cases q
  · rw [k.N]
    have q := h4 y hy
    rcases e with e | e <;> (simp only [e, Bool.or_eq_true, decide_eq_true_eq] at q; exact q)
theorem blk_names {scope : Scope} {cl : List (PySem.Str × Addr)} {C : Addr} (k : Cok n g h xs c W X) : (PySem.compEnvC scope cl C X.env).scope.names = relN scope.names c.sc := by
  show (PySem.relabel scope X.env).names = _
  unfold PySem.relabel relN
  apply List.map_congr_left
  intro p _
  obtain ⟨a, b⟩ := p
  have h1 : (X.env.scope.kind == ScopeKind.function) = true := by rw [k.kind]; decide
  have h2 : X.env.kindOf a = c.sc.lookup a := by rw [← k.sc]; rfl
  simp only [h1, h2, Bool.and_true]
theorem Cok.block {scope : Scope} {own : List (PySem.Str × Nat)} (k : Cok n g h xs c W X) (hh : c.hot = false) (hb : blkB c.N c.sc scope own = true) (s : Shared) (H : Hp) (C : Addr) (cl : List (PySem.Str × Addr)) (fp : List Addr) :
    Cok n g h none (c.block scope.names) W0 (X.blk s H scope (PySem.compEnvC scope cl C X.env) fp) where
  call := ⟨k.call.gok, k.call.un, k.call.room, takes0⟩
  ok2 := k.ok2
  N := k.N
  nd := k.nd
  sc := blk_names k
  kind := (blk_ok k hb).kind
  calm := fun _ => k.calm hh
  po := PassesOwn.never
  fn := fun z => nomatch z
  stk := fun z => nomatch z
  exc := rfl
  exh := fun _ _ _ _ z => nomatch z
/-- the element and the tests of a block, as a reading -/
theorem lc_can {t : Tg} {it : Py.It} {ex : E} {ei : Es} {Q : VK} (q : canE X.K X.mg xs W (E.den g h (.comp t ex it ei)) σ H Q) :
    tLc (canI X.K X.mg xs W (It.den g h it)) (canG X.K X.mg none t) (canT X.K X.mg none W0 (Es.denTests g h ei)) (canE X.K X.mg none W0 (E.den g h ex)) t.slots σ H Q := by
  obtain ⟨φ, μ, ρ, rep, rs, p⟩ := q
  simp only [E.den] at p
  refine ⟨φ, μ, ρ, rep, rs, (post.bind (rel := Itw X.K X.mg) p).imp fun J H1 q => ?_⟩
  clear p
  obtain ⟨φ1, μ1, w, hden, e1, rep1, hJ, p⟩ := q
  clear hden
  intro L hL
  have rs1 := rs.mono e1
  clear rs rep
  have exL : Ex φ1 H1 (φ1 ++ [L]) (upd H1 L (.lst [])) := Ex.new hL
  have repL : Rep X.K X.mg (φ1 ++ [L]) (μ1 ++ [.lst []]) (upd H1 L (.lst [])) := rep1.new hL ⟨[], upd_same, rfl⟩
  have atL : (φ1 ++ [L])[μ1.length]? = some L := by rw [← rep1.len]; simp
  rw [compD_compW] at p
  revert p
  generalize hF : (fun d μ => match t.put d ρ μ with
    | some ρ' => ((Es.denTests g h ei ρ' μ).bind fun b μ => if b = true then (E.den g h ex ρ' μ).bind fun y μ => R.ok (some y) μ else R.ok none μ).hard
    | none => .bad) = F
  intro p
  split at p
  · rename_i m0 _
    refine ⟨fun i m H => ∃ φ μ, Ex (φ1 ++ [L]) (upd H1 L (.lst [])) φ H ∧ Rep X.K X.mg φ μ H ∧ post X.K X.mg (RD X.K X.mg) W ((compW F μ1.length w m i μ).bind fun _ μ' => .ok (.obj μ1.length) μ') φ H σ Q,
      ⟨m0, _, _, Ex.refl, repL, post.mono exL p⟩, ?_⟩
    clear p
    rintro i m H2 ⟨φ2, μ2, e2, rep2, p⟩
    cases m with
    | zero => exact p.elim
    | succ m =>
      rw [compW] at p
      cases hd : nextD w i μ2 with
      | none => rw [hd] at p; exact p.elim
      | some r =>
        rw [hd] at p
        have this := hJ φ2 H2 μ2 i r (exL.trans e2) rep2 hd
        cases r with
        | none => exact .inl ⟨this, p φ2 H2 _ Ex.refl rep2 ⟨L, e2.get atL, rfl⟩⟩
        | some d =>
          obtain ⟨go, yl⟩ := this
          refine .inr ⟨go, fun H' => ∃ φ μ, Ex (φ1 ++ [L]) (upd H1 L (.lst [])) φ H' ∧ Rep X.K X.mg φ μ H' ∧ post X.K X.mg (RD X.K X.mg) W ((compW F μ1.length w m (i + 1) μ).bind fun _ μ' => .ok (.obj μ1.length) μ') φ H' σ Q, fun H' z => ?_, fun x H' y => ?_⟩
          · obtain ⟨φ3, μ3, e3, rep3, p3⟩ := z
            exact ⟨m, Nat.lt_succ_self _, φ3, μ3, e3, rep3, p3⟩
          · obtain ⟨ee, rep', rd⟩ := yl x H' y
            have p := post.mono ee p
            have e2' := e2.trans ee
            have rsw := (rs1.mono (exL.trans e2')).wipe t.slots
            have hFd : F d μ2 = match t.put d ρ μ2 with
              | some ρ' => ((Es.denTests g h ei ρ' μ2).bind fun b μ => if b = true then (E.den g h ex ρ' μ).bind fun y μ => R.ok (some y) μ else R.ok none μ).hard
              | none => .bad := by rw [← hF]
            simp only [hFd] at p
            cases hp : t.put d ρ μ2 with
            | none => rw [hp] at p; exact p.elim
            | some ρ' =>
              rw [hp] at p
              simp only [] at p
              refine ⟨φ2, μ2, _, d, ρ', rep', rsw, rd, (put_wipe t d ρ μ2).trans hp, fun σ2 rs2 hw => ⟨(hw _ (fun _ z => z)).trans (wipe_wipe _ _), ?_⟩⟩
              refine ⟨φ2, μ2, ρ', rep', rs2, ?_⟩
              cases ht : Es.denTests g h ei ρ' μ2 with
              | ok bb μ3 =>
                rw [ht] at p
                intro φ3 H3 b' e3 rep3 rb
                cases rb
                have p := post.mono e3 p
                have rs3 := rs2.mono e3
                cases bb with
                | false =>
                  exact ⟨φ3, μ3, e2'.trans e3, rep3, p⟩
                | true =>
                  refine ⟨φ3, μ3, ρ', rep3, rs3, ?_⟩
                  simp only [R.bind_ok, if_true] at p
                  cases hx : E.den g h ex ρ' μ3 with
                  | ok y μ4 =>
                    rw [hx] at p
                    intro φ4 H4 y' e4 rep4 ry
                    have p := post.mono e4 p
                    simp only [R.bind_ok, R.hard_ok] at p
                    split at p
                    · rename_i acc hacc
                      obtain ⟨L', hL', vs, hv, rv⟩ := rep4.at_ _ _ hacc
                      have e14 := (e2'.trans e3).trans e4
                      rw [e14.get atL] at hL'
                      cases hL'
                      split at p
                      · rename_i hl
                        have hput : Ex φ4 H4 φ4 (upd H4 L (.lst (vs ++ [y']))) := Ex.put (by rw [hv]; trivial)
                        refine ⟨vs, hv, by rw [← line_eq, rv.length]; exact hl, φ4, _, e14.trans hput, rep4.put (x := .lst (acc ++ [y])) (e14.get atL) (by rw [hv]; trivial) ⟨_, upd_same, (RDs.append rv (RDs.cons ry RDs.nil)).mono hput⟩, post.mono hput p⟩
                      · exact p.elim
                    · exact p.elim
                  | err z μ4 => rw [hx] at p; exact p.elim
                  | bad => rw [hx] at p; exact p.elim
              | err z μ3 => rw [ht] at p; exact p.elim
              | bad => rw [ht] at p; exact p.elim
  · exact p.elim

theorem s_tests0 : PTs X [] (canT X.K X.mg xs W (Es.denTests g h .nil)) := by
  refine ⟨fun pins s σ H Q I q => (pts_nil (X := X)).run pins s σ H Q I ?_⟩
  obtain ⟨φ, μ, ρ, rep, rs, p⟩ := q
  simp only [Es.denTests] at p
  exact p.val rep rfl
theorem s_tests1 {ea : E} (ht : PT X e (canT X.K X.mg xs W (mT (E.den g h ea)))) : PTs X [e] (canT X.K X.mg xs W (Es.denTests g h (.cons ea .nil))) := by
  have : Es.denTests g h (.cons ea .nil) = mT (E.den g h ea) := funext fun ρ => funext fun μ => by simp only [Es.denTests, mT]
  rw [this]
  exact pts_one ht
/-- a comprehension -/
theorem s_comp {t : Tg} {it : Py.It} {ex : E} {ei : Es} {x' t' i' : Expr} {ifs' : List Expr} {scope : Scope} (k : Cok n g h xs c W X) (hh : c.hot = false) (hb : blkB c.N c.sc scope (t.own t') = true) (ho : (t.own t').map (·.2) = t.slots)
    (hs : notSet i' = true) (hi : PI X t' i' (canI X.K X.mg xs W (It.den g h it))) (ht : Tg.chk (c.block scope.names) t t' = true)
    (hT : ∀ X', Cok n g h none (c.block scope.names) W0 X' → PTs X' ifs' (canT X'.K X'.mg none W0 (Es.denTests g h ei))) (hE : ∀ X', Cok n g h none (c.block scope.names) W0 X' → PE X' x' (canE X'.K X'.mg none W0 (E.den g h ex))) :
    PE X (.ListComp x' [⟨t', i', ifs', 0⟩] scope pos) (canE X.K X.mg xs W (E.den g h (.comp t ex it ei))) := by
  refine PE.imp (pe_lc (own := t.own t') (tt := canT X.K X.mg none W0 (Es.denTests g h ei)) (te := canE X.K X.mg none W0 (E.den g h ex)) (g := canG X.K X.mg none t) (k.calm hh) k.nd hi (blk_ok k hb) (fun s H C cl fp => g_tg (k.block hh hb s H C cl fp) ht) (fun s H C cl fp => hT _ (k.block hh hb s H C cl fp)) (fun s H C cl fp => hE _ (k.block hh hb s H C cl fp)) (no_fold hs)) fun σ H Q q => ?_
  rw [ho]
  exact lc_can q
/-- y = [..] -/
theorem z_setC {i : Nat} {y : PySem.Str} {py : Pos} {t : Tg} {it : Py.It} {ex : E} {ei : Es} {x' t' i' : Expr} {ifs' : List Expr} {scope : Scope} {pos' : Pos} (k : Cok n g h xs c W X) (hh : c.hot = false) (hb : blkB c.N c.sc scope (t.own t') = true) (ho : (t.own t').map (·.2) = t.slots)
    (hs : notSet i' = true) (hi : PI X t' i' (canI X.K X.mg xs W (It.den g h it))) (ht : Tg.chk (c.block scope.names) t t' = true)
    (hT : ∀ X', Cok n g h none (c.block scope.names) W0 X' → PTs X' ifs' (canT X'.K X'.mg none W0 (Es.denTests g h ei))) (hE : ∀ X', Cok n g h none (c.block scope.names) W0 X' → PE X' x' (canE X'.K X'.mg none W0 (E.den g h ex)))
    (h1 : c.N[i]? = some y) (h2 : c.sc.lookup y = some .local) (h3 : c.exc ≠ some i) (hl : (py.line == pos.line) = true) (ha : (scope.names.any fun (n, k) => n == y && (k == .local || k == .cell)) = false) :
    PS X (.Assign [.Name y py] (.ListComp x' [⟨t', i', ifs', 0⟩] scope pos) pos') (canS X.K X.mg xs W (St.den g h (.set (.name i) (.comp t ex it ei)))) := by
  have hy : X.env.scope.names.lookup y = some .local := by rw [k.sc]; exact h2
  refine PS.imp (ps_setLc (own := t.own t') (tt := canT X.K X.mg none W0 (Es.denTests g h ei)) (te := canE X.K X.mg none W0 (E.den g h ex)) (g := canG X.K X.mg none t) (k.calm hh) k.nd (by rw [k.N]; exact h1) hy (sw_true k.kind hy hl ha) hi (blk_ok k hb) (fun s H C cl fp => g_tg (k.block hh hb s H C cl fp) ht) (fun s H C cl fp => hT _ (k.block hh hb s H C cl fp)) (fun s H C cl fp => hE _ (k.block hh hb s H C cl fp)) (no_fold hs)) fun D σ H q => ?_
  obtain ⟨φ, μ, ρ, rep, rs, p⟩ := q
  simp only [St.den] at p
  show tLc _ _ _ _ ((t.own t').map (·.2)) σ H _
  rw [ho]
  refine lc_can ⟨φ, μ, ρ, rep, rs, (postS.st (rel := RD X.K X.mg) rs p).imp fun v H1 q => ?_⟩
  clear p
  obtain ⟨φ1, μ1, d, _, e1, rep1, rd, p1⟩ := q
  exact p1 φ1 H1 _ Ex.refl rep1 ((rs.mono e1).set rd (by rw [k.exc]; exact h3))
/-! ### classes -/
theorem s_cval {s f : String} {y : PySem.Str} {p : Pos} (k : Cok n g h xs c W X) (hx : gname c s y = true) : PE X (.Attribute (.Name y p) (nm f) pos) (canE X.K X.mg xs W (E.den g h (.cval s f))) := by
  obtain ⟨rfl, hg, hd, hn⟩ := gname_ok k hx
  cases hv : g.cval s f with
  | none =>
    refine PE.imp PE.never fun σ H Q q => ?_
    obtain ⟨φ, μ, ρ, rep, rs, z⟩ := q
    simp only [E.den, hv] at z
    exact z
  | some d =>
    obtain ⟨C, mc, v, u, h1, h2, h3, h4⟩ := k.call.gok.cval _ _ _ hv
    refine PE.imp (ClX.pe_cval (pe_glob hg h1 (show RelV (V.ref C) (.ref C) from rfl) hd) (att_base rfl)) fun σ H Q q => ?_
    obtain ⟨φ, μ, ρ, rep, rs, z⟩ := q
    simp only [E.den, hv] at z
    exact ⟨C, mc, v, u, rfl, h2, h3, z.val rep (h4 φ H)⟩

theorem s_clm {s m : String} {y : PySem.Str} {p ap : Pos} {ea : Es} (k : Cok n g h xs c W X) (hx : gname c s y = true) (hi : (g.clm s m).isSome = true) (hl : (ap.endLine == pos.line) = true) (hn : (e :: es).length < 29) (hc : ((e :: es).all notStar && Es.chk g c ea (e :: es)) = true) (ha : PA X (e :: es) (canA X.K X.mg xs W (Es.den g h ea))) :
    PE X (.Call (.Attribute (.Name y p) (nm m) ap) (e :: es) [] pos) (canE X.K X.mg xs W (E.den g h (.clm s m ea))) := by
  obtain ⟨rfl, hg, hd, hnn⟩ := gname_ok k hx
  obtain ⟨key, hv⟩ := Option.isSome_iff_exists.mp hi
  have hst := chk_star hc
  have ht := meth_eval (o := .Name (nm s) p) (args := e :: es) (m := nm m) (apos := ap) (pos := pos) (env := X.env) (att_base rfl) (few_ok hst hn) hl
  simp only [List.all_cons, Bool.and_eq_true] at hst
  obtain ⟨C, mc, p0, f, h1, h2, h3, fa⟩ := k.call.gok.clm _ _ _ hv
  refine ⟨fun pins s' σ H Q I q => PySem.W.methodCall_KW (thn ((pe_glob (pos := p) hg h1 (show RelV (V.ref C) (.ref C) from rfl) hd).run pins s' σ H (fun x H1 => x = .ref C ∧ H1 = H) I ⟨rfl, rfl⟩) fun u s1 hu => ?_) ht⟩
  obtain ⟨x, H1, I1, rx, rfl, rfl⟩ := hu
  cases rx
  refine ClX.getmethcm_ok I1 h2 h3 fun s2 I2 => ?_
  obtain ⟨φ, μ, ρ, rep, rs, z⟩ := q
  simp only [E.den, hv] at z
  refine ClX.callwith_cm I2 (ClX.base_none I1 (Nat.le_refl _)) h3.fi (thn (ha.run pos _ s2 σ H1 (fun vs H2 => ∃ φ2 μ2 ds, Rep X.K X.mg φ2 μ2 H2 ∧ RDs X.K X.mg φ2 H2 ds vs ∧ post X.K X.mg (RD X.K X.mg) W (g.callF key (.cls s :: ds) μ2) φ2 H2 σ Q) I2 ?_) fun us s3 hu => ?_) (star_one hst.1) (star_all hst.2)
  · refine ⟨φ, μ, ρ, rep, rs, (post.bind (rel := RDs X.K X.mg) z).imp fun vs H2 z2 => ?_⟩
    obtain ⟨φ2, μ2, ds, _, e2, rep2, rds, p2⟩ := z2
    exact ⟨φ2, μ2, ds, rep2, rds, p2⟩
  · obtain ⟨vs, H2, I3, rv, φ2, μ2, ds, rep2, rds, p2⟩ := hu
    refine ⟨⟨ClX.pin_at I3, I3.kIn⟩, ?_⟩
    have hcode := callF_codeA (us := .ref C :: us) (vs := .ref C :: vs) (ds := .cls s :: ds) fa ((k.call.hot0 p2).mono (by omega)) I3.ok.frames k.call.tk I3 (.cons rfl rv) rep2 (RDs.cons ⟨C, h1, rfl⟩ rds) p2
    exact thn (wpAny_call (PySem.W.method_call (ClX.pin_at I3) (codeAny_mono hcode fun z s' hq => by
      cases z with
      | error er => exact hq
      | ok fl =>
        cases fl with
        | ret u => exact hq
        | _ => exact hq.elim))) fun _ _ y => ClX.unpinE y
theorem s_callv {i : Nat} {x : PySem.Str} {p : Pos} {ea : Es} (k : Cok n g h xs c W X) (hx : slot c i x = true) (hc : ((e :: es).all notStar && Es.chk g c ea (e :: es)) = true) (ha : PA X (e :: es) (canA X.K X.mg xs W (Es.den g h ea))) :
    PE X (.Call (.Name x p) (e :: es) [] pos) (canE X.K X.mg xs W (E.den g h (.callv i ea))) := by
  have hst := chk_star hc
  simp only [List.all_cons, Bool.and_eq_true] at hst
  refine ⟨fun pins s' σ H Q I q => ?_⟩
  obtain ⟨φ, μ, ρ, rep, rs, z⟩ := q
  simp only [E.den, getV] at z
  split at z
  · rename_i d ed
    simp only [R.bind_ok] at z
    split at z
    · rename_i cn
      split at z
      · rename_i hi
        obtain ⟨key, hk⟩ := Option.isSome_iff_exists.mp hi
        obtain ⟨C, fi, own, M, fa⟩ := k.call.gok.init _ _ hk
        obtain ⟨v, hv, rd⟩ := rs.at_ i _ ed
        obtain ⟨C', hC', rfl⟩ := rd
        rw [own.at_] at hC'
        cases hC'
        refine wpAny_Call_Name_kw (thn ((slot_ok k hx (pos := p)).run pins s' σ H (fun v H1 => v = .ref C ∧ H1 = H) I ⟨.ref C, hv, rfl, rfl⟩) fun u s1 hu => ?_)
        obtain ⟨x1, H1, I1, rx, rfl, rfl⟩ := hu
        cases rx
        refine PySem.W.callWith_K (h₀ := X.base) I1.ok.mod.kin M.kp (thn (ha.run pos pins s1 σ H1 (fun vs H2 => Goes X C vs σ H2 Q) I1 ?_) fun us s2 hu => ?_) (star_one hst.1) (star_all hst.2)
        · refine ⟨φ, μ, ρ, rep, rs, (post.bind (rel := RDs X.K X.mg) z).imp fun vs H2 z2 => ?_⟩
          obtain ⟨φ2, μ2, ds, _, e2, rep2, rds, p2⟩ := z2
          exact goes_new k.call own M fa hk rep2 rds p2
        · obtain ⟨vs, H2, I3, rv, go⟩ := hu
          exact ⟨I3.kIn, go pins s2 us I3 rv⟩
      · exact z.elim
    · exact z.elim
  · exact z.elim
/-! ### f-strings -/
theorem s_fmt {ea : E} (ha : PE X e (canE X.K X.mg xs W (E.den g h ea))) : PE X (.FormattedValue e (-1) none pos) (canE X.K X.mg xs W (E.den g h (.fmt ea))) := by
  refine PE.imp (pe_fmt ha) fun σ H Q q => ?_
  obtain ⟨φ, μ, ρ, rep, rs, z⟩ := q
  simp only [E.den] at z
  refine ⟨φ, μ, ρ, rep, rs, (post.bind (rel := RD X.K X.mg) z).imp fun v H1 z1 => ?_⟩
  obtain ⟨φ1, μ1, d, _, e1, rep1, rd, p1⟩ := z1
  unfold fmtD at p1
  split at p1
  · rename_i s0
    split at p1
    · rename_i hl
      cases rd
      exact .inl ⟨_, rfl, by rw [stS_len, ← line_eq]; exact hl, p1.val rep1 rfl⟩
    · exact p1.elim
  · rename_i i
    split at p1
    · rename_i hl
      cases rd
      exact .inr ⟨_, rfl, hl, p1.val rep1 (by show V.str _ = V.str _; rw [decS_eq])⟩
    · exact p1.elim
  · exact p1.elim

def Es.tes (K : PySem.W.Frag) (mg : PySem.Str → Option Value) (xs : Option (Nat × Addr)) (W : WX) (g : G) (h : Option Py.X) : Es → List TE
  | .nil => []
  | .cons e r => canE K mg xs W (E.den g h e) :: Es.tes K mg xs W g h r
  | .star _ _ => []
theorem can_js {Q : VK} : ∀ {es : Es} {acc : S} {φ : List Addr} {μ : Store} {H : Hp}, Rep X.K X.mg φ μ H → RS X.K X.mg xs φ H ρ σ → post X.K X.mg (RD X.K X.mg) W (Es.denJ g h es acc ρ μ) φ H σ Q →
    tJs (Es.tes X.K X.mg xs W g h es) (stS acc) σ H (fun out H1 => Q (.str out) H1)
  | .nil, acc, φ, μ, H, rep, rs, p => by
    simp only [Es.denJ] at p
    exact p.val rep rfl
  | .star e r, acc, φ, μ, H, rep, rs, p => by
    simp only [Es.denJ] at p
    exact p.elim
  | .cons e r, acc, φ, μ, H, rep, rs, p => by
    simp only [Es.denJ] at p
    refine ⟨φ, μ, ρ, rep, rs, (post.bind (rel := RD X.K X.mg) p).imp fun v H1 z1 => ?_⟩
    obtain ⟨φ1, μ1, d, _, e1, rep1, rd, p1⟩ := z1
    split at p1
    · rename_i s0 _
      split at p1
      · rename_i hl
        cases rd
        refine ⟨_, rfl, ?_, ?_⟩
        · rw [stS_app, stS_len, ← line_eq]; exact hl
        · rw [stS_app]
          exact can_js rep1 (rs.mono e1) p1
      · exact p1.elim
    · exact p1.elim
theorem s_fstr {ea : Es} (hn : 2 ≤ es.length) (hj : PJ X es (Es.tes X.K X.mg xs W g h ea)) : PE X (.JoinedStr es pos) (canE X.K X.mg xs W (E.den g h (.fstr ea))) := by
  match es, hn, hj with
  | a :: b :: r, _, hj =>
    refine PE.imp (pe_joined hj) fun σ H Q q => ?_
    obtain ⟨φ, μ, ρ, rep, rs, z⟩ := q
    simp only [E.den] at z
    exact can_js (acc := []) rep rs z
theorem s_fstr1 {ea : E} (ha : PE X e (canE X.K X.mg xs W (E.den g h ea))) : PE X (.JoinedStr [e] pos) (canE X.K X.mg xs W (E.den g h (.fstr (.cons ea .nil)))) := by
  refine PE.imp (pe_joined1 ha) fun σ H Q q => ?_
  obtain ⟨φ, μ, ρ, rep, rs, z⟩ := q
  simp only [E.den, Es.denJ] at z
  refine ⟨φ, μ, ρ, rep, rs, (post.bind (rel := RD X.K X.mg) z).imp fun v H1 z1 => ?_⟩
  obtain ⟨φ1, μ1, d, _, e1, rep1, rd, p1⟩ := z1
  split at p1
  · simp only [List.nil_append] at p1
    split at p1
    · exact p1.val rep1 rd
    · exact p1.elim
  · exact p1.elim
end
end Py
end

section
set_option Elab.async false
set_option linter.all false
set_option maxRecDepth 100000
set_option maxHeartbeats 4000000
set_option autoImplicit false
/-! The Py layer, part 11: every expression means what its form says. -/
namespace Py
open PySem L2
def SE (g : G) (h : Option Py.X) (e : E) : Prop := ∀ (e' : Expr) (n : Nat) (xs : Option (Nat × Addr)) (c : Ctx) (W : WX) (X : Cx), Cok n g h xs c W X → E.chk g c e e' = true →
  PE X e' (canE X.K X.mg xs W (E.den g h e)) ∧ (E.chkT g c e e' = true → PT X e' (canT X.K X.mg xs W (mT (E.den g h e))))
def SA (g : G) (h : Option Py.X) (es : Es) : Prop := ∀ (es' : List Expr) (n : Nat) (xs : Option (Nat × Addr)) (c : Ctx) (W : WX) (X : Cx), Cok n g h xs c W X → Es.chk g c es es' = true → PA X es' (canA X.K X.mg xs W (Es.den g h es))
def SN (g : G) (h : Option Py.X) (es : Es) : Prop := ∀ (es' : List Expr) (pos : Pos) (n : Nat) (xs : Option (Nat × Addr)) (c : Ctx) (W : WX) (X : Cx), Cok n g h xs c W X → Es.chkN g c es es' = true →
  (PE X (.BoolOp .And es' pos) (canE X.K X.mg xs W (Es.denAnd g h es)) ∧ (Es.chkT g c es es' = true → PW X (.BoolOp .And es' pos) (canT X.K X.mg xs W (mT (Es.denAnd g h es))))) ∧
  (PE X (.BoolOp .Or es' pos) (canE X.K X.mg xs W (Es.denOr g h es)) ∧ (Es.chkT g c es es' = true → PW X (.BoolOp .Or es' pos) (canT X.K X.mg xs W (mT (Es.denOr g h es)))))
def SO (g : G) (h : Option Py.X) (es : Es) : Prop := ∀ (e' : Option Expr) (n : Nat) (xs : Option (Nat × Addr)) (c : Ctx) (W : WX) (X : Cx), Cok n g h xs c W X → Es.chkO g c es e' = true → PO X e' (canO X xs W (Es.den g h es))
def SI (g : G) (h : Option Py.X) (it : It) : Prop := ∀ (tg e' : Expr) (n : Nat) (xs : Option (Nat × Addr)) (c : Ctx) (W : WX) (X : Cx), Cok n g h xs c W X → It.chk g c tg it e' = true → PI X tg e' (canI X.K X.mg xs W (It.den g h it))
def SJ (g : G) (h : Option Py.X) (es : Es) : Prop := ∀ (es' : List Expr) (n : Nat) (xs : Option (Nat × Addr)) (c : Ctx) (W : WX) (X : Cx), Cok n g h xs c W X → Es.chkJ g c es es' = true → PJ X es' (Es.tes X.K X.mg xs W g h es)
def SD (g : G) (h : Option Py.X) (es : Es) : Prop := ∀ (es' : List Expr) (n : Nat) (xs : Option (Nat × Addr)) (c : Ctx) (W : WX) (X : Cx), Cok n g h xs c W X → Es.chkI g c es es' = true → PTs X es' (canT X.K X.mg xs W (Es.denTests g h es))
theorem with_plain {g : G} {h : Option Py.X} {e : E} {e' : Expr} {xs : Option (Nat × Addr)} {c : Ctx} {W : WX} {X : Cx} (hp : PE X e' (canE X.K X.mg xs W (E.den g h e))) (ht : E.chkT g c e e' = true → plainT e' = true) :
    PE X e' (canE X.K X.mg xs W (E.den g h e)) ∧ (E.chkT g c e e' = true → PT X e' (canT X.K X.mg xs W (mT (E.den g h e)))) := ⟨hp, fun t => pt_plain hp (ht t)⟩
theorem chk_range1 {g : Gs} {c : Ctx} {a : E} {tg e' : Expr} (hc : It.chk g c tg (.range1 a) e' = true) : ∃ x p a' pos, e' = .Call (.Name x p) [a'] [] pos ∧ gname c "range" x = true ∧ notStar a' = true ∧ E.chk g c a a' = true := by
  rw [It.chk.eq_def] at hc
  split at hc
  all_goals first | (rename_i h; cases h; done) | (cases hc; done) | skip
  rename_i h
  cases h
  simp only [Bool.and_eq_true] at hc
  exact ⟨_, _, _, _, rfl, hc.1, hc.2.1, hc.2.2⟩
theorem chk_range2 {g : Gs} {c : Ctx} {a b : E} {tg e' : Expr} (hc : It.chk g c tg (.range2 a b) e' = true) : ∃ x p a' b' pos, e' = .Call (.Name x p) [a', b'] [] pos ∧ gname c "range" x = true ∧ notStar a' = true ∧ E.chk g c a a' = true ∧ notStar b' = true ∧ E.chk g c b b' = true := by
  rw [It.chk.eq_def] at hc
  split at hc
  all_goals first | (rename_i h; cases h; done) | (cases hc; done) | skip
  rename_i h
  cases h
  simp only [Bool.and_eq_true] at hc
  exact ⟨_, _, _, _, _, rfl, hc.1, hc.2.1.1, hc.2.1.2, hc.2.2.1, hc.2.2.2⟩
theorem chk_enum {g : Gs} {c : Ctx} {a : E} {tg e' : Expr} (hc : It.chk g c tg (.enum a) e' = true) : ∃ es k tp x p a' pos, tg = .Tuple es k tp ∧ e' = .Call (.Name x p) [a'] [] pos ∧ gname c "enumerate" x = true ∧ notStar a' = true ∧ E.chk g c a a' = true := by
  rw [It.chk.eq_def] at hc
  split at hc
  all_goals first | (rename_i h; cases h; done) | (cases hc; done) | skip
  rename_i h
  cases h
  simp only [Bool.and_eq_true] at hc
  obtain ⟨h1, h2, h3, h4⟩ := hc
  cases tg <;> first | (cases h1; done) | skip
  exact ⟨_, _, _, _, _, _, _, rfl, rfl, h2, h3, h4⟩
mutual
theorem E.sound (g : G) (h : Option Py.X) : ∀ e : E, SE g h e
  | .nope => fun e' n xs c W X k hc => by
    refine ⟨PE.imp PE.never fun σ H Q q => ?_, fun _ => ⟨fun pins s σ H Q I q => ?_⟩⟩
    · obtain ⟨φ, μ, ρ, rep, rs, z⟩ := q
      simp only [E.den] at z
      exact z
    · obtain ⟨φ, μ, ρ, rep, rs, z⟩ := q
      simp only [mT, E.den] at z
      exact z.elim
  | .var i => fun e' n xs c W X k hc => by
    cases e' <;> first | (simp only [E.chk] at hc; cases hc; done) | skip
    exact with_plain (s_var k (by simpa only [E.chk] using hc)) fun t => by simpa only [E.chkT] using t
  | .lit d => fun e' n xs c W X k hc => by
    cases e' <;> first | (simp only [E.chk] at hc; cases hc; done) | skip
    exact with_plain (s_lit (by simpa only [E.chk] using hc)) fun t => by simpa only [E.chkT] using t
  | .glo x => fun e' n xs c W X k hc => by
    cases e' <;> first | (simp only [E.chk] at hc; cases hc; done) | skip
    exact with_plain (s_glo k (by simpa only [E.chk] using hc)) fun t => by simpa only [E.chkT] using t
  | .bin o a b => fun e' n xs c W X k hc => by
    cases e' <;> first | (simp only [E.chk] at hc; cases hc; done) | skip
    rename_i a' o' b' pos
    simp only [E.chk, Bool.and_eq_true] at hc
    obtain ⟨h1, h2, h3⟩ := hc
    exact with_plain (s_bin k h1 (E.sound g h a a' n xs c W X k h2).1 (E.sound g h b b' n xs c W X k h3).1) fun t => by simpa only [E.chkT] using t
  | .un o a => fun e' n xs c W X k hc => by
    cases e' <;> first | (simp only [E.chk] at hc; cases hc; done) | skip
    rename_i o' a' pos
    simp only [E.chk, Bool.and_eq_true] at hc
    obtain ⟨h1, h2⟩ := hc
    exact with_plain (s_un k h1 (E.sound g h a a' n xs c W X k h2).1) fun t => by simpa only [E.chkT] using t
  | .cmp o a b => fun e' n xs c W X k hc => by
    cases e' <;> first | (simp only [E.chk] at hc; cases hc; done) | skip
    rename_i a' os bs pos
    match os, bs, hc with
    | [o'], [b'], hc =>
      simp only [E.chk, Bool.and_eq_true] at hc
      obtain ⟨h1, h2, h3, h4⟩ := hc
      have p1 := (E.sound g h a a' n xs c W X k h3).1
      have p2 := (E.sound g h b b' n xs c W X k h4).1
      exact ⟨s_cmp k h1 h2 p1 p2, fun _ => t_cmp k h1 h2 p1 p2⟩
    | [], _, hc => simp only [E.chk] at hc; cases hc
    | [_], [], hc => simp only [E.chk] at hc; cases hc
    | [_], _ :: _ :: _, hc => simp only [E.chk] at hc; cases hc
    | _ :: _ :: _, _, hc => simp only [E.chk] at hc; cases hc
  | .chain o p a b d => fun e' n xs c W X k hc => by
    cases e' <;> first | (simp only [E.chk] at hc; cases hc; done) | skip
    rename_i a' os bs pos
    match os, bs, hc with
    | [o', p'], [b', d'], hc =>
      simp only [E.chk, Bool.and_eq_true] at hc
      obtain ⟨h1, h2, ⟨h3, h4⟩, h5, h6, h7⟩ := hc
      have p1 := (E.sound g h a a' n xs c W X k h5).1
      have p2 := (E.sound g h b b' n xs c W X k h6).1
      have p3 := (E.sound g h d d' n xs c W X k h7).1
      exact ⟨s_chain k h1 h2 h3 h4 p1 p2 p3, fun _ => t_chain k h1 h2 h3 h4 p1 p2 p3⟩
    | [], _, hc => simp only [E.chk] at hc; cases hc
    | [_], _, hc => simp only [E.chk] at hc; cases hc
    | [_, _], [], hc => simp only [E.chk] at hc; cases hc
    | [_, _], [_], hc => simp only [E.chk] at hc; cases hc
    | [_, _], _ :: _ :: _ :: _, hc => simp only [E.chk] at hc; cases hc
    | _ :: _ :: _ :: _, _, hc => simp only [E.chk] at hc; cases hc
  | .band es => fun e' n xs c W X k hc => by
    cases e' <;> first | (simp only [E.chk] at hc; cases hc; done) | skip
    rename_i op vs pos
    cases op
    · simp only [E.chk] at hc
      obtain ⟨⟨p1, p2⟩, _⟩ := Es.soundN g h es vs pos n xs c W X k hc
      have e0 : E.den g h (.band es) = Es.denAnd g h es := funext fun ρ => funext fun μ => by simp only [E.den]
      rw [e0]
      exact ⟨p1, fun t => PW.pt (p2 (by simpa only [E.chkT] using t))⟩
    · simp only [E.chk] at hc; cases hc
  | .bor es => fun e' n xs c W X k hc => by
    cases e' <;> first | (simp only [E.chk] at hc; cases hc; done) | skip
    rename_i op vs pos
    cases op
    · simp only [E.chk] at hc; cases hc
    · simp only [E.chk] at hc
      obtain ⟨_, p1, p2⟩ := Es.soundN g h es vs pos n xs c W X k hc
      have e0 : E.den g h (.bor es) = Es.denOr g h es := funext fun ρ => funext fun μ => by simp only [E.den]
      rw [e0]
      exact ⟨p1, fun t => PW.pt (p2 (by simpa only [E.chkT] using t))⟩
  | .not_ a => fun e' n xs c W X k hc => by
    cases e' <;> first | (simp only [E.chk] at hc; cases hc; done) | skip
    rename_i op a' pos
    cases op <;> first | (simp only [E.chk] at hc; cases hc; done) | skip
    simp only [E.chk, Bool.and_eq_true] at hc
    obtain ⟨p1, p2⟩ := E.sound g h a a' n xs c W X k hc.1
    exact ⟨s_not p1, fun t => t_not (p2 hc.2)⟩
  | .ite t a b => fun e' n xs c W X k hc => by
    cases e' <;> first | (simp only [E.chk] at hc; cases hc; done) | skip
    rename_i t' a' b' pos
    simp only [E.chk, Bool.and_eq_true] at hc
    obtain ⟨⟨h1, h2⟩, h3, h4⟩ := hc
    exact with_plain (s_ite ((E.sound g h t t' n xs c W X k h1).2 h2) (E.sound g h a a' n xs c W X k h3).1 (E.sound g h b b' n xs c W X k h4).1) fun t => by simpa only [E.chkT] using t
  | .tup es => fun e' n xs c W X k hc => by
    cases e' <;> first | (simp only [E.chk] at hc; cases hc; done) | skip
    simp only [E.chk] at hc
    exact with_plain (s_tup (Es.sound g h es _ n xs c W X k hc)) fun t => by simpa only [E.chkT] using t
  | .lst es => fun e' n xs c W X k hc => by
    cases e' <;> first | (simp only [E.chk] at hc; cases hc; done) | skip
    simp only [E.chk] at hc
    exact with_plain (s_lst (Es.sound g h es _ n xs c W X k hc)) fun t => by simpa only [E.chkT] using t
  | .idx a i => fun e' n xs c W X k hc => by
    cases e' <;> first | (simp only [E.chk] at hc; cases hc; done) | skip
    rename_i a' i' pos
    simp only [E.chk, Bool.and_eq_true] at hc
    obtain ⟨h1, h2, h3⟩ := hc
    exact with_plain (s_idx h1 (E.sound g h a a' n xs c W X k h2).1 (E.sound g h i i' n xs c W X k h3).1) fun t => by simpa only [E.chkT] using t
  | .slc a lo hi => fun e' n xs c W X k hc => by
    cases e' <;> first | (simp only [E.chk] at hc; cases hc; done) | skip
    rename_i a' i' pos
    cases i' <;> first | (simp only [E.chk] at hc; cases hc; done) | skip
    rename_i lo' hi' st p2
    cases st <;> first | (simp only [E.chk] at hc; cases hc; done) | skip
    simp only [E.chk, Bool.and_eq_true] at hc
    obtain ⟨h1, h2, h3⟩ := hc
    exact with_plain (s_slc (E.sound g h a a' n xs c W X k h1).1 (Es.soundO g h lo lo' n xs c W X k h2) (Es.soundO g h hi hi' n xs c W X k h3)) fun t => by simpa only [E.chkT] using t
  | .call f es => fun e' n xs c W X k hc => by
    cases e' <;> first | (simp only [E.chk] at hc; cases hc; done) | skip
    rename_i fn es' kws pos
    cases kws <;> first | (cases fn <;> (simp only [E.chk] at hc; cases hc); done) | skip
    cases fn <;> first | (simp only [E.chk] at hc; cases hc; done) | skip
    simp only [E.chk, Bool.and_eq_true] at hc
    obtain ⟨h1, h2, h0, h3⟩ := hc
    exact with_plain (s_call k h1 h2 (by rw [h0, h3]; rfl) (Es.sound g h es es' n xs c W X k h3)) fun t => by simpa only [E.chkT] using t
  | .new f es => fun e' n xs c W X k hc => by
    cases e' <;> first | (simp only [E.chk] at hc; cases hc; done) | skip
    rename_i fn es' kws pos
    cases kws <;> first | (cases fn <;> (simp only [E.chk] at hc; cases hc); done) | skip
    cases fn <;> first | (simp only [E.chk] at hc; cases hc; done) | skip
    simp only [E.chk, Bool.and_eq_true] at hc
    obtain ⟨h1, h2, h0, h3⟩ := hc
    exact with_plain (s_new k h1 h2 (by rw [h0, h3]; rfl) (Es.sound g h es es' n xs c W X k h3)) fun t => by simpa only [E.chkT] using t
  | .newS f es => fun e' n xs c W X k hc => by
    cases e' <;> first | (simp only [E.chk] at hc; cases hc; done) | skip
    rename_i fn es' kws pos
    cases es' with
    | nil => cases kws <;> cases fn <;> (simp only [E.chk] at hc; cases hc)
    | cons a r =>
      cases kws <;> first | (cases fn <;> (simp only [E.chk] at hc; cases hc); done) | skip
      cases fn <;> first | (simp only [E.chk] at hc; cases hc; done) | skip
      simp only [E.chk, Bool.and_eq_true, Bool.not_eq_true'] at hc
      obtain ⟨h1, h2, ⟨h3, h4⟩, h5⟩ := hc
      exact with_plain (s_newS k h1 h2 h3 h4 (Es.sound g h es _ n xs c W X k h5)) fun t => by simpa only [E.chkT] using t
  | .bif b es => fun e' n xs c W X k hc => by
    cases e' <;> first | (simp only [E.chk] at hc; cases hc; done) | skip
    rename_i fn es' kws pos
    cases kws <;> first | (cases fn <;> (simp only [E.chk] at hc; cases hc); done) | skip
    cases fn <;> first | (simp only [E.chk] at hc; cases hc; done) | skip
    simp only [E.chk, Bool.and_eq_true] at hc
    obtain ⟨h1, h2, h3, h0, h4⟩ := hc
    cases es' with
    | nil => cases h3
    | cons a r => exact with_plain (s_bif k h1 (of_decide_eq_true h2) h0 (Es.sound g h es _ n xs c W X k h4)) fun t => by simpa only [E.chkT] using t
  | .isi a many cs => fun e' n xs c W X k hc => by
    cases e' <;> first | (simp only [E.chk] at hc; cases hc; done) | skip
    rename_i fn es' kws pos
    match fn, es', kws, hc with
    | .Name x p, [a', d'], [], hc =>
      simp only [E.chk, Bool.and_eq_true] at hc
      obtain ⟨h1, h2, h3, h4, h5⟩ := hc
      exact with_plain (s_isi k h1 h5 h2 h3 (E.sound g h a a' n xs c W X k h4).1) fun t => by simpa only [E.chkT] using t
    | .Name x p, [], _, hc => simp only [E.chk] at hc; cases hc
    | .Name x p, [_], _, hc => simp only [E.chk] at hc; cases hc
    | .Name x p, _ :: _ :: _ :: _, _, hc => simp only [E.chk] at hc; cases hc
    | .Name x p, [_, _], _ :: _, hc => simp only [E.chk] at hc; cases hc
    | .BoolOp .., _, _, hc | .NamedExpr .., _, _, hc | .BinOp .., _, _, hc | .UnaryOp .., _, _, hc | .Lambda .., _, _, hc | .IfExp .., _, _, hc | .Dict .., _, _, hc | .Set .., _, _, hc | .ListComp .., _, _, hc | .SetComp .., _, _, hc | .DictComp .., _, _, hc
    | .GeneratorExp .., _, _, hc | .Await .., _, _, hc | .Yield .., _, _, hc | .YieldFrom .., _, _, hc | .Compare .., _, _, hc | .Call .., _, _, hc | .FormattedValue .., _, _, hc | .JoinedStr .., _, _, hc | .Constant .., _, _, hc | .Attribute .., _, _, hc
    | .Subscript .., _, _, hc | .Starred .., _, _, hc | .List .., _, _, hc | .Tuple .., _, _, hc | .Slice .., _, _, hc => simp only [E.chk] at hc; cases hc
  | .ise i many cs => fun e' n xs c W X k hc => by
    cases e' <;> first | (simp only [E.chk] at hc; cases hc; done) | skip
    rename_i fn es' kws pos
    match fn, es', kws, hc with
    | .Name x p, [a', d'], [], hc =>
      cases a' <;> first | (simp only [E.chk] at hc; cases hc; done) | skip
      simp only [E.chk, Bool.and_eq_true] at hc
      obtain ⟨h1, h2, h3, h4, h5⟩ := hc
      exact with_plain (s_ise k h1 h2 h3 h4 (of_decide_eq_true h5)) fun t => by simpa only [E.chkT] using t
    | .Name x p, [], _, hc => simp only [E.chk] at hc; cases hc
    | .Name x p, [_], _, hc => simp only [E.chk] at hc; cases hc
    | .Name x p, _ :: _ :: _ :: _, _, hc => simp only [E.chk] at hc; cases hc
    | .Name x p, [_, _], _ :: _, hc => simp only [E.chk] at hc; cases hc
    | .BoolOp .., _, _, hc | .NamedExpr .., _, _, hc | .BinOp .., _, _, hc | .UnaryOp .., _, _, hc | .Lambda .., _, _, hc | .IfExp .., _, _, hc | .Dict .., _, _, hc | .Set .., _, _, hc | .ListComp .., _, _, hc | .SetComp .., _, _, hc | .DictComp .., _, _, hc
    | .GeneratorExp .., _, _, hc | .Await .., _, _, hc | .Yield .., _, _, hc | .YieldFrom .., _, _, hc | .Compare .., _, _, hc | .Call .., _, _, hc | .FormattedValue .., _, _, hc | .JoinedStr .., _, _, hc | .Constant .., _, _, hc | .Attribute .., _, _, hc
    | .Subscript .., _, _, hc | .Starred .., _, _, hc | .List .., _, _, hc | .Tuple .., _, _, hc | .Slice .., _, _, hc => simp only [E.chk] at hc; cases hc
  | .meth o m es => fun e' n xs c W X k hc => by
    cases e' <;> first | (simp only [E.chk] at hc; cases hc; done) | skip
    rename_i fn es' kws pos
    cases kws <;> first | (cases fn <;> (simp only [E.chk] at hc; cases hc); done) | skip
    cases fn <;> first | (simp only [E.chk] at hc; cases hc; done) | skip
    simp only [E.chk, Bool.and_eq_true, decide_eq_true_eq] at hc
    obtain ⟨⟨rfl, h2, h3⟩, h4, h5, h0, h6⟩ := hc
    exact with_plain (s_meth k h2 h3 (by rw [h0, h6]; rfl) h4 (E.sound g h o _ n xs c W X k h5).1 (Es.sound g h es es' n xs c W X k h6)) fun t => by simpa only [E.chkT] using t
  | .attr o f => fun e' n xs c W X k hc => by
    cases e' <;> first | (simp only [E.chk] at hc; cases hc; done) | skip
    simp only [E.chk, Bool.and_eq_true, decide_eq_true_eq] at hc
    obtain ⟨rfl, h2, h3⟩ := hc
    exact with_plain (s_attr k h2 (E.sound g h o _ n xs c W X k h3).1) fun t => by simpa only [E.chkT] using t
  | .clm a b es => fun e' n xs c W X k hc => by
    cases e' <;> first | (simp only [E.chk] at hc; cases hc; done) | skip
    rename_i fn es' kws pos
    cases kws <;> first | (cases fn <;> (simp only [E.chk] at hc; cases hc); done) | skip
    cases fn <;> first | (simp only [E.chk] at hc; cases hc; done) | skip
    rename_i o' x ap
    cases o' <;> first | (simp only [E.chk] at hc; cases hc; done) | skip
    simp only [E.chk, Bool.and_eq_true, decide_eq_true_eq] at hc
    obtain ⟨⟨h1, h2⟩, ⟨rfl, h3⟩, h4, h5, h0, h6⟩ := hc
    cases es' with
    | nil => cases h5
    | cons a r => exact with_plain (s_clm k h1 h2 h3 h4 (by rw [h0, h6]; rfl) (Es.sound g h es _ n xs c W X k h6)) fun t => by simpa only [E.chkT] using t
  | .callv i es => fun e' n xs c W X k hc => by
    cases e' <;> first | (simp only [E.chk] at hc; cases hc; done) | skip
    rename_i fn es' kws pos
    cases kws <;> first | (cases fn <;> (simp only [E.chk] at hc; cases hc); done) | skip
    cases fn <;> first | (simp only [E.chk] at hc; cases hc; done) | skip
    simp only [E.chk, Bool.and_eq_true] at hc
    obtain ⟨h1, h2, h0, h3⟩ := hc
    cases es' with
    | nil => cases h2
    | cons a r => exact with_plain (s_callv k h1 (by rw [h0, h3]; rfl) (Es.sound g h es _ n xs c W X k h3)) fun t => by simpa only [E.chkT] using t
  | .cval a b => fun e' n xs c W X k hc => by
    cases e' <;> first | (simp only [E.chk] at hc; cases hc; done) | skip
    rename_i o' x pos
    cases o' <;> first | (simp only [E.chk] at hc; cases hc; done) | skip
    simp only [E.chk, Bool.and_eq_true, decide_eq_true_eq] at hc
    obtain ⟨h1, rfl⟩ := hc
    exact with_plain (s_cval k h1) fun t => by simpa only [E.chkT] using t
  | .fmt e => fun e' n xs c W X k hc => by
    cases e' <;> first | (simp only [E.chk] at hc; cases hc; done) | skip
    rename_i e' cv sp pos
    cases sp with
    | some z => simp only [E.chk] at hc; cases hc
    | none =>
      by_cases hm : cv = -1
      · subst hm
        simp only [E.chk] at hc
        exact with_plain (s_fmt (E.sound g h e e' n xs c W X k hc).1) fun t => by simpa only [E.chkT] using t
      · exfalso
        unfold E.chk at hc
        split at hc <;> first | contradiction | (simp_all; done)
  | .comp t x it ifs => fun e' n xs c W X k hc => by
    cases e' <;> first | (simp only [E.chk] at hc; cases hc; done) | skip
    rename_i x' gens scope pos
    match gens, hc with
    | [⟨t', i', ifs', z⟩], hc =>
      by_cases hz : z = 0
      · subst hz
        simp only [E.chk, Bool.and_eq_true, decide_eq_true_eq, Bool.not_eq_true'] at hc
        obtain ⟨⟨h1, h2⟩, ⟨h3, h4⟩, h5, h6, h7, h8, h9⟩ := hc
        exact with_plain (s_comp k h1 h3 h4 h5 (It.sound g h it t' i' n xs c W X k h6) h7 (fun X' k' => Es.soundD g h ifs ifs' n none _ W0 X' k' h8) fun X' k' => (E.sound g h x x' n none _ W0 X' k' h9).1) fun t => by simpa only [E.chkT] using t
      · exfalso
        unfold E.chk at hc
        split at hc <;> first | contradiction | (simp_all; done)
    | [], hc => simp only [E.chk] at hc; cases hc
    | _ :: _ :: _, hc => simp only [E.chk] at hc; cases hc
  | .fstr es => fun e' n xs c W X k hc => by
    cases e' <;> first | (simp only [E.chk] at hc; cases hc; done) | skip
    rename_i es' pos
    simp only [E.chk, Bool.and_eq_true] at hc
    obtain ⟨h1, h2⟩ := hc
    have hj := Es.soundJ g h es es' n xs c W X k h2
    match es', h1, hj with
    | [], h1, _ => cases h1
    | [a], _, hj =>
      match es, h2, hj with
      | .cons e .nil, h2, hj =>
        simp only [Es.tes] at hj
        cases hj with
        | cons p _ => exact with_plain (s_fstr1 p) fun t => by simpa only [E.chkT] using t
      | .nil, h2, _ => simp only [Es.chkJ] at h2; cases h2
      | .star _ _, h2, _ => simp only [Es.chkJ] at h2; cases h2
      | .cons _ (.star _ _), h2, _ => simp only [Es.chkJ, Bool.and_eq_true] at h2; cases h2.2
      | .cons _ (.cons _ _), h2, _ => simp only [Es.chkJ, Bool.and_eq_true] at h2; cases h2.2
    | a :: b :: r, _, hj => exact with_plain (s_fstr (by simp) hj) fun t => by simpa only [E.chkT] using t
theorem It.sound (g : G) (h : Option Py.X) : ∀ it : It, SI g h it
  | .over e => fun tg e' n xs c W X k hc => by
    simp only [It.chk] at hc
    exact i_over (E.sound g h e e' n xs c W X k hc).1
  | .range1 a => fun tg e' n xs c W X k hc => by
    obtain ⟨x, p, a', pos, rfl, h1, h2, h3⟩ := chk_range1 hc
    exact i_range1 k h1 h2 (E.sound g h a a' n xs c W X k h3).1
  | .range2 a b => fun tg e' n xs c W X k hc => by
    obtain ⟨x, p, a', b', pos, rfl, h1, h2, h3, h4, h5⟩ := chk_range2 hc
    exact i_range2 k h1 h2 h4 (E.sound g h a a' n xs c W X k h3).1 (E.sound g h b b' n xs c W X k h5).1
  | .enum a => fun tg e' n xs c W X k hc => by
    obtain ⟨es, kk, tp, x, p, a', pos, rfl, rfl, h1, h2, h3⟩ := chk_enum hc
    exact i_enum k h1 h2 (E.sound g h a a' n xs c W X k h3).1
theorem Es.sound (g : G) (h : Option Py.X) : ∀ es : Es, SA g h es
  | .nil => fun es' n xs c W X k hc => by
    cases es' with
    | nil => exact s_nil
    | cons a r => simp only [Es.chk] at hc; cases hc
  | .cons e r => fun es' n xs c W X k hc => by
    cases es' with
    | nil => simp only [Es.chk] at hc; cases hc
    | cons a r' =>
      simp only [Es.chk, Bool.and_eq_true] at hc
      exact s_cons hc.1.1 (E.sound g h e a n xs c W X k hc.1.2).1 (Es.sound g h r r' n xs c W X k hc.2)
  | .star e r => fun es' n xs c W X k hc => by
    cases es' with
    | nil => simp only [Es.chk] at hc; cases hc
    | cons a r' =>
      cases a <;> first | (simp only [Es.chk] at hc; cases hc; done) | skip
      simp only [Es.chk, Bool.and_eq_true] at hc
      exact s_star (E.sound g h e _ n xs c W X k hc.1).1 (Es.sound g h r r' n xs c W X k hc.2)
theorem Es.soundJ (g : G) (h : Option Py.X) : ∀ es : Es, SJ g h es
  | .nil => fun es' n xs c W X k hc => by
    cases es' with
    | nil => exact PJ.nil
    | cons a r => simp only [Es.chkJ] at hc; cases hc
  | .cons e r => fun es' n xs c W X k hc => by
    cases es' with
    | nil => simp only [Es.chkJ] at hc; cases hc
    | cons a r' =>
      simp only [Es.chkJ, Bool.and_eq_true] at hc
      exact PJ.cons (E.sound g h e a n xs c W X k hc.1).1 (Es.soundJ g h r r' n xs c W X k hc.2)
  | .star e r => fun es' n xs c W X k hc => by
    cases es' <;> (simp only [Es.chkJ] at hc; cases hc)
theorem Es.soundD (g : G) (h : Option Py.X) : ∀ es : Es, SD g h es
  | .nil => fun es' n xs c W X k hc => by
    cases es' with
    | nil => exact s_tests0
    | cons a r => simp only [Es.chkI] at hc; cases hc
  | .cons e .nil => fun es' n xs c W X k hc => by
    match es', hc with
    | [a], hc =>
      simp only [Es.chkI, Bool.and_eq_true] at hc
      exact s_tests1 ((E.sound g h e a n xs c W X k hc.1).2 hc.2)
    | [], hc => simp only [Es.chkI] at hc; cases hc
    | _ :: _ :: _, hc => simp only [Es.chkI] at hc; cases hc
  | .cons e (.cons _ _) => fun es' n xs c W X k hc => by
    simp only [Es.chkI] at hc; cases hc
  | .star e r => fun es' n xs c W X k hc => by
    cases es' <;> (simp only [Es.chkI] at hc; cases hc)
  | .cons e (.star _ _) => fun es' n xs c W X k hc => by
    simp only [Es.chkI] at hc; cases hc
theorem Es.soundN (g : G) (h : Option Py.X) : ∀ es : Es, SN g h es
  | .nil => fun es' pos n xs c W X k hc => by
    cases es' <;> (simp only [Es.chkN] at hc; cases hc)
  | .cons e .nil => fun es' pos n xs c W X k hc => by
    match es', hc with
    | [a], hc =>
      simp only [Es.chkN] at hc
      obtain ⟨p1, p2⟩ := E.sound g h e a n xs c W X k hc
      have e1 : Es.denAnd g h (.cons e .nil) = E.den g h e := funext fun ρ => funext fun μ => by simp only [Es.denAnd]
      have e2 : Es.denOr g h (.cons e .nil) = E.den g h e := funext fun ρ => funext fun μ => by simp only [Es.denOr]
      rw [e1, e2]
      refine ⟨⟨pe_one p1, fun t => pw_and1 (p2 ?_)⟩, pe_one p1, fun t => pw_or1 (p2 ?_)⟩
      · simp only [Es.chkT, Bool.and_eq_true] at t; exact t.1
      · simp only [Es.chkT, Bool.and_eq_true] at t; exact t.1
    | [], hc => simp only [Es.chkN] at hc; cases hc
    | _ :: _ :: _, hc => simp only [Es.chkN] at hc; cases hc
  | .cons e (.cons e2 r) => fun es' pos n xs c W X k hc => by
    match es', hc with
    | [], hc => simp only [Es.chkN] at hc; cases hc
    | a :: r', hc =>
      simp only [Es.chkN, Bool.and_eq_true] at hc
      obtain ⟨p1, p2⟩ := E.sound g h e a n xs c W X k hc.1
      obtain ⟨⟨q1, q2⟩, q3, q4⟩ := Es.soundN g h (.cons e2 r) r' pos n xs c W X k hc.2
      cases r' with
      | nil => cases r <;> (have hc2 := hc.2; simp only [Es.chkN] at hc2; cases hc2)
      | cons b r'' =>
        refine ⟨⟨s_and p1 q1, fun t => ?_⟩, s_or p1 q3, fun t => ?_⟩
        · simp only [Es.chkT, Bool.and_eq_true] at t
          exact tw_and (p2 t.1) (q2 (by simp only [Es.chkT, Bool.and_eq_true]; exact t.2))
        · simp only [Es.chkT, Bool.and_eq_true] at t
          exact tw_or (p2 t.1) (q4 (by simp only [Es.chkT, Bool.and_eq_true]; exact t.2))
  | .star e r => fun es' pos n xs c W X k hc => by
    cases es' <;> (simp only [Es.chkN] at hc; cases hc)
  | .cons e (.star _ _) => fun es' pos n xs c W X k hc => by
    match es', hc with
    | [], hc => simp only [Es.chkN] at hc; cases hc
    | [_], hc => simp only [Es.chkN] at hc; cases hc
    | _ :: _ :: _, hc => simp only [Es.chkN] at hc; cases hc
theorem Es.soundO (g : G) (h : Option Py.X) : ∀ es : Es, SO g h es
  | .nil => fun e' n xs c W X k hc => by
    cases e' with
    | none => exact s_part0
    | some a => simp only [Es.chkO] at hc; cases hc
  | .cons e .nil => fun e' n xs c W X k hc => by
    cases e' with
    | none => simp only [Es.chkO] at hc; cases hc
    | some a =>
      simp only [Es.chkO] at hc
      exact s_part1 (E.sound g h e a n xs c W X k hc).1
  | .cons e (.cons e2 r) => fun e' n xs c W X k hc => by
    cases e' <;> (simp only [Es.chkO] at hc; cases hc)
  | .star e r => fun e' n xs c W X k hc => by
    cases e' <;> (simp only [Es.chkO] at hc; cases hc)
  | .cons e (.star _ _) => fun e' n xs c W X k hc => by
    cases e' <;> (simp only [Es.chkO] at hc; cases hc)
end
end Py
end

section
set_option Elab.async false
set_option linter.all false
set_option maxRecDepth 100000
set_option maxHeartbeats 4000000
set_option autoImplicit false
/-! The Py layer, part 14: for, while. -/
namespace Py
open PySem L2
section
variable {X : Cx} {W : WX} {n : Nat} {g : G} {h : Option Py.X} {xs : Option (Nat × Addr)} {c : Ctx} {e a b : Expr} {pos : Pos}
variable {K : PySem.W.Frag} {mg : PySem.Str → Option Value} {φ φ' : List Addr} {H H' : Hp} {σ : L2.St} {ρ : Env} {μ : Store} {D : Ends}
/-- how a loop goes on -/
def NxW (K : PySem.W.Frag) (mg : PySem.Str → Option Value) (xs : Option (Nat × Addr)) (W : WX) (D : Ends) (φ : List Addr) (H : Hp) (f : Env → Store → SR) : L2.St → Hp → Prop := fun σ' H' =>
  ∃ φ' μ' ρ', Ex φ H φ' H' ∧ Rep K mg φ' μ' H' ∧ RS K mg xs φ' H' ρ' σ' ∧ postS K mg xs W (f ρ' μ') φ' H' D
theorem postS.turn {r : SR} {f : Env → Store → SR} (p : postS K mg xs W (r.turn f) φ H D) {N : L2.St → Hp → Prop} (hN : ∀ σ' H', NxW K mg xs W D φ H f σ' H' → N σ' H') : postS K mg xs W r φ H { D with nx := N, ct := N, bk := D.nx } := by
  cases r with
  | nx ρ1 μ1 => exact fun φ1 H1 σ1 e1 rep1 rs1 => hN _ _ ⟨φ1, μ1, ρ1, e1, rep1, rs1, postS.mono e1 p⟩
  | rt d μ1 => exact p
  | bk ρ1 μ1 => exact p
  | ct ρ1 μ1 => exact fun φ1 H1 σ1 e1 rep1 rs1 => hN _ _ ⟨φ1, μ1, ρ1, e1, rep1, rs1, postS.mono e1 p⟩
  | er x ρ1 μ1 => exact p
  | bad => exact p
/-! ### while -/
theorem z_whl {t : E} {b : Ss} {t' : Expr} {bs : List Stmt} (k : Cok n g h xs c W X) (ht : PT X t' (canT X.K X.mg xs W (mT (E.den g h t)))) (hb : PSs X bs (canS X.K X.mg xs W (Ss.den g h b))) :
    PS X (.While t' bs [] pos) (canS X.K X.mg xs W (St.den g h (.whl t b))) := by
  refine PS.imp (ps_while k.po ht hb) fun D σ H q => ?_
  obtain ⟨φ, μ, ρ, rep, rs, p⟩ := q
  simp only [St.den] at p
  refine ⟨fun m σ H => ∃ φ μ ρ, Rep X.K X.mg φ μ H ∧ RS X.K X.mg xs φ H ρ σ ∧ postS X.K X.mg xs W (whlF (fun ρ μ => testR (mT (E.den g h t) ρ μ) ρ) (fun ρ μ => Ss.den g h b ρ μ) m ρ μ) φ H D, ⟨_, φ, μ, ρ, rep, rs, p⟩, ?_⟩
  clear p rs rep
  rintro m σ H ⟨φ, μ, ρ, rep, rs, p⟩
  cases m with
  | zero => exact p.elim
  | succ m =>
    rw [whlF] at p
    refine ⟨φ, μ, ρ, rep, rs, ?_⟩
    cases e0 : mT (E.den g h t) ρ μ with
    | ok v μ1 =>
      rw [e0] at p
      intro φ1 H1 v' e1 rep1 rv
      cases rv
      cases v with
      | true =>
        refine ⟨NxW X.K X.mg xs W D φ1 H1 _, fun σ' H' nn => ?_, φ1, μ1, ρ, rep1, rs.mono e1, postS.turn (postS.mono e1 p) fun _ _ z => z⟩
        obtain ⟨φ2, μ2, ρ2, _, rep2, rs2, p2⟩ := nn
        exact ⟨m, Nat.lt_succ_self _, φ2, μ2, ρ2, rep2, rs2, p2⟩
      | false => exact p φ1 H1 σ e1 rep1 (rs.mono e1)
    | err x μ1 =>
      rw [e0] at p
      exact fun φ1 H1 cl d e1 rep1 rx => p φ1 H1 σ cl d e1 rep1 (rs.mono e1) rx
    | bad =>
      rw [e0] at p
      exact p
/-- while (x := e) op a -/
theorem z_whlW {i : Nat} {x : PySem.Str} {o : CO} {o' : CmpOp} {ee ea : E} {bs : List Stmt} {bb : Ss} {px p1 pc : Pos} (k : Cok n g h xs c W X) (h1 : c.N[i]? = some x) (h2 : locB c x = true) (h3 : c.exc ≠ some i) (ho : copB o o' = true) (hs : notSet a = true)
    (he : PE X e (canE X.K X.mg xs W (E.den g h ee))) (ha : PE X a (canE X.K X.mg xs W (E.den g h ea))) (hb : PSs X bs (canS X.K X.mg xs W (Ss.den g h bb))) :
    PS X (.While (.Compare (.NamedExpr (.Name x px) e p1) [o'] [a] pc) bs [] pos) (canS X.K X.mg xs W (St.den g h (.whlW i ee o ea bb))) := by
  obtain rfl := copB_ok ho
  obtain ⟨l1, l2⟩ := loc_ok k h2
  have hw : PEw X (.NamedExpr (.Name x px) e p1) (wNm (wE (canE X.K X.mg xs W (E.den g h ee))) i) := pew_named k.nd (by rw [k.N]; exact h1) l1 (pew_of he) l2
  have ht := ptw_cmp (pos := pc) (op_copR k.call.un o) hw ha (no_marks hs)
  refine PS.imp (ps_whileW k.po ht hb pss_nil) fun D σ H q => ?_
  obtain ⟨φ, μ, ρ, rep, rs, p⟩ := q
  simp only [St.den] at p
  refine ⟨fun m σ H => ∃ φ μ ρ, Rep X.K X.mg φ μ H ∧ RS X.K X.mg xs φ H ρ σ ∧ postS X.K X.mg xs W (whlF (fun ρ μ => (E.den g h ee ρ μ).st ρ fun x μ => testR ((E.den g h ea (ρ.set i (some x)) μ).bind fun y μ => (cop o x y μ).bind fun z μ => truth z μ) (ρ.set i (some x))) (fun ρ μ => Ss.den g h bb ρ μ) m ρ μ) φ H D, ⟨_, φ, μ, ρ, rep, rs, p⟩, ?_⟩
  clear p rs rep
  rintro m σ H ⟨φ, μ, ρ, rep, rs, p⟩
  cases m with
  | zero => exact p.elim
  | succ m =>
    rw [whlF] at p
    refine ⟨φ, μ, ρ, rep, rs, ?_⟩
    cases e0 : E.den g h ee ρ μ with
    | ok v μ1 =>
      rw [e0] at p
      simp only [R.st_ok] at p
      intro φ1 H1 v' e1 rep1 rv
      have rs1 : RS X.K X.mg xs φ1 H1 (ρ.set i (some v)) (σ.set i (some v')) := (rs.mono e1).set rv (by rw [k.exc]; exact h3)
      refine ⟨φ1, μ1, _, rep1, rs1, ?_⟩
      cases e2 : E.den g h ea (ρ.set i (some v)) μ1 with
      | ok y μ2 =>
        rw [e2] at p
        simp only [R.bind_ok] at p
        intro φ2 H2 y' e3 rep2 ry
        refine ⟨φ2, μ2, v, y, rep2, RD.mono e3 _ _ rv, ry, ?_⟩
        cases e4 : cop o v y μ2 with
        | ok z μ3 =>
          rw [e4] at p
          obtain ⟨kk, rfl⟩ : ∃ kk, z = .bl kk := by
            revert e4
            unfold cop
            cases o <;> simp only [] <;> (first | skip) <;> (repeat' split) <;> (intro e4; first | (cases e4; done) | (cases e4; exact ⟨_, rfl⟩) | (revert e4; cases eqD v y μ2 <;> simp only [R.bind_ok, R.bind_err, R.bind_bad] <;> intro e4 <;> first | (cases e4; exact ⟨_, rfl⟩) | cases e4) | (revert e4; cases inD v y μ2 <;> simp only [R.bind_ok, R.bind_err, R.bind_bad] <;> intro e4 <;> first | (cases e4; exact ⟨_, rfl⟩) | cases e4))
          intro φ3 H3 z' e5 rep3 rz
          cases rz
          refine ⟨kk, rfl, ?_⟩
          have e13 := (e1.trans e3).trans e5
          have rs3 := (rs1.mono e3).mono e5
          cases kk with
          | true =>
            refine ⟨NxW X.K X.mg xs W D φ3 H3 _, fun σ' H' nn => ?_, φ3, μ3, _, rep3, rs3, postS.turn (postS.mono e13 p) fun _ _ z => z⟩
            obtain ⟨φ4, μ4, ρ4, _, rep4, rs4, p4⟩ := nn
            exact ⟨m, Nat.lt_succ_self _, φ4, μ4, ρ4, rep4, rs4, p4⟩
          | false => exact p φ3 H3 _ e13 rep3 rs3
        | err z μ3 => exact (cop_noerr e4).elim
        | bad => rw [e4] at p; exact p
      | err z μ2 =>
        rw [e2] at p
        exact fun φ2 H2 cl d e3 rep2 rx => p φ2 H2 _ cl d (e1.trans e3) rep2 (rs1.mono e3) rx
      | bad => rw [e2] at p; exact p
    | err x μ1 =>
      rw [e0] at p
      exact fun φ1 H1 cl d e1 rep1 rx => p φ1 H1 σ cl d e1 rep1 (rs.mono e1) rx
    | bad =>
      rw [e0] at p
      exact p
/-! ### for -/
theorem for_turn {t : Tg} {bd : Ss} {d : Py.D} {v : V} {f : Env → Store → SR} (rep : Rep K mg φ μ H) (rs : RS K mg xs φ H ρ σ) (rd : RD K mg φ H d v) (p : postS K mg xs W (((t.den d ρ μ).seq fun ρ μ => Ss.den g h bd ρ μ).turn f) φ H D) {N : L2.St → Hp → Prop} (hN : ∀ σ' H', NxW K mg xs W D φ H f σ' H' → N σ' H') :
    canG K mg xs t v σ H fun σ2 H2 => canS K mg xs W (Ss.den g h bd) { D with nx := N, ct := N, bk := D.nx } σ2 H2 := by
  rcases Tg.den_nx (t := t) (d := d) (ρ := ρ) (μ := μ) with z | ⟨ρ', z0, z⟩
  · rw [z] at p; exact p.elim
  · rw [z] at p
    exact ⟨φ, μ, ρ, d, ρ', rep, rs, rd, z0, fun σ' rs' _ => ⟨φ, μ, ρ', rep, rs', postS.turn p hN⟩⟩
theorem z_for {t : Tg} {t' : Expr} {it : Py.It} {bd : Ss} {bs : List Stmt} (k : Cok n g h xs c W X) (hh : c.hot = false) (ht : t.chk c t' = true) (hs : notSet e = true) (hi : PI X t' e (canI X.K X.mg xs W (It.den g h it))) (hb : PSs X bs (canS X.K X.mg xs W (Ss.den g h bd))) :
    PS X (.For t' e bs [] pos) (canS X.K X.mg xs W (St.den g h (.for_ t it bd))) := by
  refine PS.imp (ps_for k.po (k.calm hh) hi (g_tg k ht) hb (no_fold hs)) fun D σ H q => ?_
  obtain ⟨φ, μ, ρ, rep, rs, p⟩ := q
  simp only [St.den] at p
  refine ⟨φ, μ, ρ, rep, rs, (postS.st (rel := Itw X.K X.mg) rs p).imp fun J H1 q => ?_⟩
  clear p
  obtain ⟨φ1, μ1, w, _, e1, rep1, hJ, p⟩ := q
  rw [forD_forW] at p
  split at p
  · rename_i m0 _
    refine ⟨fun i m σ H => ∃ φ' μ ρ, Ex φ1 H1 φ' H ∧ Rep X.K X.mg φ' μ H ∧ RS X.K X.mg xs φ' H ρ σ ∧ postS X.K X.mg xs W (forW (fun d ρ μ => (t.den d ρ μ).seq fun ρ μ => Ss.den g h bd ρ μ) w m i ρ μ) φ' H D, ⟨m0, φ1, μ1, ρ, Ex.refl, rep1, rs.mono e1, p⟩, ?_⟩
    clear p
    rintro i m σ2 H2 ⟨φ2, μ2, ρ2, e2, rep2, rs2, p⟩
    cases m with
    | zero => exact p.elim
    | succ m =>
      rw [forW] at p
      cases hd : nextD w i μ2 with
      | none => rw [hd] at p; exact p.elim
      | some r =>
        rw [hd] at p
        have := hJ φ2 H2 μ2 i r e2 rep2 hd
        cases r with
        | none => exact .inl ⟨this, p φ2 H2 σ2 Ex.refl rep2 rs2⟩
        | some d =>
          obtain ⟨go, yl⟩ := this
          refine .inr ⟨go, NxW X.K X.mg xs W D φ2 H2 (fun ρ μ => forW (fun d ρ μ => (t.den d ρ μ).seq fun ρ μ => Ss.den g h bd ρ μ) w m (i + 1) ρ μ), fun σ' H' nn => ?_, fun x H' y => ?_⟩
          · obtain ⟨φ3, μ3, ρ3, e3, rep3, rs3, p3⟩ := nn
            exact ⟨m, Nat.lt_succ_self _, φ3, μ3, ρ3, e2.trans e3, rep3, rs3, p3⟩
          · obtain ⟨ee, rep', rd⟩ := yl x H' y
            refine for_turn rep' (rs2.mono ee) rd (postS.mono ee p) fun σ' H' nn => ?_
            obtain ⟨φ3, μ3, ρ3, e3, rep3, rs3, p3⟩ := nn
            exact ⟨φ3, μ3, ρ3, ee.trans e3, rep3, rs3, p3⟩
  · exact p.elim
end
end Py
end

section
set_option Elab.async false
set_option linter.all false
set_option maxRecDepth 100000
set_option maxHeartbeats 4000000
set_option autoImplicit false
/-! The Py layer, part 15: raise, try, stores into objects. -/
namespace Py
open PySem L2
section
variable {P : Program} {w : World} {K : PySem.W.Frag} {mg : PySem.Str → Option Value} {base : Heap} {n : Nat} {g : G}
theorem FnAt.cold {key : String} {a : Addr} (F : FnAt P w K mg base n g key a) : FnAt P w K mg base n g.cold key a := by
  refine ⟨F.run.imp fun vs H Q E q => ?_, F.kp⟩
  obtain ⟨φ, μ, ds, _, _, p⟩ := q
  unfold G.callF at p
  (repeat' split at p) <;> exact p.elim
theorem GOk.cold (k : GOk P w K mg base n g) : GOk P w K mg base n g.cold where
  fn := fun f h => by
    obtain ⟨a, h1, h2⟩ := k.fn f h
    exact ⟨a, h1, h2.cold⟩
  glo := k.glo
  meth := fun c m key h => by
    obtain ⟨C, f, h1, h2, h3⟩ := k.meth c m key h
    exact ⟨C, f, h1, h2, h3.cold⟩
  prop := fun c m key h => by
    obtain ⟨C, p, f, h1, h2, h3⟩ := k.prop c m key h
    exact ⟨C, p, f, h1, h2, h3.cold⟩
  con := k.con
  fld := k.fld
  init := fun c key h => by
    obtain ⟨C, f, h1, h2, h3⟩ := k.init c key h
    exact ⟨C, f, h1, h2, h3.cold⟩
  clm := fun c m key h => by
    obtain ⟨C, mc, p, f, h1, h2, h3, h4⟩ := k.clm c m key h
    exact ⟨C, mc, p, f, h1, h2, h3, h4.cold⟩
  cval := k.cval
  sub := k.sub
  insc := k.insc
  bl := k.bl
  br := k.br
  nsq := k.nsq
  nfst := k.nfst
  dne := k.dne
  nb := k.nb
theorem GOk2.cold (k : GOk2 K mg g) : GOk2 K mg g.cold := k
end
section
variable {X : Cx} {W : WX} {n : Nat} {g : G} {h : Option Py.X} {xs : Option (Nat × Addr)} {c : Ctx} {e a b o : Expr} {pos : Pos}
variable {φ φ' : List Addr} {H H' : Hp} {σ : L2.St} {ρ : Env} {μ : Store} {D : Ends}
/-! ### raise -/
theorem z_raise {s : String} {x : PySem.Str} {m : PySem.Str} {j : Nat} {p p2 pos' : Pos} (k : Cok n g h xs c W X) (hh : c.hot = false) (hx : gname c s x = true) :
    PS X (.Raise (some (.Call (.Name x p) [.Constant (.str m) j p2] [] pos')) none pos) (canS X.K X.mg xs W (St.den g h (.raise s))) := by
  obtain ⟨rfl, h1, h2, h3⟩ := gname_ok k hx
  by_cases hs : g.exn s = true
  · obtain ⟨C, E⟩ := k.ok2.exc s hs
    have mk := pmk_own (X := X) (m := m) (j := j) (p := p) (p2 := p2) (pos := pos') PySem.F.excBase_ValueError E.ex E.at_ E.kp (raises_own E.is_.hs E.ty) h1 h2
    refine PS.imp (ps_raise (k.calm hh) k.call.tk mk) fun D σ H q => ?_
    obtain ⟨φ, μ, ρ, rep, rs, z⟩ := q
    simp only [St.den, hs, if_true] at z
    exact z φ H σ _ _ Ex.refl rep rs ⟨⟨C, E.at_, rfl⟩, rfl⟩
  · refine PS.imp ps_never fun D σ H q => ?_
    obtain ⟨φ, μ, ρ, rep, rs, z⟩ := q
    simp only [St.den, hs] at z
    exact z
/-! ### try -/
/-- the context of a suite -/
def Ctx.suite (c : Ctx) (i : Option Nat) : Ctx := { c with hot := true, exc := i }
theorem Cok.tr (k : Cok n g h xs c W X) (hx : xs = none) (hb : c.blk = false) {W' : WX} {pn : List (Addr × Obj)} {xe : Value → Shared → Prop} (tk : Takes (X.tr pn xe) W') (po : PassesOwn (model X.prog X.w) X.A X.env xe) : Cok n g h xs c W' (X.tr pn xe) where
  call := ⟨k.call.gok, k.call.un, k.call.room, tk⟩
  ok2 := k.ok2
  N := k.N
  nd := k.nd
  sc := k.sc
  kind := k.kind
  calm := k.calm
  po := po
  fn := k.fn
  stk := k.stk
  exc := k.exc
  exh := fun x i a _ e => by rw [hx] at e; cases e
theorem Cok.suite {x : Py.X} {i : Nat} {ad : Addr} {oe : Obj} {C : Addr} {pn : List (Addr × Obj)} (k : Cok n g h none c W X) (hb : c.blk = false) (hx : g.exn x.cls = true) (hm : X.mg (nm x.cls) = some (.ref C)) (hz : Zc (.ref C) none oe) (hd : ∃ vs, oe.data = .fields vs) :
    Cok n g.cold (some x) (some (i, ad)) (c.suite (some i)) (fun _ _ _ _ => False) (X.suite ad ((ad, oe) :: pn)) where
  call := ⟨k.call.gok.cold, k.call.un, .inl fun _ _ _ => rfl, takes0⟩
  ok2 := k.ok2.cold
  N := k.N
  nd := k.nd
  sc := k.sc
  kind := k.kind
  calm := fun z => nomatch z
  po := PassesOwn.never
  fn := k.fn
  stk := k.stk
  exc := rfl
  exh := fun y i' a' e1 e2 => by
    cases e1
    cases e2
    refine ⟨hx, C, hm, oe, fun pins σ H s I => ?_⟩
    obtain ⟨hget, _⟩ := I.pin (ad, oe) (List.mem_append.mpr (.inl List.mem_cons_self))
    obtain ⟨vs, hv⟩ := hd
    obtain ⟨oc, od, oda, osl⟩ := oe
    obtain ⟨h1, h2⟩ := hz
    dsimp only at h1 h2 hv
    subst h1 h2 hv
    exact ⟨hget, rfl, rfl, trivial⟩
theorem Cok.suite0 {x : Py.X} {ad : Addr} {pn : List (Addr × Obj)} (k : Cok n g h none c W X) (hb : c.blk = false) :
    Cok n g.cold (some x) none (c.suite none) (fun _ _ _ _ => False) (X.suite ad pn) where
  call := ⟨k.call.gok.cold, k.call.un, .inl fun _ _ _ => rfl, takes0⟩
  ok2 := k.ok2.cold
  N := k.N
  nd := k.nd
  sc := k.sc
  kind := k.kind
  calm := fun z => nomatch z
  po := PassesOwn.never
  fn := k.fn
  stk := k.stk
  exc := rfl
  exh := fun y i' a' e1 e2 => nomatch e2
/-- an except clause, entered -/
def tsA (K : PySem.W.Frag) (mg : PySem.Str → Option Value) (i : Nat) (g : G) (s : Ss) (ad : Addr) (cls : Value) (d : Option Addr) : TS := fun D σ H =>
  ∃ x C, mg (nm x.cls) = some (.ref C) ∧ cls = .ref C ∧ d = none ∧ g.exn x.cls = true ∧ ∃ φ μ ρ σ0, Rep K mg φ μ H ∧ RS K mg none φ H ρ σ0 ∧ σ = σ0.set i (some (.ref ad)) ∧ postS K mg (some (i, ad)) (fun _ _ _ _ => False) (Ss.den g.cold (some x) s (seen (some i) ρ) μ) φ H D
theorem RS.seen {K : PySem.W.Frag} {mg : PySem.Str → Option Value} (r : RS K mg none φ H ρ σ) {i : Nat} {ad : Addr} (hi : i < σ.length) : RS K mg (some (i, ad)) φ H (ρ.set i (some .opq)) (σ.set i (some (.ref ad))) := by
  refine ⟨by simp [r.len], fun j a e => ?_, fun j d e => ?_⟩
  · cases e
    exact List.getElem?_set_self hi
  · by_cases hj : i = j
    · subst hj
      have hl : i < ρ.length := by rw [← r.len]; exact hi
      rw [List.getElem?_set_self hl] at e
      cases e
      exact ⟨_, List.getElem?_set_self hi, trivial⟩
    · rw [List.getElem?_set_ne hj] at e
      rw [List.getElem?_set_ne hj]
      exact r.at_ j d e
theorem postS.clear {K : PySem.W.Frag} {mg : PySem.Str → Option Value} {i : Nat} {ad : Addr} {r : SR} (p : postS K mg none W (r.mapE (Py.clear (some i))) φ H D) :
    postS K mg (some (i, ad)) (fun _ _ _ _ => False) r φ H { nx := fun σ' H' => D.nx (σ'.set i none) H', rt := D.rt, bk := fun σ' H' => D.bk (σ'.set i none) H', ct := fun σ' H' => D.ct (σ'.set i none) H' } := by
  cases r with
  | nx ρ1 μ1 => exact fun φ1 H1 σ1 e1 rep1 rs1 => p φ1 H1 _ e1 rep1 rs1.clear
  | rt d μ1 => exact p
  | bk ρ1 μ1 => exact fun φ1 H1 σ1 e1 rep1 rs1 => p φ1 H1 _ e1 rep1 rs1.clear
  | ct ρ1 μ1 => exact fun φ1 H1 σ1 e1 rep1 rs1 => p φ1 H1 _ e1 rep1 rs1.clear
  | er x ρ1 μ1 => exact p.elim
  | bad => exact p.elim
theorem postS.try {t s : String} {sb sh : Ss} {i : Nat} {C : Addr} (ok2 : GOk2 X.K X.mg g) (hC : X.mg (nm s) = some (.ref C))
    (p : postS X.K X.mg none W (St.den g h (.try_ sb s (some i) sh) ρ μ) φ H D) : postS X.K X.mg none (wAs X.K (.ref C) i (tsA X.K X.mg i g sh) W D) (Ss.den g h sb ρ μ) φ H D := by
  simp only [St.den] at p
  cases e0 : Ss.den g h sb ρ μ with
  | er x ρ1 μ1 =>
    rw [e0] at p
    simp only [] at p
    intro φ1 H1 σ1 cl d e1 rep1 rs1 rx
    obtain ⟨⟨C', hC', rfl⟩, rd⟩ := rx
    cases e2 : g.exm x.cls s with
    | none => rw [e2] at p; exact p.elim
    | some b =>
      rw [e2] at p
      obtain ⟨h1, T, C2, h2, h3, h4⟩ := ok2.exm _ _ _ e2
      rw [hC'] at h2; cases h2
      rw [hC] at h3; cases h3
      refine ⟨b, h4, fun hb ad had => ?_, fun hb => ?_⟩
      · subst hb
        simp only [] at p
        split at p
        · rename_i hf
          have hd : d = none := by
            cases hfs : x.fs with
            | nil => rw [hfs] at rd; exact rd
            | cons y r => rw [hfs] at hf; cases hf
          subst hd
          exact ⟨x, C', hC', rfl, rfl, h1, φ1, μ1, ρ1, σ1, rep1, rs1, rfl, postS.mono e1 (postS.clear p)⟩
        · exact p.elim
      · subst hb
        exact p φ1 H1 σ1 _ _ e1 rep1 rs1 ⟨⟨C', hC', rfl⟩, rd⟩
  | nx ρ1 μ1 => rw [e0] at p; exact p
  | rt d μ1 => rw [e0] at p; exact p
  | bk ρ1 μ1 => rw [e0] at p; exact p
  | ct ρ1 μ1 => rw [e0] at p; exact p
  | bad => rw [e0] at p; exact p

/-- an except clause without a name, entered -/
def tsO (K : PySem.W.Frag) (mg : PySem.Str → Option Value) (g : G) (s : Ss) (ad : Addr) (cls : Value) (d : Option Addr) : TS := fun D σ H =>
  ∃ x, canS K mg none (fun _ _ _ _ => False) (Ss.den g.cold (some x) s) D σ H
theorem postS.suite0 {K : PySem.W.Frag} {mg : PySem.Str → Option Value} {r : SR} (p : postS K mg none W (r.mapE (Py.clear none)) φ H D) : postS K mg none (fun _ _ _ _ => False) r φ H D := by
  cases r with
  | nx ρ1 μ1 => exact p
  | rt d μ1 => exact p
  | bk ρ1 μ1 => exact p
  | ct ρ1 μ1 => exact p
  | er x ρ1 μ1 => exact p.elim
  | bad => exact p.elim
theorem postS.tryO {s : String} {sb sh : Ss} {C : Addr} (ok2 : GOk2 X.K X.mg g) (hC : X.mg (nm s) = some (.ref C))
    (p : postS X.K X.mg none W (St.den g h (.try_ sb s none sh) ρ μ) φ H D) : postS X.K X.mg none (wOnly X.K (.ref C) (tsO X.K X.mg g sh) W D) (Ss.den g h sb ρ μ) φ H D := by
  simp only [St.den] at p
  cases e0 : Ss.den g h sb ρ μ with
  | er x ρ1 μ1 =>
    rw [e0] at p
    simp only [] at p
    intro φ1 H1 σ1 cl d e1 rep1 rs1 rx
    obtain ⟨⟨C', hC', rfl⟩, rd⟩ := rx
    cases e2 : g.exm x.cls s with
    | none => rw [e2] at p; exact p.elim
    | some b =>
      rw [e2] at p
      obtain ⟨h1, T, C2, h2, h3, h4⟩ := ok2.exm _ _ _ e2
      rw [hC'] at h2; cases h2
      rw [hC] at h3; cases h3
      refine ⟨b, h4, fun hb ad had => ?_, fun hb => ?_⟩
      · subst hb
        simp only [] at p
        split at p
        · exact ⟨x, φ1, μ1, ρ1, rep1, rs1, postS.mono e1 (postS.suite0 p)⟩
        · exact p.elim
      · subst hb
        exact p φ1 H1 σ1 _ _ e1 rep1 rs1 ⟨⟨C', hC', rfl⟩, rd⟩
  | nx ρ1 μ1 => rw [e0] at p; exact p
  | rt d μ1 => rw [e0] at p; exact p
  | bk ρ1 μ1 => rw [e0] at p; exact p
  | ct ρ1 μ1 => rw [e0] at p; exact p
  | bad => rw [e0] at p; exact p
theorem Names.of {s : String} {C : Addr} (k : Cok n g h xs c W X) {x : PySem.Str} (hx : gname c s x = true) (hC : X.mg (nm s) = some (.ref C)) : Names X x (.ref C) := by
  obtain ⟨rfl, h1, h2, h3⟩ := gname_ok k hx
  exact ⟨h1, h2, .inl hC⟩
/-- the class that a clause names is one of ours -/
theorem exn_at {s : String} (k : GOk2 X.K X.mg g) (hs : g.exn s = true) : ∃ C, X.mg (nm s) = some (.ref C) := by
  obtain ⟨C, E⟩ := k.exc s hs
  exact ⟨C, E.at_⟩
theorem z_tryA {s : String} {x : PySem.Str} {y : PySem.Str} {i : Nat} {sb sh : Ss} {body suite : List Stmt} {b0 : Stmt} {np p' : Pos} (k : Cok n g h xs c W X) (hex : c.exc = none) (hbl : c.blk = false) (hx : gname c s x = true) (hs : g.exn s = true)
    (h1 : c.N[i]? = some y) (h2 : c.sc.lookup y = some .local)
    (hb : ∀ (W' : WX) (pn : List (Addr × Obj)) (xe : Value → Shared → Prop), Takes (X.tr pn xe) W' → PassesOwn (model X.prog X.w) X.A X.env xe → PSs (X.tr pn xe) body (canS X.K X.mg none W' (Ss.den g h sb)))
    (hu : ∀ (z : Py.X) (ad : Addr) (oe : Obj) (C : Addr) (pn : List (Addr × Obj)), g.exn z.cls = true → X.mg (nm z.cls) = some (.ref C) → Zc (.ref C) none oe → (∃ vs, oe.data = .fields vs) →
      PSs (X.suite ad ((ad, oe) :: pn)) (b0 :: suite) (canS X.K X.mg (some (i, ad)) (fun _ _ _ _ => False) (Ss.den g.cold (some z) sh))) :
    PS X (.Try body [.ExceptHandler (some (.Name x np)) (some y) (b0 :: suite) p'] [] [] pos) (canS X.K X.mg xs W (St.den g h (.try_ sb s (some i) sh))) := by
  obtain ⟨C, hC⟩ := exn_at k.ok2 hs
  have hxs : xs = none := by
    have := k.exc
    rw [hex] at this
    cases xs with
    | none => rfl
    | some p => cases this
  subst hxs
  obtain ⟨s1, s2⟩ := k.stk hbl
  have hN : X.N[i]? = some y := by rw [k.N]; exact h1
  refine PS.imp (ps_try_as (ts := tsA X.K X.mg i g sh) (c := .ref C) s1 s2 k.nd hN (by show X.env.scope.names.lookup y = _; rw [k.sc]; exact h2) (Names.of k hx hC) k.call.tk hb ?_) fun D σ H q => ?_
  · intro ad oe cls d pn hz hd
    refine ⟨fun pins s σ H D I q => ?_⟩
    obtain ⟨z, C', hC', rfl, rfl, hg, φ, μ, ρ, σ0, rep, rs, rfl, p⟩ := q
    have hl : i < σ0.length := by
      have := I.len
      rw [List.length_set] at this
      rw [this]
      exact (List.getElem?_eq_some_iff.mp hN).1
    exact (hu z ad oe C' pn hg hC' hz hd).run pins s _ H D I ⟨φ, μ, _, rep, RS.seen rs hl, p⟩
  · obtain ⟨φ, μ, ρ, rep, rs, p⟩ := q
    exact ⟨φ, μ, ρ, rep, rs, postS.try (t := s) k.ok2 hC p⟩
theorem z_tryO {s : String} {x : PySem.Str} {sb sh : Ss} {body suite : List Stmt} {b0 : Stmt} {np p' : Pos} (k : Cok n g h xs c W X) (hex : c.exc = none) (hbl : c.blk = false) (hx : gname c s x = true) (hs : g.exn s = true)
    (hb : ∀ (W' : WX) (pn : List (Addr × Obj)) (xe : Value → Shared → Prop), Takes (X.tr pn xe) W' → PassesOwn (model X.prog X.w) X.A X.env xe → PSs (X.tr pn xe) body (canS X.K X.mg none W' (Ss.den g h sb)))
    (hu : ∀ (z : Py.X) (ad : Addr) (pn : List (Addr × Obj)), PSs (X.suite ad pn) (b0 :: suite) (canS X.K X.mg none (fun _ _ _ _ => False) (Ss.den g.cold (some z) sh))) :
    PS X (.Try body [.ExceptHandler (some (.Name x np)) none (b0 :: suite) p'] [] [] pos) (canS X.K X.mg xs W (St.den g h (.try_ sb s none sh))) := by
  obtain ⟨C, hC⟩ := exn_at k.ok2 hs
  have hxs : xs = none := by
    have := k.exc
    rw [hex] at this
    cases xs with
    | none => rfl
    | some p => cases this
  subst hxs
  obtain ⟨s1, s2⟩ := k.stk hbl
  refine PS.imp (ps_try_only (ts := tsO X.K X.mg g sh) (c := .ref C) s1 s2 (Names.of k hx hC) k.call.tk hb ?_) fun D σ H q => ?_
  · intro ad oe cls d pn hz hd
    refine ⟨fun pins s σ H D I q => ?_⟩
    obtain ⟨z, q⟩ := q
    exact (hu z ad _).run pins s σ H D I q
  · obtain ⟨φ, μ, ρ, rep, rs, p⟩ := q
    exact ⟨φ, μ, ρ, rep, rs, postS.tryO k.ok2 hC p⟩
/-! ### stores -/
theorem z_setA {f : String} {eo ev : E} {pos' : Pos} (k : Cok n g h xs c W X) (ho : PE X o (canE X.K X.mg xs W (E.den g h eo))) (hv : PE X e (canE X.K X.mg xs W (E.den g h ev))) :
    PS X (.Assign [.Attribute o (nm f) pos'] e pos) (canS X.K X.mg xs W (St.den g h (.setA eo f ev))) := by
  refine PS.imp (ps_fld ho hv (by cases e <;> rfl)) fun D σ H q => ?_
  obtain ⟨φ, μ, ρ, rep, rs, p⟩ := q
  simp only [St.den] at p
  refine ⟨φ, μ, ρ, rep, rs, (postS.st (rel := RD X.K X.mg) rs p).imp fun v H1 q => ?_⟩
  clear p
  obtain ⟨φ1, μ1, dv, _, e1, rep1, rv, p⟩ := q
  refine ⟨φ1, μ1, ρ, rep1, rs.mono e1, (postS.st (rel := RD X.K X.mg) (rs.mono e1) p).imp fun y H2 q => ?_⟩
  clear p
  obtain ⟨φ2, μ2, d, hden, e2, rep2, ry, p⟩ := q
  clear hden
  split at p
  · rename_i μ3 e3
    unfold setAD at e3
    split at e3
    · rename_i l
      split at e3
      · rename_i cc fs hl
        split at e3
        · rename_i hc
          cases e3
          obtain ⟨a, h1, rfl⟩ := ry
          obtain ⟨a', h2, C, dx, fl, h3, h4, h5⟩ := rep2.at_ l _ hl
          rw [h1] at h2; cases h2
          obtain ⟨C0, own, na⟩ := k.call.gok.fld _ _ hc.1
          obtain rfl := own_eq own h3
          refine ⟨a, _, dx, fl, rfl, h4, own.cl, na, by rw [h5.length]; exact hc.2, ?_⟩
          have hp : Ex φ2 H2 φ2 (upd H2 a (.ins C dx (L2.putF (nm f) v fl))) := Ex.put (by rw [h4]; trivial)
          refine p φ2 _ σ hp (rep2.put h1 (by rw [h4]; trivial) ⟨C, dx, _, h3, upd_same, (RF.put h5 (RD.mono e2 _ _ rv)).mono hp⟩) (((rs.mono e1).mono e2).mono hp)
        · cases e3
      · cases e3
    · cases e3
  · exact p.elim
/-- o[i] = v by values, at the slots -/
def SetC (X : Cx) (r : V → V → V → L2.St → Hp → (Hp → Prop) → Prop) : Prop := ∀ (pins : List (Addr × Obj)) (s : Shared) (σ : L2.St) (H : Hp) (o i v : V) (ov iv u : Value) (Q : Hp → Prop), Inv X pins σ H s → RelV o ov → RelV i iv → RelV v u → r o i v σ H Q →
  wpAny (model X.prog X.w) X.A (setItem ov iv u) (fun _ s' => ∃ H', Inv X pins σ H' s' ∧ Q H') X.xe s
def set3 (X : Cx) (W : WX) (g : G) : V → V → V → L2.St → Hp → (Hp → Prop) → Prop := fun x y z σ H Q =>
  ∃ φ μ a b d, Rep X.K X.mg φ μ H ∧ RD X.K X.mg φ H a x ∧ RD X.K X.mg φ H b y ∧ RD X.K X.mg φ H d z ∧ post X.K X.mg (RD X.K X.mg) W (setIR g a b d μ) φ H σ fun _ H' => Q H'
theorem set_any (c : Call X W n g) : SetC X (set3 X W g) := by
  intro pins s σ H o i v ov iv u Q I ro ri rv h
  obtain ⟨φ, μ, a, b, d, rep, ra, rb, rd, p⟩ := h
  unfold setIR at p
  split at p
  · rename_i k e
    obtain ⟨i0, q, C, dx, l, fs, rfl, hμ, hφ, rfl, hm, hH, hF⟩ := ins_at rep ra e
    split at p
    · rename_i key e3
      split at p
      · rename_i hn
        cases ro
        obtain ⟨mA, J, _⟩ := ins_get I.hok hH
        obtain ⟨od, J, _⟩ := J.look
        obtain ⟨m, hF0⟩ := I.fr
        obtain ⟨C0, f, own, me, fa⟩ := c.gok.meth _ _ _ e3
        obtain rfl := own_eq own hm
        obtain ⟨C1, own1, hq⟩ := c.gok.nsq _ hn
        obtain rfl := own_eq own1 hm
        refine PySem.W.ksp_setItem hF0 I.ok.mod.kin J hq me.at_ me.fn (thn (callF_run fa ((c.hot0 p).mono (by omega)) c.tk I (show Vals [V.ref q, i, v] [.ref q, iv, u] from .cons rfl (.cons ri (.cons rv .nil))) rep (RDs.cons ra (RDs.cons rb (RDs.cons rd RDs.nil))) p) fun r s' hr => ?_)
        obtain ⟨w, H', I', _, q'⟩ := hr
        exact ⟨H', I', q'⟩
      · exact p.elim
    · exact p.elim
  · split at p
    · rename_i μ4 e4
      unfold setID at e4
      split at e4
      · rename_i l kk _
        split at e4
        · rename_i ds hl
          split at e4
          · rename_i j hj
            cases e4
            obtain ⟨q, h1, rfl⟩ := ra
            obtain ⟨q', h2, vs, h4, h5⟩ := rep.at_ l _ hl
            rw [h1] at h2; cases h2
            cases rb
            refine set_list pins s σ H _ _ v ov iv u Q I ro ri rv ⟨q, vs, kk, j, rfl, rfl, h4, by rw [h5.length]; exact hj, ?_⟩
            have hp : Ex φ H φ (upd H q (.lst (vs.set j v))) := Ex.put (by rw [h4]; trivial)
            exact p φ _ .non hp (rep.put h1 (by rw [h4]; trivial) ⟨_, upd_same, (RDs.set j h5 rd).mono hp⟩) rfl
          · cases e4
        · cases e4
      · cases e4
    · exact p.elim
theorem pg_subC {i : Expr} {to ti : TE} {r : V → V → V → L2.St → Hp → (Hp → Prop) → Prop} {pos' : Pos} (ho : PE X o to) (hi : PE X i ti) (hs : SetC X r) (hx : okIx i = true) : PG X (.Subscript o i pos') (fun v σ H Q => to σ H fun x H1 => ti σ H1 fun y H2 => r x y v σ H2 fun H3 => Q σ H3) := by
  have ea : ∀ v, assign (.Subscript o i pos') X.env v = (do
      let a ← holding [v] (eval o X.env)
      let b ← holding [v, a] (eval i X.env)
      standAt pos'
      holding [v, a, b] (setItem a b v)
      release [v, a, b] []) := by intro v; cases i <;> first | rfl | cases hx
  refine ⟨fun pins s σ H v u Q I rv h => ?_⟩
  rw [ea]
  refine wpAny_bind (wpAny_holding (thn (ho.run pins s σ H _ I h) fun a s1 ha => ?_))
  obtain ⟨x, H1, I1, r1, q1⟩ := ha
  refine wpAny_bind (wpAny_holding (thn (hi.run pins s1 σ H1 _ I1 q1) fun b s2 hb => ?_))
  obtain ⟨y, H2, I2, r2, q2⟩ := hb
  refine wpAny_bind (wpAny_standAt (wpAny_bind (wpAny_holding (thn (hs pins s2 σ H2 x y v a b u _ I2 r1 r2 rv q2) fun _ s3 hc => ?_))))
  obtain ⟨H3, I3, q3⟩ := hc
  exact wpAny_release ⟨σ, H3, I3, q3⟩
theorem z_setI {eo ei ev : E} {i : Expr} {pos' : Pos} (k : Cok n g h xs c W X) (hi : okIx i = true) (ho : PE X o (canE X.K X.mg xs W (E.den g h eo))) (hii : PE X i (canE X.K X.mg xs W (E.den g h ei))) (hv : PE X e (canE X.K X.mg xs W (E.den g h ev))) :
    PS X (.Assign [.Subscript o i pos'] e pos) (canS X.K X.mg xs W (St.den g h (.setI eo ei ev))) := by
  have hg := pg_subC (X := X) (pos' := pos') ho hii (set_any k.call) hi
  refine PS.imp (ps_asg hv hg (by cases e <;> rfl) (by cases e <;> rfl) (by rfl)) fun D σ H q => ?_
  obtain ⟨φ, μ, ρ, rep, rs, p⟩ := q
  simp only [St.den] at p
  refine ⟨φ, μ, ρ, rep, rs, (postS.st (rel := RD X.K X.mg) rs p).imp fun v H1 q => ?_⟩
  clear p
  obtain ⟨φ1, μ1, dv, _, e1, rep1, rv, p⟩ := q
  refine ⟨φ1, μ1, ρ, rep1, rs.mono e1, (postS.st (rel := RD X.K X.mg) (rs.mono e1) p).imp fun y H2 q => ?_⟩
  clear p
  obtain ⟨φ2, μ2, d, hden, e2, rep2, ry, p⟩ := q
  clear hden
  have rs2 := (rs.mono e1).mono e2
  refine ⟨φ2, μ2, ρ, rep2, rs2, (postS.st (rel := RD X.K X.mg) rs2 p).imp fun z H3 q => ?_⟩
  clear p
  obtain ⟨φ3, μ3, dk, hden, e3, rep3, rz, p⟩ := q
  clear hden
  have rs3 := rs2.mono e3
  refine ⟨φ3, μ3, d, dk, dv, rep3, RD.mono e3 _ _ ry, rz, RD.mono e3 _ _ (RD.mono e2 _ _ rv), (postS.st (rel := RD X.K X.mg) rs3 p).imp fun w H4 q => ?_⟩
  obtain ⟨φ4, μ4, dw, _, e4, rep4, _, p4⟩ := q
  exact p4 φ4 H4 σ Ex.refl rep4 (rs3.mono e4)
end
end Py
end

section
set_option Elab.async false
set_option linter.all false
set_option maxRecDepth 100000
set_option maxHeartbeats 4000000
set_option autoImplicit false
/-! The Py layer, part 18: every statement means what its form says. -/
namespace Py
open PySem L2
def ownsB (scope : Scope) (y : PySem.Str) : Bool := scope.names.any fun (n, k) => n == y && (k == .local || k == .cell)
/-- the comprehension's list goes straight into the name -/
def swB (c : Ctx) : Expr → Expr → Bool
  | .Name y py, .ListComp _ _ scope pos => !(decide (c.sc.lookup y = some .local) && (py.line == pos.line && !ownsB scope y))
  | .Name _ _, e => notComp e
  | _, _ => true
theorem sw_no {c : Ctx} {t e : Expr} {k : Nat} {env : PySem.Env} (hsc : env.scope.names = c.sc) (h : swB c t e = true) : swapsWithSole [t] e k env = pure false := by
  show swapsWith e (some t) k env = pure false
  cases t <;> first | (cases e <;> rfl) | skip
  rename_i y py
  cases e <;> first | rfl | (cases h; done) | skip
  rename_i x gs scope pos
  simp only [swB, Bool.not_eq_true', Bool.and_eq_false_iff, decide_eq_false_iff_not, Bool.not_eq_false'] at h
  unfold swapsWith
  have hk : (env.kindOf y == some .local) = decide (c.sc.lookup y = some .local) := by
    have : env.kindOf y = c.sc.lookup y := by rw [← hsc]; rfl
    rw [this]
    by_cases hl : c.sc.lookup y = some .local
    · rw [hl]; decide
    · simp only [hl, decide_false]
      cases hq : c.sc.lookup y with
      | none => rfl
      | some kk => cases kk <;> first | rfl | (exact (hl hq).elim)
  show (pure (env.blockKind == .function && env.kindOf y == some .local && py.line == pos.line && !(ownsB scope y)) : Sem Bool) = pure false
  congr 1
  rw [hk]
  rcases h with h | h | h
  · simp [h]
  · simp [h]
  · simp [h]
def setCB (g : Gs) (c : Ctx) : Tg → E → Expr → Expr → Bool
  | .name i, .comp t x it ifs, .Name y py, .ListComp x' [⟨t', i', ifs', 0⟩] scope pos =>
    E.chk g c (.comp t x it ifs) (.ListComp x' [⟨t', i', ifs', 0⟩] scope pos) && ((decide (c.N[i]? = some y) && decide (c.sc.lookup y = some .local)) && (decide (c.exc ≠ some i) && ((py.line == pos.line) && !ownsB scope y)))
  | _, _, _, _ => false
mutual
def St.chk (g : Gs) (c : Ctx) : St → Stmt → Bool
  | .nope, _ => true
  | .expr e, .Expr e' _ => notComp e' && E.chk g c e e'
  | .set t e, .Assign [t'] e' _ => (Tg.chk c t t' && (plainSet t' e' && (E.chk g c e e' && swB c t' e'))) || setCB g c t e t' e'
  | .setA o f e, .Assign [.Attribute o' x _] e' _ => decide (x = nm f) && (E.chk g c o o' && E.chk g c e e')
  | .setI o i e, .Assign [.Subscript o' i' _] e' _ => okIx i' && (E.chk g c o o' && (E.chk g c i i' && E.chk g c e e'))
  | .aug i o e, .AugAssign (.Name x _) o' e' _ => (decide (c.N[i]? = some x) && (locB c x && decide (c.exc ≠ some i))) && ((opB o o' && augB o) && E.chk g c e e')
  | .ret e, .Return (some e') _ => E.chk g c e e'
  | .retN, .Return none _ => true
  | .iff t a b, .If t' a' b' _ => (E.chk g c t t' && E.chkT g c t t') && (Ss.chk g c a a' && Ss.chk g c b b')
  | .whl t b, .While t' b' [] _ => (E.chk g c t t' && E.chkT g c t t') && Ss.chk g c b b'
  | .whlW i e o a b, .While (.Compare (.NamedExpr (.Name x _) e' _) [o'] [a'] _) b' [] _ => (decide (c.N[i]? = some x) && (locB c x && decide (c.exc ≠ some i))) && ((copB o o' && notSet a') && ((E.chk g c e e' && E.chk g c a a') && Ss.chk g c b b'))
  | .for_ t it b, .For t' i' b' [] _ => !c.hot && (Tg.chk c t t' && (notSet i' && (It.chk g c t' it i' && Ss.chk g c b b')))
  | .raise s, .Raise (some (.Call (.Name x _) [.Constant (.str _) _ _] [] _)) none _ => !c.hot && gname c s x
  | .try_ b s (some i) u, .Try b' [.ExceptHandler (some (.Name x _)) (some y) (u0 :: u') _] [] [] _ => (decide (c.exc = none) && !c.blk) && ((gname c s x && g.exn s) && ((decide (c.N[i]? = some y) && decide (c.sc.lookup y = some .local)) && (Ss.chk g c b b' && Ss.chk g (c.suite (some i)) u (u0 :: u'))))
  | .try_ b s none u, .Try b' [.ExceptHandler (some (.Name x _)) none (u0 :: u') _] [] [] _ => (decide (c.exc = none) && !c.blk) && ((gname c s x && g.exn s) && (Ss.chk g c b b' && Ss.chk g (c.suite none) u (u0 :: u')))
  | .pass, .Pass _ => true
  | .brk, .Break _ => true
  | .cont, .Continue _ => true
  | _, _ => false
def Ss.chk (g : Gs) (c : Ctx) : Ss → List Stmt → Bool
  | .nil, [] => true
  | .cons s r, s' :: r' => St.chk g c s s' && Ss.chk g c r r'
  | _, _ => false
end
def SS (g : G) (h : Option Py.X) (s : St) : Prop := ∀ (s' : Stmt) (n : Nat) (xs : Option (Nat × Addr)) (c : Ctx) (W : WX) (X : Cx), Cok n g h xs c W X → St.chk g c s s' = true → PS X s' (canS X.K X.mg xs W (St.den g h s))
def SSs (g : G) (h : Option Py.X) (s : Ss) : Prop := ∀ (s' : List Stmt) (n : Nat) (xs : Option (Nat × Addr)) (c : Ctx) (W : WX) (X : Cx), Cok n g h xs c W X → Ss.chk g c s s' = true → PSs X s' (canS X.K X.mg xs W (Ss.den g h s))
section
variable {g : Gs} {c : Ctx} {s' : Stmt}
theorem chk_expr {e : E} (hc : St.chk g c (.expr e) s' = true) : ∃ e' p, s' = .Expr e' p ∧ notComp e' = true ∧ E.chk g c e e' = true := by
  rw [St.chk.eq_def] at hc
  split at hc <;> first | (cases hc; done) | (rename_i h; cases h; done) | skip
  rename_i h; cases h
  exact ⟨_, _, rfl, and2 hc⟩
theorem chk_set {t : Tg} {e : E} (hc : St.chk g c (.set t e) s' = true) : ∃ t' e' p, s' = .Assign [t'] e' p ∧ ((Tg.chk c t t' && (plainSet t' e' && (E.chk g c e e' && swB c t' e'))) || setCB g c t e t' e') = true := by
  rw [St.chk.eq_def] at hc
  split at hc <;> first | (cases hc; done) | (rename_i h; cases h; done) | skip
  rename_i h; cases h
  exact ⟨_, _, _, rfl, hc⟩
theorem chk_setA {o e : E} {f : String} (hc : St.chk g c (.setA o f e) s' = true) : ∃ o' x p e' p', s' = .Assign [.Attribute o' x p] e' p' ∧ (decide (x = nm f) && (E.chk g c o o' && E.chk g c e e')) = true := by
  rw [St.chk.eq_def] at hc
  split at hc <;> first | (cases hc; done) | (rename_i h; cases h; done) | skip
  rename_i h; cases h
  exact ⟨_, _, _, _, _, rfl, hc⟩
theorem chk_setI {o i e : E} (hc : St.chk g c (.setI o i e) s' = true) : ∃ o' i' p e' p', s' = .Assign [.Subscript o' i' p] e' p' ∧ (okIx i' && (E.chk g c o o' && (E.chk g c i i' && E.chk g c e e'))) = true := by
  rw [St.chk.eq_def] at hc
  split at hc <;> first | (cases hc; done) | (rename_i h; cases h; done) | skip
  rename_i h; cases h
  exact ⟨_, _, _, _, _, rfl, hc⟩
theorem chk_aug {i : Nat} {o : BO} {e : E} (hc : St.chk g c (.aug i o e) s' = true) : ∃ x p o' e' p', s' = .AugAssign (.Name x p) o' e' p' ∧ ((decide (c.N[i]? = some x) && (locB c x && decide (c.exc ≠ some i))) && ((opB o o' && augB o) && E.chk g c e e')) = true := by
  rw [St.chk.eq_def] at hc
  split at hc <;> first | (cases hc; done) | (rename_i h; cases h; done) | skip
  rename_i h; cases h
  exact ⟨_, _, _, _, _, rfl, hc⟩
theorem chk_ret {e : E} (hc : St.chk g c (.ret e) s' = true) : ∃ e' p, s' = .Return (some e') p ∧ E.chk g c e e' = true := by
  rw [St.chk.eq_def] at hc
  split at hc <;> first | (cases hc; done) | (rename_i h; cases h; done) | skip
  rename_i h; cases h
  exact ⟨_, _, rfl, hc⟩
theorem chk_retN (hc : St.chk g c .retN s' = true) : ∃ p, s' = .Return none p := by
  rw [St.chk.eq_def] at hc
  split at hc <;> first | (rename_i h; cases h; done) | (exact ⟨_, rfl⟩) | (cases hc; done) | skip
theorem chk_iff {t : E} {a b : Ss} (hc : St.chk g c (.iff t a b) s' = true) : ∃ t' a' b' p, s' = .If t' a' b' p ∧ ((E.chk g c t t' && E.chkT g c t t') && (Ss.chk g c a a' && Ss.chk g c b b')) = true := by
  rw [St.chk.eq_def] at hc
  split at hc <;> first | (cases hc; done) | (rename_i h; cases h; done) | skip
  rename_i h; cases h
  exact ⟨_, _, _, _, rfl, hc⟩
theorem chk_whl {t : E} {b : Ss} (hc : St.chk g c (.whl t b) s' = true) : ∃ t' b' p, s' = .While t' b' [] p ∧ ((E.chk g c t t' && E.chkT g c t t') && Ss.chk g c b b') = true := by
  rw [St.chk.eq_def] at hc
  split at hc <;> first | (cases hc; done) | (rename_i h; cases h; done) | skip
  rename_i h; cases h
  exact ⟨_, _, _, rfl, hc⟩
theorem chk_whlW {i : Nat} {e a : E} {o : CO} {b : Ss} (hc : St.chk g c (.whlW i e o a b) s' = true) : ∃ x px e' p1 o' a' p2 b' p, s' = .While (.Compare (.NamedExpr (.Name x px) e' p1) [o'] [a'] p2) b' [] p ∧
    ((decide (c.N[i]? = some x) && (locB c x && decide (c.exc ≠ some i))) && ((copB o o' && notSet a') && ((E.chk g c e e' && E.chk g c a a') && Ss.chk g c b b'))) = true := by
  rw [St.chk.eq_def] at hc
  split at hc <;> first | (cases hc; done) | (rename_i h; cases h; done) | skip
  rename_i h; cases h
  exact ⟨_, _, _, _, _, _, _, _, _, rfl, hc⟩
theorem chk_for {t : Tg} {it : It} {b : Ss} (hc : St.chk g c (.for_ t it b) s' = true) : ∃ t' i' b' p, s' = .For t' i' b' [] p ∧ (!c.hot && (Tg.chk c t t' && (notSet i' && (It.chk g c t' it i' && Ss.chk g c b b')))) = true := by
  rw [St.chk.eq_def] at hc
  split at hc <;> first | (cases hc; done) | (rename_i h; cases h; done) | skip
  rename_i h; cases h
  exact ⟨_, _, _, _, rfl, hc⟩
theorem chk_raise {s : String} (hc : St.chk g c (.raise s) s' = true) : ∃ x p m j p2 p3 p4, s' = .Raise (some (.Call (.Name x p) [.Constant (.str m) j p2] [] p3)) none p4 ∧ (!c.hot && gname c s x) = true := by
  rw [St.chk.eq_def] at hc
  split at hc <;> first | (cases hc; done) | (rename_i h; cases h; done) | skip
  rename_i h; cases h
  exact ⟨_, _, _, _, _, _, _, rfl, hc⟩
theorem chk_tryA {s : String} {i : Nat} {b u : Ss} (hc : St.chk g c (.try_ b s (some i) u) s' = true) : ∃ b' x p y u0 u' p' p2, s' = .Try b' [.ExceptHandler (some (.Name x p)) (some y) (u0 :: u') p'] [] [] p2 ∧
    ((decide (c.exc = none) && !c.blk) && ((gname c s x && g.exn s) && ((decide (c.N[i]? = some y) && decide (c.sc.lookup y = some .local)) && (Ss.chk g c b b' && Ss.chk g (c.suite (some i)) u (u0 :: u'))))) = true := by
  rw [St.chk.eq_def] at hc
  split at hc <;> first | (cases hc; done) | (rename_i h; cases h; done) | skip
  rename_i h; cases h
  exact ⟨_, _, _, _, _, _, _, _, rfl, hc⟩
theorem chk_tryO {s : String} {b u : Ss} (hc : St.chk g c (.try_ b s none u) s' = true) : ∃ b' x p u0 u' p' p2, s' = .Try b' [.ExceptHandler (some (.Name x p)) none (u0 :: u') p'] [] [] p2 ∧
    ((decide (c.exc = none) && !c.blk) && ((gname c s x && g.exn s) && (Ss.chk g c b b' && Ss.chk g (c.suite none) u (u0 :: u')))) = true := by
  rw [St.chk.eq_def] at hc
  split at hc <;> first | (cases hc; done) | (rename_i h; cases h; done) | skip
  rename_i h; cases h
  exact ⟨_, _, _, _, _, _, _, rfl, hc⟩
theorem chk_pass (hc : St.chk g c .pass s' = true) : ∃ p, s' = .Pass p := by
  rw [St.chk.eq_def] at hc
  split at hc <;> first | (rename_i h; cases h; done) | (exact ⟨_, rfl⟩) | (cases hc; done) | skip
theorem chk_brk (hc : St.chk g c .brk s' = true) : ∃ p, s' = .Break p := by
  rw [St.chk.eq_def] at hc
  split at hc <;> first | (rename_i h; cases h; done) | (exact ⟨_, rfl⟩) | (cases hc; done) | skip
theorem chk_cont (hc : St.chk g c .cont s' = true) : ∃ p, s' = .Continue p := by
  rw [St.chk.eq_def] at hc
  split at hc <;> first | (rename_i h; cases h; done) | (exact ⟨_, rfl⟩) | (cases hc; done) | skip
theorem chk_setC {t : Tg} {e : E} {t' e' : Expr} (hc : setCB g c t e t' e' = true) : ∃ i t1 x it ifs y py x' t2 i' ifs' scope pos, t = .name i ∧ e = .comp t1 x it ifs ∧ t' = .Name y py ∧ e' = .ListComp x' [⟨t2, i', ifs', 0⟩] scope pos ∧
    (E.chk g c (.comp t1 x it ifs) (.ListComp x' [⟨t2, i', ifs', 0⟩] scope pos) && ((decide (c.N[i]? = some y) && decide (c.sc.lookup y = some .local)) && (decide (c.exc ≠ some i) && ((py.line == pos.line) && !ownsB scope y)))) = true := by
  unfold setCB at hc
  split at hc
  · exact ⟨_, _, _, _, _, _, _, _, _, _, _, _, _, rfl, rfl, rfl, rfl, hc⟩
  · cases hc
end
theorem xs_none {n : Nat} {g : G} {h : Option Py.X} {xs : Option (Nat × Addr)} {c : Ctx} {W : WX} {X : Cx} (k : Cok n g h xs c W X) (hx : c.exc = none) : xs = none := by
  have := k.exc
  rw [hx] at this
  cases xs with
  | none => rfl
  | some p => cases this
theorem z_setX {n : Nat} {g : G} {h : Option Py.X} {xs : Option (Nat × Addr)} {c : Ctx} {W : WX} {X : Cx} {t : Tg} {e : E} {t' e' : Expr} {pos : Pos} (k : Cok n g h xs c W X) (hc : setCB g c t e t' e' = true) : PS X (.Assign [t'] e' pos) (canS X.K X.mg xs W (St.den g h (.set t e))) := by
  obtain ⟨i, t1, x, it, ifs, y, py, x', t2, i', ifs', scope, ps, rfl, rfl, rfl, rfl, hq⟩ := chk_setC hc
  simp only [E.chk, Bool.and_eq_true, decide_eq_true_eq, Bool.not_eq_true'] at hq
  obtain ⟨⟨⟨h1, h2⟩, ⟨h3, h4⟩, h5, h6, h7, h8, h9⟩, ⟨h10, h11⟩, h12, h13, h14⟩ := hq
  exact z_setC k h1 h3 h4 h5 (It.sound g h it t2 i' n xs c W X k h6) h7 (fun X' k' => Es.soundD g h ifs ifs' n none _ W0 X' k' h8) (fun X' k' => (E.sound g h x x' n none _ W0 X' k' h9).1) h10 h11 h12 h13 h14
mutual
theorem St.sound : ∀ (s : St) (g : G) (h : Option Py.X), SS g h s
  | .nope => fun g h s' n xs c W X k hc => by
    refine PS.imp ps_never fun D σ H q => ?_
    obtain ⟨φ, μ, ρ, rep, rs, z⟩ := q
    simp only [St.den] at z
    exact z
  | .expr e => fun g h s' n xs c W X k hc => by
    obtain ⟨e', p, rfl, h1, h2⟩ := chk_expr hc
    exact z_expr h1 (E.sound g h e e' n xs c W X k h2).1
  | .set t e => fun g h s' n xs c W X k hc => by
    obtain ⟨t', e', p, rfl, h1⟩ := chk_set hc
    simp only [Bool.or_eq_true, Bool.and_eq_true] at h1
    rcases h1 with ⟨h1, h2, h3, h4⟩ | h1
    · exact z_set k h1 (sw_no k.sc h4) h2 (E.sound g h e e' n xs c W X k h3).1
    · exact z_setX k h1
  | .setA o f e => fun g h s' n xs c W X k hc => by
    obtain ⟨o', x, p, e', p', rfl, h1⟩ := chk_setA hc
    simp only [Bool.and_eq_true, decide_eq_true_eq] at h1
    obtain ⟨rfl, h2, h3⟩ := h1
    exact z_setA k (E.sound g h o o' n xs c W X k h2).1 (E.sound g h e e' n xs c W X k h3).1
  | .setI o i e => fun g h s' n xs c W X k hc => by
    obtain ⟨o', i', p, e', p', rfl, h1⟩ := chk_setI hc
    simp only [Bool.and_eq_true] at h1
    obtain ⟨h1, h2, h3, h4⟩ := h1
    exact z_setI k h1 (E.sound g h o o' n xs c W X k h2).1 (E.sound g h i i' n xs c W X k h3).1 (E.sound g h e e' n xs c W X k h4).1
  | .aug i o e => fun g h s' n xs c W X k hc => by
    obtain ⟨x, p, o', e', p', rfl, h1⟩ := chk_aug hc
    simp only [Bool.and_eq_true, decide_eq_true_eq] at h1
    obtain ⟨⟨h1, h2, h3⟩, ⟨h4, h5⟩, h6⟩ := h1
    exact z_aug k h1 h2 h3 h4 h5 (E.sound g h e e' n xs c W X k h6).1
  | .ret e => fun g h s' n xs c W X k hc => by
    obtain ⟨e', p, rfl, h1⟩ := chk_ret hc
    exact z_ret (E.sound g h e e' n xs c W X k h1).1
  | .retN => fun g h s' n xs c W X k hc => by
    obtain ⟨p, rfl⟩ := chk_retN hc
    exact z_retN
  | .iff t a b => fun g h s' n xs c W X k hc => by
    obtain ⟨t', a', b', p, rfl, h1⟩ := chk_iff hc
    simp only [Bool.and_eq_true] at h1
    obtain ⟨⟨h1, h2⟩, h3, h4⟩ := h1
    exact z_iff ((E.sound g h t t' n xs c W X k h1).2 h2) (Ss.sound a g h a' n xs c W X k h3) (Ss.sound b g h b' n xs c W X k h4)
  | .whl t b => fun g h s' n xs c W X k hc => by
    obtain ⟨t', b', p, rfl, h1⟩ := chk_whl hc
    simp only [Bool.and_eq_true] at h1
    obtain ⟨⟨h1, h2⟩, h3⟩ := h1
    exact z_whl k ((E.sound g h t t' n xs c W X k h1).2 h2) (Ss.sound b g h b' n xs c W X k h3)
  | .whlW i e o a b => fun g h s' n xs c W X k hc => by
    obtain ⟨x, px, e', p1, o', a', p2, b', p, rfl, h1⟩ := chk_whlW hc
    simp only [Bool.and_eq_true, decide_eq_true_eq] at h1
    obtain ⟨⟨h1, h2, h3⟩, ⟨h4, h5⟩, ⟨h6, h7⟩, h8⟩ := h1
    exact z_whlW k h1 h2 h3 h4 h5 (E.sound g h e e' n xs c W X k h6).1 (E.sound g h a a' n xs c W X k h7).1 (Ss.sound b g h b' n xs c W X k h8)
  | .for_ t it b => fun g h s' n xs c W X k hc => by
    obtain ⟨t', i', b', p, rfl, h1⟩ := chk_for hc
    simp only [Bool.and_eq_true, Bool.not_eq_true'] at h1
    obtain ⟨h1, h2, h3, h4, h5⟩ := h1
    exact z_for k h1 h2 h3 (It.sound g h it t' i' n xs c W X k h4) (Ss.sound b g h b' n xs c W X k h5)
  | .raise s => fun g h s' n xs c W X k hc => by
    obtain ⟨x, p, m, j, p2, p3, p4, rfl, h1⟩ := chk_raise hc
    simp only [Bool.and_eq_true, Bool.not_eq_true'] at h1
    exact z_raise k h1.1 h1.2
  | .try_ b s (some i) u => fun g h s' n xs c W X k hc => by
    obtain ⟨b', x, p, y, u0, u', p', p2, rfl, h1⟩ := chk_tryA hc
    simp only [Bool.and_eq_true, decide_eq_true_eq, Bool.not_eq_true'] at h1
    obtain ⟨⟨h1, h2⟩, ⟨h3, h4⟩, ⟨h5, h6⟩, h7, h8⟩ := h1
    obtain rfl := xs_none k h1
    exact z_tryA k h1 h2 h3 h4 h5 h6 (fun W' pn xe tk po => Ss.sound b g h b' n none c W' _ (k.tr rfl h2 tk po) h7)
      fun z ad oe C pn hz hm hzc hd => Ss.sound u g.cold (some z) (u0 :: u') n (some (i, ad)) _ _ _ (k.suite h2 hz hm hzc hd) h8
  | .try_ b s none u => fun g h s' n xs c W X k hc => by
    obtain ⟨b', x, p, u0, u', p', p2, rfl, h1⟩ := chk_tryO hc
    simp only [Bool.and_eq_true, decide_eq_true_eq, Bool.not_eq_true'] at h1
    obtain ⟨⟨h1, h2⟩, ⟨h3, h4⟩, h7, h8⟩ := h1
    obtain rfl := xs_none k h1
    exact z_tryO k h1 h2 h3 h4 (fun W' pn xe tk po => Ss.sound b g h b' n none c W' _ (k.tr rfl h2 tk po) h7)
      fun z ad pn => Ss.sound u g.cold (some z) (u0 :: u') n none _ _ _ (k.suite0 h2) h8
  | .pass => fun g h s' n xs c W X k hc => by
    obtain ⟨p, rfl⟩ := chk_pass hc
    exact z_pass
  | .brk => fun g h s' n xs c W X k hc => by
    obtain ⟨p, rfl⟩ := chk_brk hc
    exact z_brk
  | .cont => fun g h s' n xs c W X k hc => by
    obtain ⟨p, rfl⟩ := chk_cont hc
    exact z_cont
theorem Ss.sound : ∀ (s : Ss) (g : G) (h : Option Py.X), SSs g h s
  | .nil => fun g h s' n xs c W X k hc => by
    cases s' with
    | nil => exact z_nil
    | cons a r => simp only [Ss.chk] at hc; cases hc
  | .cons s r => fun g h s' n xs c W X k hc => by
    cases s' with
    | nil => simp only [Ss.chk] at hc; cases hc
    | cons a r' =>
      simp only [Ss.chk, Bool.and_eq_true] at hc
      exact z_cons (St.sound s g h a n xs c W X k hc.1) (Ss.sound r g h r' n xs c W X k hc.2)
end
end Py
end

section
set_option Elab.async false
set_option linter.all false
set_option maxRecDepth 100000
set_option maxHeartbeats 4000000
set_option autoImplicit false
/-! The Py layer, part 19: defs. -/
namespace Py
open PySem L2
theorem zip_lookup : ∀ {ps : List PySem.Str} {us : List Value}, ps.Nodup → us.length = ps.length → ps.filterMap (fun n => ((ps.zip us).lookup n).map (n, ·)) = ps.zip us := by
  intro ps us nd hl
  have gen : ∀ (pre : List (PySem.Str × Value)) (ps : List PySem.Str) (us : List Value), (pre.map (·.1) ++ ps).Nodup → us.length = ps.length → ps.filterMap (fun n => ((pre ++ ps.zip us).lookup n).map (n, ·)) = ps.zip us := by
    intro pre ps
    induction ps generalizing pre with
    | nil => intro us _ _; simp
    | cons p ps ih =>
      intro us nd hl
      cases us with
      | nil => cases hl
      | cons u us =>
        have hpre : ∀ (pre : List (PySem.Str × Value)), p ∉ pre.map (·.1) → (pre ++ (p, u) :: ps.zip us).lookup p = some u := by
          intro pre
          induction pre with
          | nil => intro _; simp
          | cons a r ih2 =>
            intro h
            simp only [List.map_cons, List.mem_cons, not_or] at h
            have : (p == a.1) = false := by simpa using h.1
            show (match p == a.1 with | true => some a.2 | false => (r ++ (p, u) :: ps.zip us).lookup p) = some u
            rw [this]
            exact ih2 h.2
        have nd1 : p ∉ pre.map (·.1) := by
          intro hm
          have := List.nodup_append.mp nd
          exact this.2.2 p hm p List.mem_cons_self rfl
        simp only [List.zip_cons_cons, List.filterMap_cons, hpre pre nd1, Option.map_some]
        congr 1
        have e : pre ++ (p, u) :: ps.zip us = (pre ++ [(p, u)]) ++ ps.zip us := by simp
        rw [e]
        exact ih (pre ++ [(p, u)]) us (by simpa using nd) (by simpa using hl)
  exact gen [] ps us (by simpa using nd) hl
theorem zip_some {ps : List PySem.Str} {us : List Value} (nd : ps.Nodup) (hl : us.length = ps.length) : ∀ n ∈ ps, ((ps.zip us).lookup n).isSome := by
  intro n hn
  induction ps generalizing us with
  | nil => cases hn
  | cons p ps ih =>
    cases us with
    | nil => cases hl
    | cons u us =>
      simp only [List.zip_cons_cons, List.lookup_cons]
      by_cases e : n == p
      · simp [e]
      · simp only [e]
        have : n ∈ ps := by
          rcases List.mem_cons.mp hn with z | z
          · subst z; simp at e
          · exact z
        exact ih (List.nodup_cons.mp nd).2 (by simpa using hl) this
theorem bind_plain {x qual : PySem.Str} {args : List Arg} {dfl : List Expr} {body : List Stmt} {scope : Scope} {kV doc pm : Value} {an : Option Addr} {cdv ct : Value} {ps : List PySem.Str} (hps : args.map (·.arg) = ps) (nd : ps.Nodup) (us : List Value) (hl : us.length = ps.length) :
    bindArgs (PySem.W.fnOf x qual ⟨[], args, none, [], [], none, dfl⟩ body scope .none kV doc pm an cdv ct) ⟨us, []⟩ = pure (ps.zip us) := by
  subst hps
  have h1 : (args.map (·.arg)).filter (fun n => (((args.map (·.arg)).zip us).lookup n).isNone) = [] := by
    rw [List.filter_eq_nil_iff]
    intro n hn
    have := zip_some nd hl n hn
    simp [Option.isSome_iff_ne_none] at this ⊢
    exact this
  have h2 := zip_lookup nd hl
  have hs : seqItems? Value.none = pure none := rfl
  unfold bindArgs
  simp only [PySem.W.fnOf, List.map_nil, List.nil_append, List.append_nil, List.forIn_nil, pure_bind, hs, Option.getD_none, List.drop_nil, List.length_nil, Nat.sub_zero, List.length_map]
  have h3 : ¬ (us.length > args.length) := by rw [hl]; simp
  simp only [h3]
  have h4 : List.take args.length (args.map (·.arg)) = args.map (·.arg) := List.take_of_length_le (by simp)
  have h5 : List.drop args.length (args.map (·.arg)) = [] := List.drop_eq_nil_of_le (by simp)
  simp only [h4, h1, h5, h2, List.zip_nil_left, List.forIn_nil, List.isEmpty_nil, decide_false, Bool.false_and, Bool.not_true, Bool.false_eq_true, if_false, pure_bind]

theorem zip_none {ps : List PySem.Str} {us : List Value} {y : PySem.Str} (h : y ∉ ps) : (ps.zip us).lookup y = none := by
  induction ps generalizing us with
  | nil => rfl
  | cons p ps ih =>
    cases us with
    | nil => rfl
    | cons u us =>
      simp only [List.mem_cons, not_or] at h
      have : (y == p) = false := by simpa using h.1
      simp only [List.zip_cons_cons, List.lookup_cons, this]
      exact ih h.2
theorem zip_short {ps : List PySem.Str} {us : List Value} {y : PySem.Str} (h : us.length = ps.length) : (ps ++ [y]).zip us = ps.zip us := by
  induction ps generalizing us with
  | nil => cases us with | nil => rfl | cons u us => cases h
  | cons p ps ih =>
    cases us with
    | nil => rfl
    | cons u us => simp only [List.cons_append, List.zip_cons_cons]; rw [ih (by simpa using h)]
/-- one default -/
theorem bind_one {x qual : PySem.Str} {args : List Arg} {dfl : List Expr} {body : List Stmt} {scope : Scope} {kV doc pm : Value} {T : Addr} {an : Option Addr} {cdv ct : Value} {pre : List PySem.Str} {y : PySem.Str} (hps : args.map (·.arg) = pre ++ [y]) (nd : (pre ++ [y]).Nodup) (us : List Value) (d : Value) (z : Bool)
    (hl : us.length = pre.length + (if z = true then 1 else 0)) :
    ∃ k, bindArgs (PySem.W.fnOf x qual ⟨[], args, none, [], [], none, dfl⟩ body scope (.ref T) kV doc pm an cdv ct) ⟨us, []⟩ = seqItems? (.ref T) >>= k ∧ k (some [d].toArray) = pure ((pre ++ [y]).zip (us ++ (if z = true then [] else [d]))) := by
  have hlen : args.length = pre.length + 1 := by have := congrArg List.length hps; simpa using this
  have hny : y ∉ pre := by
    intro hm
    exact (List.nodup_append.mp nd).2.2 y hm y (by simp) rfl
  have ndp : pre.Nodup := (List.nodup_append.mp nd).1
  unfold bindArgs
  refine ⟨_, rfl, ?_⟩
  simp only [PySem.W.fnOf, List.map_nil, List.nil_append, List.append_nil, List.forIn_nil, pure_bind, Option.getD_some, List.length_nil, Nat.sub_zero, hps, List.length_append]
  have e7 : pre.length + [y].length = pre.length + 1 := rfl
  simp only [e7]
  have e0 : ([d].toArray).toList = [d] := rfl
  have e1 : [d].length - (pre.length + 1) = 0 := by simp
  have e2 : pre.length + 1 - [d].length = pre.length := by simp
  have e3 : (pre ++ [y]).drop pre.length = [y] := by simp
  have e4 : (pre ++ [y]).take pre.length = pre := by simp
  have h3 : ¬ (us.length > pre.length + 1) := by rw [hl]; split <;> omega
  have hpre : ∀ n ∈ pre, (((pre ++ [y]).zip us).lookup n).isSome := by
    intro n hn
    have g : ∀ (l : List PySem.Str) (us : List Value), n ∈ l → l.length ≤ us.length → ((l ++ [y]).zip us |>.lookup n).isSome := by
      intro l
      induction l with
      | nil => intro us h; cases h
      | cons p ps ih =>
        intro us hn hl
        cases us with
        | nil => simp at hl
        | cons u us =>
          simp only [List.cons_append, List.zip_cons_cons, List.lookup_cons]
          by_cases e : n == p
          · simp [e]
          · simp only [e]
            refine ih us ?_ (by simpa using hl)
            rcases List.mem_cons.mp hn with z | z
            · subst z; simp at e
            · exact z
    exact g pre us hn (by rw [hl]; omega)
  have h1 : pre.filter (fun n => (((pre ++ [y]).zip us).lookup n).isNone) = [] := by
    rw [List.filter_eq_nil_iff]
    intro n hn
    have := hpre n hn
    simp [Option.isSome_iff_ne_none] at this ⊢
    exact this
  simp only [h3, e1, List.drop_zero, e0, e2, e3, e4, h1, List.zip_cons_cons, List.zip_nil_left, List.forIn_cons, List.forIn_nil, List.isEmpty_nil, decide_false, Bool.false_and, Bool.not_true, Bool.false_eq_true, if_false, pure_bind]
  cases z with
  | true =>
    simp at hl
    have hs : (((pre ++ [y]).zip us).lookup y).isSome := zip_some nd (by simp [hl]) y (by simp)
    have hn : (((pre ++ [y]).zip us).lookup y).isNone = false := by
      cases h : ((pre ++ [y]).zip us).lookup y with
      | none => rw [h] at hs; cases hs
      | some _ => rfl
    have h2 := zip_lookup nd (us := us) (by simp [hl])
    simp only [hn, Bool.false_eq_true, if_false, if_true, List.append_nil]
    simp
    rw [← List.filterMap_append, h2]
  | false =>
    simp at hl
    have e5 : (pre ++ [y]).zip us = pre.zip us := zip_short hl
    have hn : (((pre ++ [y]).zip us).lookup y).isNone = true := by
      rw [e5, zip_none hny]; rfl
    have e6 : (pre ++ [y]).zip us ++ [(y, d)] = (pre ++ [y]).zip (us ++ [d]) := by
      rw [e5, List.zip_append hl.symm]; rfl
    have h2 := zip_lookup nd (us := us ++ [d]) (by simp [hl])
    simp only [hn, if_true, e6]
    simp
    rw [← List.filterMap_append, h2]
/-- plain parameters: no star -/
def plainA (a : Arguments) (ps : List PySem.Str) : Bool := match a with
  | ⟨[], args, none, [], [], none, _⟩ => decide (args.map (·.arg) = ps)
  | _ => false
theorem plainA_ok {a : Arguments} {ps : List PySem.Str} (h : plainA a ps = true) : ∃ args dfl, a = ⟨[], args, none, [], [], none, dfl⟩ ∧ args.map (·.arg) = ps := by
  unfold plainA at h
  split at h
  · exact ⟨_, _, rfl, of_decide_eq_true h⟩
  · cases h
/-- the last parameter takes what is left over -/
def starA (a : Arguments) (ps : List PySem.Str) : Bool := match a with
  | ⟨[], args, some v, [], [], none, []⟩ => decide (args.map (·.arg) ++ [v.arg] = ps)
  | _ => false
theorem starA_ok {a : Arguments} {ps : List PySem.Str} (h : starA a ps = true) : ∃ args v, a = ⟨[], args, some v, [], [], none, []⟩ ∧ args.map (·.arg) ++ [v.arg] = ps := by
  unfold starA at h
  split at h
  · exact ⟨_, _, rfl, of_decide_eq_true h⟩
  · cases h
theorem bind_star {x qual : PySem.Str} {args : List Arg} {v : Arg} {body : List Stmt} {scope : Scope} {kV doc pm : Value} {an : Option Addr} {cdv ct : Value} {ps : List PySem.Str} (hps : args.map (·.arg) = ps) (nd : ps.Nodup) (us rest : List Value) (hl : us.length = ps.length) :
    bindArgs (PySem.W.fnOf x qual ⟨[], args, some v, [], [], none, []⟩ body scope .none kV doc pm an cdv ct) ⟨us ++ rest, []⟩ = (newTuple rest >>= fun t => pure (ps.zip us ++ [(v.arg, t)])) := by
  subst hps
  have h1 : (args.map (·.arg)).filter (fun n => (((args.map (·.arg)).zip us).lookup n).isNone) = [] := by
    rw [List.filter_eq_nil_iff]
    intro n hn
    have := zip_some nd hl n hn
    simp [Option.isSome_iff_ne_none] at this ⊢
    exact this
  have h2 := zip_lookup nd hl
  have hs : seqItems? Value.none = pure none := rfl
  have hl' : us.length = args.length := by simpa using hl
  have hz : (args.map (·.arg)).zip (us ++ rest) = (args.map (·.arg)).zip us := by
    have : args.map (·.arg) = args.map (·.arg) ++ [] := by simp
    rw [this, List.zip_append (by simpa using hl.symm)]
    simp
  unfold bindArgs
  simp only [PySem.W.fnOf, List.map_nil, List.nil_append, List.append_nil, List.forIn_nil, pure_bind, hs, Option.getD_none, List.drop_nil, List.length_nil, Nat.sub_zero, List.length_map]
  have h4 : List.take args.length (args.map (·.arg)) = args.map (·.arg) := List.take_of_length_le (by simp)
  have h5 : List.drop args.length (args.map (·.arg)) = [] := List.drop_eq_nil_of_le (by simp)
  have h6 : (us ++ rest).drop args.length = rest := by rw [← hl']; simp
  simp only [h4, h1, h5, h2, hz, h6, List.zip_nil_left, List.forIn_nil, List.isEmpty_nil, decide_false, Bool.false_and, Bool.not_true, Bool.false_eq_true, if_false, pure_bind]
  simp only [Option.isNone_some, Bool.and_false, Bool.false_eq_true, if_false]
/-- a def of the text as the form says -/
structure DefAt (K : PySem.W.Frag) (fs : List FD) (g0 : Gs) (key : String) (a : Addr) : Prop where
  ex : ∃ (f : FD) (fd : FuncData) (x qual : PySem.Str) (params : Arguments) (body : List Stmt) (scope : Scope) (N ps : List PySem.Str) (dvs : List V), findF fs key = some f ∧ FunD K x qual params body scope dvs [] a fd ∧ FnScope N ps scope ∧ ((plainA params ps = true ∧ f.va = false) ∨ (starA params ps = true ∧ f.va = true ∧ f.dfl = [] ∧ dvs = [])) ∧ g0.va key = f.va ∧
    N.length = f.nn ∧ ps.length = f.np ∧ g0.par key = (f.np, f.dfl) ∧ Ss.chk g0 ⟨N, scope.names, false, false, none⟩ f.body body = true ∧ f.dfl.length ≤ 1 ∧ f.dfl.length ≤ f.np ∧ ∀ (mg : PySem.Str → Option Value) φ H, RDs K mg φ H f.dfl dvs
/-- what the text must say, whatever the depth -/
structure SOk (K : PySem.W.Frag) (mg : PySem.Str → Option Value) (fs : List FD) (g0 : Gs) : Prop where
  fn : ∀ f, g0.fnk f = true → ∃ a, mg (nm f) = some (.ref a) ∧ DefAt K fs g0 f a
  glo : ∀ x d, g0.glo x = some d → ∃ v u, RelV v u ∧ mg (nm x) = some u ∧ ∀ φ H, RD K mg φ H d v
  meth : ∀ c m key, g0.meth c m = some key → ∃ C f, OwnAt K mg c C ∧ Meth K C (nm m) f ∧ DefAt K fs g0 key f
  prop : ∀ c m key, g0.prop c m = some key → ∃ C p f, OwnAt K mg c C ∧ PropOf K C (nm m) p f ∧ DefAt K fs g0 key f
  con : ∀ c f d, g0.con c f = some d → ∃ C v u, OwnAt K mg c C ∧ Con K C (nm f) v u ∧ ∀ φ H, RD K mg φ H d v
  fld : ∀ c f, g0.fld c f = true → ∃ C, OwnAt K mg c C ∧ NoAttr K C (nm f)
  init : ∀ c key, g0.init c = some key → ∃ C f, OwnAt K mg c C ∧ Mk K C f ∧ DefAt K fs g0 key f
  clm : ∀ c m key, g0.clm c m = some key → ∃ C mc p f, mg (nm c) = some (.ref C) ∧ ClX.CRead K C mc ∧ ClX.CMet K C mc (nm m) p f ∧ DefAt K fs g0 key f
  cval : ∀ c f d, g0.cval c f = some d → ∃ C mc v u, mg (nm c) = some (.ref C) ∧ ClX.CRead K C mc ∧ ClX.CVal K C mc (nm f) v u ∧ ∀ φ H, RD K mg φ H d v
  sub : ∀ t c b, g0.sub t c = some b → ∃ tv cv, TyN mg t tv ∧ TyN mg c cv ∧ PySem.W.kitOne K tv cv = some b
  insc : ∀ c, g0.insc c = true → ∃ C, OwnAt K mg c C
  bl : ∀ c t o, g0.bl c t o = true → ∃ tv, TyN mg t tv ∧ noOp K tv (nm o.dun) (nm o.rdun) = true
  br : ∀ c t o, g0.br c t o = true → (∃ tv, TyN mg t tv ∧ noOp K tv (nm o.dun) (nm o.rdun) = true) ∧ ∃ C, OwnAt K mg c C ∧ hasOr K (.ref C) (nm o.dun) = true
  nsq : ∀ c, g0.nsq c = true → ∃ C, OwnAt K mg c C ∧ PySem.W.noSeq K C = true
  nfst : ∀ c t, g0.nfst c t = true → ∃ C tv, OwnAt K mg c C ∧ TyN mg t tv ∧ PySem.W.notFirst K C tv = true
  dne : ∀ c, g0.dne c = true → ∃ C, OwnAt K mg c C ∧ PySem.W.findIn K (.ref C) "__ne__" = some (some (.builtin "object.__ne__"))
  nb : ∀ x ∈ ["NoneType", "bool", "int", "str", "tuple", "list"], mg (nm x) = none
  ok2 : GOk2 K mg g0
section
variable {P : Program} {w : World} {K : PySem.W.Frag} {mg : PySem.Str → Option Value} {base : Heap} {fs : List FD} {g0 : Gs}
theorem start_rs {φ : List Addr} {H : Hp} {N : List PySem.Str} {n : Nat} {ds : List D} {vs : List V} (hn : N.length = n) (hl : ds.length ≤ n) (r : RDs K mg φ H ds vs) : RS K mg none φ H (startE n ds) (L2.start N vs) := by
  refine ⟨by unfold startE L2.start; simp [r.length, hn], (fun _ _ z => nomatch z), fun i d e => ?_⟩
  unfold startE at e
  unfold L2.start
  by_cases hi : i < ds.length
  · rw [List.getElem?_append_left (by simpa using hi)] at e
    rw [List.getElem?_append_left (by simp [r.length]; exact hi)]
    rw [List.getElem?_map] at e ⊢
    cases hd : ds[i]? with
    | none => rw [hd] at e; cases e
    | some d' =>
      rw [hd] at e
      cases e
      obtain ⟨v, hv, rv⟩ := r.get hd
      exact ⟨v, by rw [hv]; rfl, rv⟩
  · rw [List.getElem?_append_right (by simpa using Nat.le_of_not_lt hi)] at e
    rw [List.getElem?_replicate] at e
    split at e <;> cases e
theorem def_body {key : String} {a : Addr} {f : FD} {qual : PySem.Str} {body : List Stmt} {scope : Scope} {N ps : List PySem.Str} {n : Nat} (h1 : findF fs key = some f) (h3 : FnScope N ps scope)
    (h5 : N.length = f.nn) (h6 : ps.length = f.np) (h8 : Ss.chk g0 ⟨N, scope.names, false, false, none⟩ f.body body = true) (gok : GOk P w K mg base n (gN fs g0 n)) (ok2 : GOk2 K mg g0) (cdv : Value) (A : Around) (outer : List PySem.Env) (s : Shared) (H : Hp) (vs : List V) (Q : VK) (E : XK)
    (hr : Room (2 * n + 1) (A.deeper (PyProof.Rows.envOfC qual scope s.heap.objs.size a cdv))) (q : spM K mg (callN fs g0 (n + 1) key) vs H Q E) :
    ∃ t, PSs (cxOf (L2.CX P w) P w K mg base N qual scope a cdv A outer s H E) body t ∧ t { nx := fun _ H' => Q .non H', rt := Q } (L2.start N vs) H := by
  have hnp : ps.length ≤ N.length := by have := congrArg List.length h3.pre; rw [List.length_take] at this; omega
  have hcall : ∀ ds μ, callN fs g0 (n + 1) key ds μ = f.run (gN fs g0 n) ds μ := fun ds μ => by
    rw [callN, h1]
    rfl
  obtain ⟨φ, μ, ds, rep, rd, p⟩ := q
  rw [hcall] at p
  unfold FD.run at p
  split at p
  · rename_i hl
    have k : Cok n (gN fs g0 n) none none ⟨N, scope.names, false, false, none⟩ (fun cls d _ H => E cls d H) (cxOf (L2.CX P w) P w K mg base N qual scope a cdv A outer s H E) :=
      { call := ⟨gok, hr.units, .inr hr, takes_of rfl rfl rfl rfl⟩
        ok2 := ok2
        N := rfl
        nd := h3.nd
        sc := rfl
        kind := h3.kind
        calm := fun _ => rfl
        po := passes_of rfl
        fn := fun _ => rfl
        stk := fun _ => ⟨rfl, rfl⟩
        exc := rfl
        exh := fun _ _ _ _ z => nomatch z }
    refine ⟨_, Ss.sound f.body (gN fs g0 n) none body n none _ _ _ k h8, φ, μ, startE f.nn ds, rep, start_rs h5 (by omega) rd, ?_⟩
    cases e0 : Ss.den (gN fs g0 n) none f.body (startE f.nn ds) μ with
    | nx ρ1 μ1 =>
      rw [e0] at p
      exact fun φ1 H1 σ1 e1 rep1 _ => p φ1 H1 .non e1 rep1 rfl
    | rt d μ1 =>
      rw [e0] at p
      exact p
    | bk ρ1 μ1 => rw [e0] at p; exact p.elim
    | ct ρ1 μ1 => rw [e0] at p; exact p.elim
    | er z ρ1 μ1 =>
      rw [e0] at p
      exact fun φ1 H1 σ1 cl d e1 rep1 _ rx => p φ1 H1 cl d e1 rep1 rx
    | bad => rw [e0] at p; exact p.elim
  · exact p.elim
theorem fnOk_succ {key : String} {a : Addr} {f : FD} {fd : FuncData} {x qual : PySem.Str} {params : Arguments} {body : List Stmt} {scope : Scope} {N ps : List PySem.Str} {dvs : List V} {n : Nat} (h1 : findF fs key = some f) (h2 : FunD K x qual params body scope dvs [] a fd) (h3 : FnScope N ps scope)
    (h5 : N.length = f.nn) (h6 : ps.length = f.np) (h8 : Ss.chk g0 ⟨N, scope.names, false, false, none⟩ f.body body = true) (gok : GOk P w K mg base n (gN fs g0 n)) (ok2 : GOk2 K mg g0) : FnOk P w K mg base (L2.CX P w) (2 * n + 1 + 1) a fd ps (spM K mg (callN fs g0 (n + 1) key)) := by
  refine h2.ok h3 (fun vs H Q E q => ?_) (fun cdv A outer s H vs Q E hr q => def_body h1 h3 h5 h6 h8 gok ok2 cdv A outer s H vs Q E hr q)
  obtain ⟨φ, μ, ds, rep, rd, p⟩ := q
  have hcall : callN fs g0 (n + 1) key ds μ = f.run (gN fs g0 n) ds μ := by
    rw [callN, h1]
    rfl
  rw [hcall] at p
  unfold FD.run at p
  split at p
  · rename_i hl
    rw [rd.length, hl, h6]
  · exact p.elim
theorem fnR_star {key : String} {a : Addr} {f : FD} {fd : FuncData} {x qual : PySem.Str} {args : List Arg} {v : Arg} {body : List Stmt} {scope : Scope} {N ps : List PySem.Str} {n : Nat} (h1 : findF fs key = some f) (h2 : FunD K x qual ⟨[], args, some v, [], [], none, []⟩ body scope [] [] a fd) (hps : args.map (·.arg) = ps) (h3 : FnScope N (ps ++ [v.arg]) scope)
    (h5 : N.length = f.nn) (h6 : (ps ++ [v.arg]).length = f.np) (h8 : Ss.chk g0 ⟨N, scope.names, false, false, none⟩ f.body body = true) (gok : GOk P w K mg base n (gN fs g0 n)) (ok2 : GOk2 K mg g0) :
    FnR P w K mg base (L2.CX P w) (2 * n + 1 + 1) a (fun vs H Q E => ∃ ws rest, vs = ws ++ rest ∧ ws.length = ps.length ∧ rest.length ≤ sizeLine ∧ ∀ p, H p = none → spM K mg (callN fs g0 (n + 1) key) (ws ++ [V.ref p]) (upd H p (.tup rest)) Q E) := by
  obtain ⟨oc, od, dV, kV, doc, pm, an, cdv, ct, osl, rfl, lk, hcd, hdv, _⟩ := h2.ex
  have hd : dV = .none := by
    rcases hdv with h | h
    · exact h.2
    · exact absurd rfl h.1
  subst hd
  have nd : ps.Nodup := by
    have := h3.nd.sublist (List.take_sublist (ps ++ [v.arg]).length N)
    rw [h3.pre] at this
    exact (List.nodup_append.mp this).1
  exact StX.fn_star lk hcd h3 StX.cxUp (fun us rest hl => bind_star hps nd us rest hl) fun A outer s H vs Q E hr q => def_body h1 h3 h5 h6 h8 gok ok2 cdv A outer s H vs Q E hr q
theorem DefAt.fnAt {key : String} {a : Addr} (F : DefAt K fs g0 key a) (ok2 : GOk2 K mg g0) (n : Nat) (ih : ∀ m, m < n → GOk P w K mg base m (gN fs g0 m)) : FnAt P w K mg base n (gN fs g0 n) key a := by
  obtain ⟨f, fd, x, qual, params, body, scope, N, ps, dvs, h1, h2, h3, h4, hva, h5, h6, h7, h8, h9, h10, h11⟩ := F.ex
  rcases h4 with ⟨h4, hv⟩ | ⟨h4, hv, hd0, hd1⟩
  rotate_left
  · obtain ⟨args, v, rfl, hps⟩ := starA_ok h4
    subst hps hd1
    have hpar : ((gN fs g0 n).par key).1 = (args.map (·.arg)).length + 1 := by
      show (g0.par key).1 = _
      rw [h7]
      show f.np = _
      rw [← h6]
      simp
    refine FnAt.of_star (m := (args.map (·.arg)).length) ?_ (by show g0.va key = true; rw [hva]; exact hv) hpar h2.kp
    cases n with
    | zero =>
      intro A outer s H us vs Q E _ e0 _ q
      obtain ⟨ws, rest, _, _, _, q⟩ := q
      obtain ⟨φ, μ, ds, _, _, p⟩ := q _ (e0.hok.fresh (Nat.le_refl _))
      exact p.elim
    | succ n => exact fnR_star h1 h2 rfl h3 h5 h6 h8 (ih n (Nat.lt_succ_self n)) ok2
  obtain ⟨args, dfl, rfl, hps⟩ := plainA_ok h4
  have hnd : ps.Nodup := by rw [← h3.pre]; exact (h3.nd.sublist (List.take_sublist _ _))
  refine FnAt.of_ok (fd := fd) (ps := ps) ?_ (by show g0.va key = false; rw [hva]; exact hv) (fun k hk => ?_) h2.kp
  · cases n with
    | zero =>
      refine ⟨fun vs H Q E q => ?_, fun A outer s H args us vs Q E _ _ _ _ q => ?_⟩
      · obtain ⟨φ, μ, ds, _, _, p⟩ := q
        exact p.elim
      · obtain ⟨φ, μ, ds, _, _, p⟩ := q
        exact p.elim
    | succ n => exact fnOk_succ h1 h2 h3 h5 h6 h8 (ih n (Nat.lt_succ_self n)) ok2
  · have hk' : k ≤ (g0.par key).2.length := hk
    rw [h7] at hk'
    show ∃ dvs ds, Vals dvs ds ∧ Binds K fd ps ds ∧ ∀ φ H, RDs K mg φ H ((g0.par key).2.drop ((g0.par key).2.length - k)) dvs
    rw [h7]
    cases hd : f.dfl with
    | nil =>
      rw [hd] at hk' h11
      obtain rfl : k = 0 := by simpa using hk'
      have e := h11 mg [] (fun _ => none)
      have e : dvs = [] := e
      subst e
      exact ⟨[], [], .nil, h2.bindsN fun kV doc pm an cdv ct us hl => bind_plain hps hnd us hl, fun φ H => RDs.nil⟩
    | cons d r =>
      rw [hd] at hk' h9 h10 h11
      have hr : r = [] := by cases r with | nil => rfl | cons a b => simp at h9
      subst hr
      have hv : ∃ v, dvs = [v] := by
        obtain ⟨v, r, e, _, e2⟩ := h11 mg [] (fun _ => none)
        cases e2
        exact ⟨v, e⟩
      obtain ⟨v, rfl⟩ := hv
      obtain ⟨pre, y, rfl⟩ : ∃ pre y, ps = pre ++ [y] := by
        rcases List.eq_nil_or_concat ps with rfl | ⟨pre, y, e⟩
        · simp at h6 h10; omega
        · exact ⟨pre, y, by rw [e, List.concat_eq_append]⟩
      have hk1 : k = 0 ∨ k = 1 := by simp at hk'; omega
      rcases hk1 with rfl | rfl
      · obtain ⟨ds, a1, a2⟩ := h2.binds1 (ps := pre ++ [y]) (pre.length + 1) 1 (by simp) (by simp) fun T kV doc pm an cdv ct us its hu hi => by
          obtain ⟨z, rfl⟩ : ∃ z, its = [z] := by
            cases its with
            | nil => cases hi
            | cons z r => cases r with | nil => exact ⟨z, rfl⟩ | cons _ _ => simp at hi
          have := bind_one (x := x) (qual := qual) (dfl := dfl) (body := body) (scope := scope) (kV := kV) (doc := doc) (pm := pm) (T := T) (an := an) (cdv := cdv) (ct := ct) hps hnd us z true (by simpa using hu)
          simpa using this
        exact ⟨_, ds, a1, a2, fun φ H => RDs.nil⟩
      · obtain ⟨ds, a1, a2⟩ := h2.binds1 (ps := pre ++ [y]) pre.length 0 (by simp) (by simp) fun T kV doc pm an cdv ct us its hu hi => by
          obtain ⟨z, rfl⟩ : ∃ z, its = [z] := by
            cases its with
            | nil => cases hi
            | cons z r => cases r with | nil => exact ⟨z, rfl⟩ | cons _ _ => simp at hi
          have := bind_one (x := x) (qual := qual) (dfl := dfl) (body := body) (scope := scope) (kV := kV) (doc := doc) (pm := pm) (T := T) (an := an) (cdv := cdv) (ct := ct) hps hnd us z false (by simpa using hu)
          simpa using this
        exact ⟨_, ds, a1, a2, fun φ H => h11 mg φ H⟩
theorem SOk.gok (S : SOk K mg fs g0) : ∀ n, GOk P w K mg base n (gN fs g0 n) := by
  intro n
  induction n using Nat.strongRecOn with
  | ind n ih =>
    have at_ : ∀ {key a}, DefAt K fs g0 key a → FnAt P w K mg base n (gN fs g0 n) key a := fun F => F.fnAt S.ok2 n ih
    exact
      { fn := fun f h => by
          obtain ⟨a, h1, h2⟩ := S.fn f h
          exact ⟨a, h1, at_ h2⟩
        glo := S.glo
        meth := fun c m key h => by
          obtain ⟨C, f, h1, h2, h3⟩ := S.meth c m key h
          exact ⟨C, f, h1, h2, at_ h3⟩
        prop := fun c m key h => by
          obtain ⟨C, p, f, h1, h2, h3⟩ := S.prop c m key h
          exact ⟨C, p, f, h1, h2, at_ h3⟩
        con := S.con
        fld := S.fld
        init := fun c key h => by
          obtain ⟨C, f, h1, h2, h3⟩ := S.init c key h
          exact ⟨C, f, h1, h2, at_ h3⟩
        clm := fun c m key h => by
          obtain ⟨C, mc, p, f, h1, h2, h3, h4⟩ := S.clm c m key h
          exact ⟨C, mc, p, f, h1, h2, h3, at_ h4⟩
        cval := S.cval
        sub := S.sub
        insc := S.insc
        bl := S.bl
        br := S.br
        nsq := S.nsq
        nfst := S.nfst
        dne := S.dne
        nb := S.nb }
/-- the law's def -/
theorem law_fn (S : SOk K mg fs g0) {x : PySem.Str} {a : Addr} {f : FD} {fd : FuncData} {qual y : PySem.Str} {params : Arguments} {body : List Stmt} {scope : Scope} {N : List PySem.Str} (n : Nat) (h1 : findF fs "law" = some f) (h2 : FunD K y qual params body scope [] [] a fd) (h3 : FnScope N [x] scope)
    (h4 : plainA params [x] = true) (h5 : N.length = f.nn) (h6 : 1 = f.np) (h8 : Ss.chk g0 ⟨N, scope.names, false, false, none⟩ f.body body = true) :
    (∀ (s : Shared) (v : Value), BindsTo s fd ⟨[v], []⟩ [(x, v)]) ∧ FnOk P w K mg base (L2.CX P w) (2 * n + 1 + 1) a fd [x] (spM K mg (callN fs g0 (n + 1) "law")) := by
  obtain ⟨args, dfl, rfl, hps⟩ := plainA_ok h4
  have hnd : [x].Nodup := by simp
  exact ⟨fun s v => h2.bindsA (ps := [x]) (fun kV doc pm an cdv ct us hl => bind_plain hps hnd us hl) s [v] rfl, fnOk_succ h1 h2 h3 h5 h6 h8 (S.gok n) S.ok2⟩
/-- what the plain law says, as the head wants it -/
theorem law_sp {n : Nat} {a : Addr} {ns : List Int} {H : Hp} (hO : Only H) (hS : SqL K H a (ns.map V.int)) (h : ∃ μ, callN fs g0 (n + 1) "law" [.fz (ns.map D.int)] [] = .ok (.bl true) μ) : spM K mg (callN fs g0 (n + 1) "law") [.ref a] H (fun v _ => v = .bl true) fun _ _ _ => False := by
  obtain ⟨μ, e⟩ := h
  refine ⟨[], [], [.fz (ns.map D.int)], ⟨List.nodup_nil, rfl, fun i o z => by simp at z⟩, RDs.cons ⟨a, ns.map V.int, rfl, ?_, ?_⟩ RDs.nil, ?_⟩
  · rcases hS with (h1 | ⟨o, h1⟩) | h1
    · rcases hO a with z | ⟨o, xs, z⟩ <;> (rw [h1] at z; cases z)
    · exact .inl ⟨o, h1⟩
    · exact .inr h1
  · clear hS e
    induction ns with
    | nil => exact RDs.nil
    | cons i r ih => exact RDs.cons rfl ih
  · rw [e]
    exact fun φ' H' b _ _ rb => rb
end
end Py
end

section
set_option linter.all false
set_option autoImplicit false
/-! Plain Lean: what a run ends in, step by step. -/
namespace Py
/-- what is wanted stays as it stands while the run is looked at -/
inductive Dep {α : Type} (P : α → Store → Prop) (E : X → Store → Prop) : Type where
  | mk
/-- r ends with a value that is P, or with an error that is E -/
@[irreducible] def R.Wp {α : Type} (r : R α) (P : α → Store → Prop) (E : X → Store → Prop) (_u : Dep P E := .mk) : Prop := match r with
  | .ok a μ => P a μ
  | .err x μ => E x μ
  | .bad => False
section
variable {α β : Type}
@[simp] theorem R.Wp_ok (a : α) (μ : Store) (P : α → Store → Prop) (E : X → Store → Prop) : (R.ok a μ).Wp P E = P a μ := by with_unfolding_all rfl
@[simp] theorem R.Wp_err (x : X) (μ : Store) (P : α → Store → Prop) (E : X → Store → Prop) : (R.err x μ : R α).Wp P E = E x μ := by with_unfolding_all rfl
@[simp] theorem R.Wp_bad (P : α → Store → Prop) (E : X → Store → Prop) : (R.bad : R α).Wp P E = False := by with_unfolding_all rfl
theorem R.Wp.imp {r : R α} {P Q : α → Store → Prop} {E E' : X → Store → Prop} (h : r.Wp P E) (i : ∀ a μ, P a μ → Q a μ) (j : ∀ x μ, E x μ → E' x μ) : r.Wp Q E' := by
  cases r with
  | ok a μ => with_unfolding_all exact i a μ h
  | err x μ => with_unfolding_all exact j x μ h
  | bad => with_unfolding_all exact h
abbrev noE : X → Store → Prop := fun _ _ => False
theorem R.Wp.to {r : R α} {P Q : α → Store → Prop} {E : X → Store → Prop} (h : r.Wp P noE) (i : ∀ a μ, P a μ → Q a μ) : r.Wp Q E := h.imp i fun _ _ z => z.elim
theorem R.Wp.get {r : R α} {P : α → Store → Prop} (h : r.Wp P noE) : ∃ a μ, r = .ok a μ ∧ P a μ := by
  cases r with
  | ok a μ => with_unfolding_all exact ⟨a, μ, rfl, h⟩
  | err x μ => with_unfolding_all exact h.elim
  | bad => with_unfolding_all exact h.elim
theorem R.Wp_eq {r : R α} {a : α} {μ : Store} (h : r = .ok a μ) {P : α → Store → Prop} {E : X → Store → Prop} (p : P a μ) : r.Wp P E := by rw [h]; with_unfolding_all exact p
@[simp] theorem R.Wp_bind {r : R α} {f : α → Store → R β} {P : β → Store → Prop} {E : X → Store → Prop} : (r.bind f).Wp P E = r.Wp (fun a μ => (f a μ).Wp P E) E := by
  cases r <;> with_unfolding_all rfl
@[simp] theorem R.Wp_hard {r : R α} {P : α → Store → Prop} {E : X → Store → Prop} : r.hard.Wp P E = r.Wp P noE := by
  cases r <;> with_unfolding_all rfl
end
theorem R.Wp_congr {α : Type} {r : R α} {P Q : α → Store → Prop} {E : X → Store → Prop} (h : ∀ a μ, P a μ = Q a μ) : r.Wp P E = r.Wp Q E := by
  have e : P = Q := funext fun a => funext fun μ => h a μ
  subst e
  with_unfolding_all rfl
/-! ### expressions -/
section
variable {g : G} {h : Option X} {ρ : Env} {μ : Store} {E0 : X → Store → Prop}
section
variable {P : D → Store → Prop}
@[simp] theorem wp_var (i : Nat) : (E.den g h (.var i) ρ μ).Wp P E0 = (getV ρ i μ).Wp P E0 := by simp only [E.den]
@[simp] theorem wp_lit (d : D) : (E.den g h (.lit d) ρ μ).Wp P E0 = P d μ := by simp only [E.den] <;> with_unfolding_all rfl
@[simp] theorem wp_bin (o : BO) (a b : E) : (E.den g h (.bin o a b) ρ μ).Wp P E0 = (E.den g h a ρ μ).Wp (fun x μ => (E.den g h b ρ μ).Wp (fun y μ => (bopG g o x y μ).Wp P E0) E0) E0 := by
  simp only [E.den, R.Wp_bind]
  refine R.Wp_congr fun _ _ => ?_
  simp only [R.Wp_bind]
@[simp] theorem wp_cmp (o : CO) (a b : E) : (E.den g h (.cmp o a b) ρ μ).Wp P E0 = (E.den g h a ρ μ).Wp (fun x μ => (E.den g h b ρ μ).Wp (fun y μ => (copG g o x y μ).Wp P E0) E0) E0 := by
  simp only [E.den, R.Wp_bind]
  refine R.Wp_congr fun _ _ => ?_
  simp only [R.Wp_bind]
@[simp] theorem wp_un (o : UO) (a : E) : (E.den g h (.un o a) ρ μ).Wp P E0 = (E.den g h a ρ μ).Wp (fun x μ => (unG g o x μ).Wp P E0) E0 := by simp only [E.den, R.Wp_bind]
@[simp] theorem wp_chain (o p : CO) (a b c : E) : (E.den g h (.chain o p a b c) ρ μ).Wp P E0 = (E.den g h a ρ μ).Wp (fun x μ => (E.den g h b ρ μ).Wp (fun y μ => (cop o x y μ).Wp (fun z μ => (match z with
    | .bl true => (E.den g h c ρ μ).bind fun w μ => cop p y w μ
    | .bl false => .ok (.bl false) μ
    | _ => .bad).Wp P E0) E0) E0) E0 := by
  simp only [E.den, R.Wp_bind]
  refine R.Wp_congr fun _ _ => ?_
  simp only [R.Wp_bind]
  refine R.Wp_congr fun _ _ => ?_
  simp only [R.Wp_bind] <;> with_unfolding_all rfl
@[simp] theorem wp_band (es : Es) : (E.den g h (.band es) ρ μ).Wp P E0 = (Es.denAnd g h es ρ μ).Wp P E0 := by simp only [E.den]
@[simp] theorem wp_bor (es : Es) : (E.den g h (.bor es) ρ μ).Wp P E0 = (Es.denOr g h es ρ μ).Wp P E0 := by simp only [E.den]
@[simp] theorem wp_not (a : E) : (E.den g h (.not_ a) ρ μ).Wp P E0 = (E.den g h a ρ μ).Wp (fun x μ => (truth x μ).Wp (fun b μ => P (.bl (!b)) μ) E0) E0 := by
  simp only [E.den, R.Wp_bind]
  refine R.Wp_congr fun _ _ => ?_
  simp only [R.Wp_bind] <;> with_unfolding_all rfl
@[simp] theorem wp_ite (t a b : E) : (E.den g h (.ite t a b) ρ μ).Wp P E0 = (E.den g h t ρ μ).Wp (fun x μ => (truth x μ).Wp (fun k μ => (if k = true then (E.den g h a ρ μ).Wp P E0 else (E.den g h b ρ μ).Wp P E0)) E0) E0 := by
  simp only [E.den, R.Wp_bind]
  refine R.Wp_congr fun _ _ => ?_
  simp only [R.Wp_bind]
  refine R.Wp_congr fun k _ => ?_
  cases k <;> with_unfolding_all rfl
@[simp] theorem wp_tup (es : Es) : (E.den g h (.tup es) ρ μ).Wp P E0 = (Es.den g h es ρ μ).Wp (fun ds μ => ds.length ≤ line ∧ P (.tup ds) μ) E0 := by
  simp only [E.den, R.Wp_bind]
  refine R.Wp_congr fun ds μ => ?_
  by_cases hl : ds.length ≤ line <;> simp [hl]
@[simp] theorem wp_lst (es : Es) : (E.den g h (.lst es) ρ μ).Wp P E0 = (Es.den g h es ρ μ).Wp (fun ds μ => ds.length ≤ line ∧ P (.obj μ.length) (μ ++ [.lst ds])) E0 := by
  simp only [E.den, R.Wp_bind]
  refine R.Wp_congr fun ds μ => ?_
  by_cases hl : ds.length ≤ line <;> simp [hl]
@[simp] theorem wp_idx (a i : E) : (E.den g h (.idx a i) ρ μ).Wp P E0 = (E.den g h a ρ μ).Wp (fun x μ => (E.den g h i ρ μ).Wp (fun y μ => (idx x y μ).Wp P E0) E0) E0 := by
  simp only [E.den, R.Wp_bind]
  refine R.Wp_congr fun _ _ => ?_
  simp only [R.Wp_bind]
@[simp] theorem wp_slc (a : E) (lo hi : Es) : (E.den g h (.slc a lo hi) ρ μ).Wp P E0 = (E.den g h a ρ μ).Wp (fun x μ => (Es.den g h lo ρ μ).Wp (fun ds μ => (partD ds μ).Wp (fun l μ => (Es.den g h hi ρ μ).Wp (fun ds μ => (partD ds μ).Wp (fun u μ => (slc x l u μ).Wp P E0) E0) E0) E0) E0) E0 := by
  simp only [E.den, R.Wp_bind]
  refine R.Wp_congr fun _ _ => ?_
  simp only [R.Wp_bind]
  refine R.Wp_congr fun _ _ => ?_
  refine R.Wp_congr fun _ _ => ?_
  simp only [R.Wp_bind]
@[simp] theorem wp_call (f : String) (es : Es) : (E.den g h (.call f es) ρ μ).Wp P E0 = (Es.den g h es ρ μ).Wp (fun ds μ => (g.callF f ds μ).Wp P E0) E0 := by simp only [E.den, R.Wp_bind]
@[simp] theorem wp_new (c : String) (es : Es) : (E.den g h (.new c es) ρ μ).Wp P E0 = (Es.den g h es ρ μ).Wp (fun ds μ => (newD g c ds μ).Wp P E0) E0 := by simp only [E.den, R.Wp_bind]
@[simp] theorem wp_bif (b : String) (es : Es) : (E.den g h (.bif b es) ρ μ).Wp P E0 = (Es.den g h es ρ μ).Wp (fun ds μ => (bifG g b ds μ).Wp P E0) E0 := by simp only [E.den, R.Wp_bind]
@[simp] theorem wp_isi (a : E) (m : Bool) (cs : List String) : (E.den g h (.isi a m cs) ρ μ).Wp P E0 = (E.den g h a ρ μ).Wp (fun x μ => (isiD g x cs μ).Wp P E0) E0 := by simp only [E.den, R.Wp_bind]
@[simp] theorem wp_ise (i : Nat) (m : Bool) (cs : List String) (x : X) : (E.den g (some x) (.ise i m cs) ρ μ).Wp P E0 = (match anySub g x.cls cs with | some b => P (.bl b) μ | none => False) := by
  simp only [E.den]
  cases anySub g x.cls cs <;> with_unfolding_all rfl
@[simp] theorem wp_meth (o : E) (m : String) (es : Es) : (E.den g h (.meth o m es) ρ μ).Wp P E0 = (E.den g h o ρ μ).Wp (fun d μ => (match recv g d m μ with
    | some k => (Es.den g h es ρ μ).bind fun ds μ => methD g k d m ds μ
    | none => .bad).Wp P E0) E0 := by simp only [E.den, R.Wp_bind] <;> with_unfolding_all rfl
@[simp] theorem wp_attr (o : E) (f : String) : (E.den g h (.attr o f) ρ μ).Wp P E0 = (E.den g h o ρ μ).Wp (fun d μ => (attrD g d f μ).Wp P E0) E0 := by simp only [E.den, R.Wp_bind]
@[simp] theorem wp_clm (c m : String) (es : Es) : (E.den g h (.clm c m es) ρ μ).Wp P E0 = (Es.den g h es ρ μ).Wp (fun ds μ => (match g.clm c m with
    | some key => g.callF key (.cls c :: ds) μ
    | none => .bad).Wp P E0) E0 := by simp only [E.den, R.Wp_bind] <;> with_unfolding_all rfl
@[simp] theorem wp_fstr (es : Es) : (E.den g h (.fstr es) ρ μ).Wp P E0 = (Es.denJ g h es [] ρ μ).Wp P E0 := by simp only [E.den]
@[simp] theorem wp_fmt (e : E) : (E.den g h (.fmt e) ρ μ).Wp P E0 = (E.den g h e ρ μ).Wp (fun d μ => (fmtD d μ).Wp P E0) E0 := by simp only [E.den, R.Wp_bind]
@[simp] theorem wp_glo (x : String) : (E.den g h (.glo x) ρ μ).Wp P E0 = (match g.glo x with | some d => P d μ | none => False) := by
  simp only [E.den]
  cases g.glo x <;> with_unfolding_all rfl
@[simp] theorem wp_cval (c f : String) : (E.den g h (.cval c f) ρ μ).Wp P E0 = (match g.cval c f with | some d => P d μ | none => False) := by
  simp only [E.den]
  cases g.cval c f <;> with_unfolding_all rfl
@[simp] theorem wp_comp (t : Tg) (x : E) (it : It) (ifs : Es) : (E.den g h (.comp t x it ifs) ρ μ).Wp P E0 = (It.den g h it ρ μ).Wp (fun w μ => (compD (fun d μ => match t.put d ρ μ with
    | some ρ' => ((Es.denTests g h ifs ρ' μ).bind fun b μ => if b = true then (E.den g h x ρ' μ).bind fun y μ => R.ok (some y) μ else R.ok none μ).hard
    | none => .bad) w μ).Wp P E0) E0 := by simp only [E.den, R.Wp_bind] <;> with_unfolding_all rfl
@[simp] theorem wp_and1 (e : E) : (Es.denAnd g h (.cons e .nil) ρ μ).Wp P E0 = (E.den g h e ρ μ).Wp P E0 := by simp only [Es.denAnd]
@[simp] theorem wp_and2 (e a : E) (r : Es) : (Es.denAnd g h (.cons e (.cons a r)) ρ μ).Wp P E0 = (E.den g h e ρ μ).Wp (fun d μ => (truth d μ).Wp (fun k μ => if k = true then (Es.denAnd g h (.cons a r) ρ μ).Wp P E0 else P d μ) E0) E0 := by
  simp only [Es.denAnd, R.Wp_bind]
  refine R.Wp_congr fun _ _ => ?_
  simp only [R.Wp_bind]
  refine R.Wp_congr fun k _ => ?_
  cases k <;> with_unfolding_all rfl
@[simp] theorem wp_or1 (e : E) : (Es.denOr g h (.cons e .nil) ρ μ).Wp P E0 = (E.den g h e ρ μ).Wp P E0 := by simp only [Es.denOr]
@[simp] theorem wp_or2 (e a : E) (r : Es) : (Es.denOr g h (.cons e (.cons a r)) ρ μ).Wp P E0 = (E.den g h e ρ μ).Wp (fun d μ => (truth d μ).Wp (fun k μ => if k = true then P d μ else (Es.denOr g h (.cons a r) ρ μ).Wp P E0) E0) E0 := by
  simp only [Es.denOr, R.Wp_bind]
  refine R.Wp_congr fun _ _ => ?_
  simp only [R.Wp_bind]
  refine R.Wp_congr fun k _ => ?_
  cases k <;> with_unfolding_all rfl
@[simp] theorem wp_joinN (acc : S) : (Es.denJ g h .nil acc ρ μ).Wp P E0 = P (.str acc) μ := by simp only [Es.denJ] <;> with_unfolding_all rfl
@[simp] theorem wp_joinC (e : E) (r : Es) (acc : S) : (Es.denJ g h (.cons e r) acc ρ μ).Wp P E0 = (E.den g h e ρ μ).Wp (fun d μ => (match d with
    | .str s => if (acc ++ s).length ≤ line then Es.denJ g h r (acc ++ s) ρ μ else .bad
    | _ => .bad).Wp P E0) E0 := by
  simp only [Es.denJ, R.Wp_bind]
  first | done | with_unfolding_all rfl
end
section
variable {P : List D → Store → Prop}
@[simp] theorem wp_nil : (Es.den g h .nil ρ μ).Wp P E0 = P [] μ := by simp only [Es.den] <;> with_unfolding_all rfl
@[simp] theorem wp_cons (e : E) (r : Es) : (Es.den g h (.cons e r) ρ μ).Wp P E0 = (E.den g h e ρ μ).Wp (fun d μ => (Es.den g h r ρ μ).Wp (fun ds μ => P (d :: ds) μ) E0) E0 := by
  simp only [Es.den, R.Wp_bind]
  refine R.Wp_congr fun _ _ => ?_
  simp only [R.Wp_bind] <;> with_unfolding_all rfl
end
section
variable {P : Wk → Store → Prop}
@[simp] theorem wp_star (e : E) (r : Es) {P : List D → Store → Prop} : (Es.den g h (.star e r) ρ μ).Wp P E0 = (E.den g h e ρ μ).Wp (fun d μ => (match itemsOf d μ with
    | some xs => (Es.den g h r ρ μ).Wp (fun ds μ => P (xs ++ ds) μ) E0
    | none => False)) E0 := by
  simp only [Es.den, R.Wp_bind]
  refine R.Wp_congr fun d μ => ?_
  cases itemsOf d μ with
  | none => with_unfolding_all rfl
  | some xs =>
    simp only [R.Wp_bind]
    refine R.Wp_congr fun ds μ => ?_
    with_unfolding_all rfl
@[simp] theorem wp_newS (c : String) (es : Es) {P : D → Store → Prop} : (E.den g h (.newS c es) ρ μ).Wp P E0 = (Es.den g h es ρ μ).Wp (fun ds μ => (newD g c ds μ).Wp P E0) E0 := by simp only [E.den, R.Wp_bind]
@[simp] theorem items_tup (ds : List D) : itemsOf (.tup ds) μ = some ds := by with_unfolding_all rfl
@[simp] theorem items_obj (i : Nat) : itemsOf (.obj i) μ = match μ[i]? with
    | some (.lst ds) => some ds
    | _ => none := by with_unfolding_all rfl
@[simp] theorem enumD_tup (ds : List D) : enumD (.tup ds) μ = .ok (.items (enumP 0 ds)) μ := by with_unfolding_all rfl
@[simp] theorem wp_over (e : E) : (It.den g h (.over e) ρ μ).Wp P E0 = (E.den g h e ρ μ).Wp (fun d μ => (overD d μ).Wp P E0) E0 := by simp only [It.den, R.Wp_bind]
@[simp] theorem wp_enum (e : E) : (It.den g h (.enum e) ρ μ).Wp P E0 = (E.den g h e ρ μ).Wp (fun d μ => (enumD d μ).Wp P E0) E0 := by simp only [It.den, R.Wp_bind]
@[simp] theorem wp_range1 (a : E) : (It.den g h (.range1 a) ρ μ).Wp P E0 = (E.den g h a ρ μ).Wp (fun d μ => (rangeD (.int 0) d μ).Wp P E0) E0 := by simp only [It.den, R.Wp_bind]
@[simp] theorem wp_range2 (a b : E) : (It.den g h (.range2 a b) ρ μ).Wp P E0 = (E.den g h a ρ μ).Wp (fun x μ => (E.den g h b ρ μ).Wp (fun y μ => (rangeD x y μ).Wp P E0) E0) E0 := by
  simp only [It.den, R.Wp_bind]
  refine R.Wp_congr fun _ _ => ?_
  first | with_unfolding_all rfl | simp only [R.Wp_bind]
end
/-! ### values -/
section
variable {P : D → Store → Prop}
@[simp] theorem wp_get0 (d : D) (ρ : Env) : (getV (some d :: ρ) 0 μ) = .ok d μ := by with_unfolding_all rfl
@[simp] theorem wp_getS (a : Option D) (ρ : Env) (i : Nat) : (getV (a :: ρ) (i + 1) μ) = getV ρ i μ := by simp [getV]
@[simp] theorem op_add (i j : Int) : bopG g .add (.int i) (.int j) μ = .ok (.int (i + j)) μ := by with_unfolding_all rfl
@[simp] theorem op_sub (i j : Int) : bopG g .sub (.int i) (.int j) μ = .ok (.int (i - j)) μ := by with_unfolding_all rfl
theorem op_mul (i j : Int) (hm : okMul i j = true) : bopG g .mul (.int i) (.int j) μ = .ok (.int (i * j)) μ := by show bop .mul (.int i) (.int j) μ = _; simp [bop, hm]
theorem op_mod (i j : Int) (hj : j ≠ 0) : bopG g .mod (.int i) (.int j) μ = .ok (.int (i.fmod j)) μ := by simp [bopG, insOf, bop, hj]
theorem op_fdiv (i j : Int) (hj : j ≠ 0 ∧ j.natAbs < 1073741824) : bopG g .fdiv (.int i) (.int j) μ = .ok (.int (i.fdiv j)) μ := by simp [bopG, insOf, bop, hj]
theorem op_pow (i j : Int) (hj : 0 ≤ j ∧ j ≤ 1000000 ∧ i.natAbs < 2 ^ 64) : bopG g .pow (.int i) (.int j) μ = .ok (.int (i ^ j.toNat)) μ := by show bop .pow (.int i) (.int j) μ = _; simp only [bop]; rw [if_pos hj]
theorem op_cat (s t : S) (hl : s.length + t.length ≤ line) : bopG g .add (.str s) (.str t) μ = .ok (.str (s ++ t)) μ := by show bop .add (.str s) (.str t) μ = _; simp only [bop]; rw [if_pos hl]
@[simp] theorem op_lt (i j : Int) : copG g .lt (.int i) (.int j) μ = .ok (.bl (decide (i < j))) μ := by with_unfolding_all rfl
@[simp] theorem op_le (i j : Int) : copG g .le (.int i) (.int j) μ = .ok (.bl (decide (i ≤ j))) μ := by with_unfolding_all rfl
@[simp] theorem op_gt (i j : Int) : copG g .gt (.int i) (.int j) μ = .ok (.bl (decide (j < i))) μ := by with_unfolding_all rfl
@[simp] theorem op_ge (i j : Int) : copG g .ge (.int i) (.int j) μ = .ok (.bl (decide (j ≤ i))) μ := by with_unfolding_all rfl
@[simp] theorem op_eqI (i j : Int) : copG g .eq (.int i) (.int j) μ = .ok (.bl (i == j)) μ := by with_unfolding_all rfl
@[simp] theorem op_neI (i j : Int) : copG g .ne (.int i) (.int j) μ = .ok (.bl (!(i == j))) μ := by with_unfolding_all rfl
@[simp] theorem op_isN (x : D) : copG g .is_ x .non μ = if isAble x = true then .ok (.bl (isNon x)) μ else .bad := by
  show cop .is_ x .non μ = _
  simp [cop, isNon]
@[simp] theorem op_notN (x : D) : copG g .isn x .non μ = if isAble x = true then .ok (.bl (!isNon x)) μ else .bad := by
  show cop .isn x .non μ = _
  simp [cop, isNon]
/-- insides: what is no object is no instance -/
@[simp] theorem ins_non : insOf .non μ = none := by with_unfolding_all rfl
@[simp] theorem ins_bl (b : Bool) : insOf (.bl b) μ = none := by with_unfolding_all rfl
@[simp] theorem ins_int (i : Int) : insOf (.int i) μ = none := by with_unfolding_all rfl
@[simp] theorem ins_str (s : S) : insOf (.str s) μ = none := by with_unfolding_all rfl
@[simp] theorem ins_tup (ds : List D) : insOf (.tup ds) μ = none := by with_unfolding_all rfl
theorem ins_of {i : Nat} {c : String} {l : List (String × D)} (e : μ[i]? = some (.ins c l)) : insOf (.obj i) μ = some c := by simp [insOf, e]
theorem ins_lst {i : Nat} {l : List D} (e : μ[i]? = some (.lst l)) : insOf (.obj i) μ = none := by simp [insOf, e]
theorem cop_own {o : CO} {x y : D} (hx : insOf x μ = none) : copG g o x y μ = cop o x y μ := by simp [copG, hx]
@[simp] theorem truth_bl (b : Bool) : truth (.bl b) μ = .ok b μ := by with_unfolding_all rfl
@[simp] theorem truth_int (i : Int) : truth (.int i) μ = .ok (i != 0) μ := by with_unfolding_all rfl
@[simp] theorem truth_tup (ds : List D) : truth (.tup ds) μ = .ok (!ds.isEmpty) μ := by with_unfolding_all rfl
@[simp] theorem truth_non : truth .non μ = .ok false μ := by with_unfolding_all rfl
theorem lst_of {i : Nat} {ds : List D} (e : μ[i]? = some (.lst ds)) : lstOf μ i = some ds := by simp [lstOf, e]
theorem truth_lst {i : Nat} {ds : List D} (e : μ[i]? = some (.lst ds)) : truth (.obj i) μ = .ok (!ds.isEmpty) μ := by simp [truth, lst_of e]
@[simp] theorem bif_int (i : Int) : bifG g "int" [.int i] μ = .ok (.int i) μ := by with_unfolding_all rfl
@[simp] theorem bif_intB (b : Bool) : bifG g "int" [.bl b] μ = .ok (.int (if b then 1 else 0)) μ := by with_unfolding_all rfl
@[simp] theorem bif_bool (b : Bool) : bifG g "bool" [.bl b] μ = .ok (.bl b) μ := by with_unfolding_all rfl
@[simp] theorem bif_lenT (ds : List D) : bifG g "len" [.tup ds] μ = .ok (.int ds.length) μ := by with_unfolding_all rfl
theorem bif_lenS (s : S) (hl : s.length ≤ line) : bifG g "len" [.str s] μ = .ok (.int s.length) μ := by show bifD "len" [.str s] μ = _; simp [bifD, hl]
theorem bif_lenL {i : Nat} {ds : List D} (e : μ[i]? = some (.lst ds)) : bifG g "len" [.obj i] μ = .ok (.int ds.length) μ := by simp [bifG, ins_lst e, bifD, lst_of e]
@[simp] theorem idx_tup (ds : List D) (i : Int) : idx (.tup ds) (.int i) μ = match atI ds i with | some d => .ok d μ | none => .bad := by with_unfolding_all rfl
theorem idx_lst {o : Nat} {ds : List D} (e : μ[o]? = some (.lst ds)) (i : Int) : idx (.obj o) (.int i) μ = match atI ds i with | some d => .ok d μ | none => .bad := by simp only [idx, lst_of e] <;> with_unfolding_all rfl
@[simp] theorem over_tup (ds : List D) : overD (.tup ds) μ = .ok (.items ds) μ := by with_unfolding_all rfl
@[simp] theorem over_fz (ds : List D) : overD (.fz ds) μ = .ok (.items ds) μ := by with_unfolding_all rfl
theorem over_lst {i : Nat} {ds : List D} (e : μ[i]? = some (.lst ds)) : overD (.obj i) μ = .ok (.list i) μ := by simp [overD, lst_of e]
theorem range_ok {i j : Int} (h1 : okR i = true) (h2 : okR j = true) : rangeD (.int i) (.int j) μ = .ok (.items (rints i (j - i).toNat)) μ := by simp [rangeD, h1, h2]
end
end
/-! ### statements -/
/-- what a run of statements ends in: N fallen off, T returned, B broken off, C continued, E raised -/
structure Kt where
  N : Env → Store → Prop
  T : D → Store → Prop
  B : Env → Store → Prop := fun _ _ => False
  C : Env → Store → Prop := fun _ _ => False
  E : X → Env → Store → Prop := fun _ _ _ => False
inductive DepK (k : Kt) : Type where
  | mk
@[irreducible] def SR.Wp (r : SR) (k : Kt) (_u : DepK k := .mk) : Prop := match r with
  | .nx ρ μ => k.N ρ μ
  | .rt d μ => k.T d μ
  | .bk ρ μ => k.B ρ μ
  | .ct ρ μ => k.C ρ μ
  | .er x ρ μ => k.E x ρ μ
  | .bad => False
section
variable {g : G} {h : Option X} {ρ : Env} {μ : Store} {k : Kt}
@[simp] theorem SR.Wp_nx : (SR.nx ρ μ).Wp k = k.N ρ μ := by with_unfolding_all rfl
@[simp] theorem SR.Wp_rt (d : D) : (SR.rt d μ).Wp k = k.T d μ := by with_unfolding_all rfl
@[simp] theorem SR.Wp_bk : (SR.bk ρ μ).Wp k = k.B ρ μ := by with_unfolding_all rfl
@[simp] theorem SR.Wp_ct : (SR.ct ρ μ).Wp k = k.C ρ μ := by with_unfolding_all rfl
@[simp] theorem SR.Wp_er (x : X) : (SR.er x ρ μ).Wp k = k.E x ρ μ := by with_unfolding_all rfl
@[simp] theorem SR.Wp_bad : SR.bad.Wp k = False := by with_unfolding_all rfl
theorem SR.Wp_seq (r : SR) (f : Env → Store → SR) : (r.seq f).Wp k = r.Wp { k with N := fun ρ μ => (f ρ μ).Wp k } := by cases r <;> with_unfolding_all rfl
theorem SR.Wp_turn (r : SR) (f : Env → Store → SR) : (r.turn f).Wp k = r.Wp { k with N := fun ρ μ => (f ρ μ).Wp k, C := fun ρ μ => (f ρ μ).Wp k, B := k.N } := by cases r <;> with_unfolding_all rfl
theorem R.Wp_st {α : Type} (r : R α) (f : α → Store → SR) : (r.st ρ f).Wp k = r.Wp (fun a μ => (f a μ).Wp k) fun x μ => k.E x ρ μ := by cases r <;> with_unfolding_all rfl
theorem SR.Wp.imp {r : SR} {k' : Kt} (hr : r.Wp k) (n : ∀ ρ μ, k.N ρ μ → k'.N ρ μ) (t : ∀ d μ, k.T d μ → k'.T d μ) (b : ∀ ρ μ, k.B ρ μ → k'.B ρ μ) (c : ∀ ρ μ, k.C ρ μ → k'.C ρ μ) (e : ∀ x ρ μ, k.E x ρ μ → k'.E x ρ μ) : r.Wp k' := by
  cases r with
  | nx ρ μ => with_unfolding_all exact n _ _ hr
  | rt d μ => with_unfolding_all exact t _ _ hr
  | bk ρ μ => with_unfolding_all exact b _ _ hr
  | ct ρ μ => with_unfolding_all exact c _ _ hr
  | er x ρ μ => with_unfolding_all exact e _ _ _ hr
  | bad => with_unfolding_all exact hr
@[simp] theorem ws_nil : (Ss.den g h .nil ρ μ).Wp k = k.N ρ μ := by simp only [Ss.den] <;> with_unfolding_all rfl
@[simp] theorem ws_expr (e : E) (r : Ss) : (Ss.den g h (.cons (.expr e) r) ρ μ).Wp k = (E.den g h e ρ μ).Wp (fun _ μ => (Ss.den g h r ρ μ).Wp k) fun x μ => k.E x ρ μ := by
  simp only [Ss.den, St.den, SR.Wp_seq, R.Wp_st, SR.Wp_nx]
  first | done | with_unfolding_all rfl
@[simp] theorem ws_set (i : Nat) (e : E) (r : Ss) : (Ss.den g h (.cons (.set (.name i) e) r) ρ μ).Wp k = (E.den g h e ρ μ).Wp (fun d μ => (Ss.den g h r (ρ.set i (some d)) μ).Wp k) fun x μ => k.E x ρ μ := by
  simp only [Ss.den, St.den, SR.Wp_seq, R.Wp_st, SR.Wp_nx, Tg.den, Tg.put]
  first | done | with_unfolding_all rfl
@[simp] theorem SR.Wp_ite {c : Prop} [Decidable c] (r : SR) : (if c then r else SR.bad).Wp k = (c ∧ r.Wp k) := by
  by_cases h : c <;> simp [h]
@[simp] theorem ws_setT (is : List Nat) (e : E) (r : Ss) : (Ss.den g h (.cons (.set (.tup is) e) r) ρ μ).Wp k = (E.den g h e ρ μ).Wp (fun d μ => (Tg.den (.tup is) d ρ μ).Wp { k with N := fun ρ μ => (Ss.den g h r ρ μ).Wp k }) fun x μ => k.E x ρ μ := by
  simp only [Ss.den, St.den, SR.Wp_seq, R.Wp_st]
@[simp] theorem aug_int {g : G} (o : BO) (i : Int) (y : D) : augG g o (.int i) y μ = augD o (.int i) y μ := by with_unfolding_all rfl
@[simp] theorem aug_str {g : G} (o : BO) (i : S) (y : D) : augG g o (.str i) y μ = augD o (.str i) y μ := by with_unfolding_all rfl
@[simp] theorem ws_aug (i : Nat) (o : BO) (e : E) (r : Ss) : (Ss.den g h (.cons (.aug i o e) r) ρ μ).Wp k = (getV ρ i μ).Wp (fun x μ => (E.den g h e ρ μ).Wp (fun y μ => (augG g o x y μ).Wp (fun z μ => (Ss.den g h r (ρ.set i (some z)) μ).Wp k) fun x μ => k.E x ρ μ) fun x μ => k.E x ρ μ) fun x μ => k.E x ρ μ := by
  simp only [Ss.den, St.den, SR.Wp_seq, R.Wp_st]
  refine R.Wp_congr fun _ _ => ?_
  rw [R.Wp_st]
  refine R.Wp_congr fun _ _ => ?_
  rw [R.Wp_st]
  with_unfolding_all rfl
@[simp] theorem ws_ret (e : E) (r : Ss) : (Ss.den g h (.cons (.ret e) r) ρ μ).Wp k = (E.den g h e ρ μ).Wp k.T fun x μ => k.E x ρ μ := by
  simp only [Ss.den, St.den, SR.Wp_seq, R.Wp_st, SR.Wp_rt]
  first | done | with_unfolding_all rfl
@[simp] theorem ws_retN (r : Ss) : (Ss.den g h (.cons .retN r) ρ μ).Wp k = k.T .non μ := by
  simp only [Ss.den, St.den, SR.Wp_seq, SR.Wp_rt]
@[simp] theorem ws_iff (t : E) (a b r : Ss) : (Ss.den g h (.cons (.iff t a b) r) ρ μ).Wp k = (E.den g h t ρ μ).Wp (fun x μ => (truth x μ).Wp (fun c μ =>
    if c = true then (Ss.den g h a ρ μ).Wp { k with N := fun ρ μ => (Ss.den g h r ρ μ).Wp k } else (Ss.den g h b ρ μ).Wp { k with N := fun ρ μ => (Ss.den g h r ρ μ).Wp k }) fun x μ => k.E x ρ μ) fun x μ => k.E x ρ μ := by
  simp only [Ss.den, St.den, SR.Wp_seq, R.Wp_st]
  refine R.Wp_congr fun _ _ => ?_
  rw [R.Wp_st]
  refine R.Wp_congr fun c _ => ?_
  cases c <;> with_unfolding_all rfl
@[simp] theorem ws_brk (r : Ss) : (Ss.den g h (.cons .brk r) ρ μ).Wp k = k.B ρ μ := by simp only [Ss.den, St.den, SR.Wp_seq, SR.Wp_bk]
@[simp] theorem ws_cont (r : Ss) : (Ss.den g h (.cons .cont r) ρ μ).Wp k = k.C ρ μ := by simp only [Ss.den, St.den, SR.Wp_seq, SR.Wp_ct]
@[simp] theorem ws_pass (r : Ss) : (Ss.den g h (.cons .pass r) ρ μ).Wp k = (Ss.den g h r ρ μ).Wp k := by simp only [Ss.den, St.den, SR.Wp_seq, SR.Wp_nx]
@[simp] theorem ws_setA (o e : E) (f : String) (r : Ss) : (Ss.den g h (.cons (.setA o f e) r) ρ μ).Wp k = (E.den g h e ρ μ).Wp (fun v μ => (E.den g h o ρ μ).Wp (fun d μ => match setAD g d f v μ with
    | some μ' => (Ss.den g h r ρ μ').Wp k
    | none => False) fun x μ => k.E x ρ μ) fun x μ => k.E x ρ μ := by
  simp only [Ss.den, St.den, SR.Wp_seq, R.Wp_st]
  refine R.Wp_congr fun _ _ => ?_
  rw [R.Wp_st]
  refine R.Wp_congr fun d μ => ?_
  cases setAD g d f _ μ <;> with_unfolding_all rfl
@[simp] theorem ws_raise (c : String) (r : Ss) : (Ss.den g h (.cons (.raise c) r) ρ μ).Wp k = (g.exn c = true ∧ k.E ⟨c, []⟩ ρ μ) := by
  simp only [Ss.den, St.den, SR.Wp_seq]
  by_cases hc : g.exn c = true <;> simp [hc]
theorem ws_for (t : Tg) (it : It) (b r : Ss) : (Ss.den g h (.cons (.for_ t it b) r) ρ μ).Wp k = (It.den g h it ρ μ).Wp (fun w μ => (forD (fun d ρ μ => (t.den d ρ μ).seq fun ρ μ => Ss.den g h b ρ μ) w ρ μ).Wp { k with N := fun ρ μ => (Ss.den g h r ρ μ).Wp k }) fun x μ => k.E x ρ μ := by
  simp only [Ss.den, St.den, SR.Wp_seq, R.Wp_st]
theorem ws_try (b : Ss) (c : String) (i : Option Nat) (u r : Ss) : (Ss.den g h (.cons (.try_ b c i u) r) ρ μ).Wp k = (Ss.den g h b ρ μ).Wp { k with N := fun ρ μ => (Ss.den g h r ρ μ).Wp k, E := fun x ρ1 μ1 => match g.exm x.cls c with
      | some true => x.fs = [] ∧ (Ss.den g.cold (some x) u (seen i ρ1) μ1).Wp { N := fun ρ μ => (Ss.den g h r (clear i ρ) μ).Wp k, T := k.T, B := fun ρ μ => k.B (clear i ρ) μ, C := fun ρ μ => k.C (clear i ρ) μ }
      | some false => k.E x ρ1 μ1
      | none => False } := by
  simp only [Ss.den, St.den, SR.Wp_seq]
  cases Ss.den g h b ρ μ with
  | er x ρ1 μ1 =>
    simp only [SR.Wp_er]
    cases g.exm x.cls c with
    | none => with_unfolding_all rfl
    | some v =>
      cases v with
      | false => with_unfolding_all rfl
      | true =>
        simp only []
        cases hx : x.fs with
        | nil =>
          simp only [List.isEmpty_nil, if_true, true_and]
          cases Ss.den g.cold (some x) u (seen i ρ1) μ1 <;> with_unfolding_all rfl
        | cons a l => simp
  | nx ρ1 μ1 => with_unfolding_all rfl
  | rt d μ1 => with_unfolding_all rfl
  | bk ρ1 μ1 => with_unfolding_all rfl
  | ct ρ1 μ1 => with_unfolding_all rfl
  | bad => with_unfolding_all rfl
/-! ### loops -/
/-- over items: an invariant by the place -/
theorem wp_forP {body : D → Env → Store → SR} {ds : List D} (I : Nat → Env → Store → Prop) (hi : I 0 ρ μ) (hs : ∀ i d ρ μ, ds[i]? = some d → I i ρ μ → (body d ρ μ).Wp { k with N := I (i + 1), C := I (i + 1), B := k.N }) (he : ∀ ρ μ, I ds.length ρ μ → k.N ρ μ) : (forP body ds ρ μ).Wp k := by
  have gen : ∀ (n : Nat) (i : Nat) (ρ : Env) (μ : Store), n + i = ds.length → I i ρ μ → (forP body (ds.drop i) ρ μ).Wp k := by
    intro n
    induction n with
    | zero =>
      intro i ρ μ e h
      rw [List.drop_eq_nil_of_le (by omega)]
      simp only [forP, SR.Wp_nx]
      have : i = ds.length := by omega
      subst this
      exact he ρ μ h
    | succ n ih =>
      intro i ρ μ e h
      have hlt : i < ds.length := by omega
      rw [List.drop_eq_getElem_cons hlt]
      simp only [forP]
      rw [SR.Wp_turn]
      refine (hs i _ ρ μ (List.getElem?_eq_getElem hlt) h).imp (fun ρ μ h => ?_) (fun _ _ z => z) (fun _ _ z => z) (fun ρ μ h => ?_) (fun _ _ _ z => z)
      · exact ih (i + 1) ρ μ (by omega) h
      · exact ih (i + 1) ρ μ (by omega) h
  exact gen ds.length 0 ρ μ (by omega) hi
/-- over a list that stays -/
theorem wp_forL {body : D → Env → Store → SR} {l : Nat} {ds : List D} (I : Nat → Env → Store → Prop) (hl : ∀ i ρ μ, I i ρ μ → lstOf μ l = some ds) (hi : I 0 ρ μ) (hs : ∀ i d ρ μ, ds[i]? = some d → I i ρ μ → (body d ρ μ).Wp { k with N := I (i + 1), C := I (i + 1), B := k.N }) (he : ∀ ρ μ, I ds.length ρ μ → k.N ρ μ) :
    (forD body (.list l) ρ μ).Wp k := by
  have gen : ∀ (n : Nat) (i : Nat) (ρ : Env) (μ : Store), n + i = ds.length → I i ρ μ → (forL body l (n + 1) i ρ μ).Wp k := by
    intro n
    induction n with
    | zero =>
      intro i ρ μ e h
      rw [forL, hl i ρ μ h]
      simp only [List.getElem?_eq_none (show ds.length ≤ i by omega), SR.Wp_nx]
      have : i = ds.length := by omega
      subst this
      exact he ρ μ h
    | succ n ih =>
      intro i ρ μ e h
      have hlt : i < ds.length := by omega
      rw [forL, hl i ρ μ h]
      simp only [List.getElem?_eq_getElem hlt]
      rw [SR.Wp_turn]
      refine (hs i _ ρ μ (List.getElem?_eq_getElem hlt) h).imp (fun ρ μ h => ?_) (fun _ _ z => z) (fun _ _ z => z) (fun ρ μ h => ?_) (fun _ _ _ z => z)
      · exact ih (i + 1) ρ μ (by omega) h
      · exact ih (i + 1) ρ μ (by omega) h
  simp only [forD, hl 0 ρ μ hi]
  exact gen ds.length 0 ρ μ (by omega) hi
/-- while, by a measure -/
theorem wp_whl {test body : Env → Store → SR} {n : Nat} (I : Nat → Env → Store → Prop) (m : Nat) (hm : m < n) (hi : I m ρ μ)
    (hs : ∀ m ρ μ, I m ρ μ → (test ρ μ).Wp { N := k.N, T := k.T, B := fun ρ μ => k.B ρ μ, C := fun ρ1 μ1 => (body ρ1 μ1).Wp { k with N := fun ρ μ => ∃ m', m' < m ∧ I m' ρ μ, C := fun ρ μ => ∃ m', m' < m ∧ I m' ρ μ, B := k.N }, E := k.E }) : (whlF test body n ρ μ).Wp k := by
  have gen : ∀ (n m : Nat) (ρ : Env) (μ : Store), m < n → I m ρ μ → (whlF test body n ρ μ).Wp k := by
    intro n
    induction n with
    | zero => intro m ρ μ h; omega
    | succ n ih =>
      intro m ρ μ h1 h2
      rw [whlF]
      have z := hs m ρ μ h2
      cases e : test ρ μ with
      | ct ρ1 μ1 =>
        rw [e] at z
        simp only [SR.Wp_ct] at z
        simp only []
        rw [SR.Wp_turn]
        refine z.imp (fun ρ μ h => ?_) (fun _ _ z => z) (fun _ _ z => z) (fun ρ μ h => ?_) (fun _ _ _ z => z)
        · obtain ⟨m', hm', h'⟩ := h
          exact ih m' ρ μ (by omega) h'
        · obtain ⟨m', hm', h'⟩ := h
          exact ih m' ρ μ (by omega) h'
      | nx ρ1 μ1 => rw [e] at z; with_unfolding_all exact z
      | rt d μ1 => rw [e] at z; with_unfolding_all exact z
      | bk ρ1 μ1 => rw [e] at z; with_unfolding_all exact z
      | er x ρ1 μ1 => rw [e] at z; with_unfolding_all exact z
      | bad => rw [e] at z; with_unfolding_all exact z
  exact gen n m ρ μ hm hi
theorem ws_whl (t : E) (b r : Ss) : (Ss.den g h (.cons (.whl t b) r) ρ μ).Wp k = (whlF (fun ρ μ => testR ((E.den g h t ρ μ).bind fun x μ => truth x μ) ρ) (fun ρ μ => Ss.den g h b ρ μ) g.wf ρ μ).Wp { k with N := fun ρ μ => (Ss.den g h r ρ μ).Wp k } := by
  simp only [Ss.den, St.den, SR.Wp_seq]
theorem testR_wp (r : R Bool) : (testR r ρ).Wp k = r.Wp (fun b μ => if b = true then k.C ρ μ else k.N ρ μ) fun x μ => k.E x ρ μ := by
  unfold testR
  rw [R.Wp_st]
  refine R.Wp_congr fun b _ => ?_
  cases b <;> with_unfolding_all rfl
end
/-! ### defs -/
/-- the def is among the defs -/
structure Has (fs : List FD) (g0 : Gs) (f : FD) : Prop where
  at_ : findF fs f.key = some f
  par : g0.par f.key = (f.np, f.dfl)
  va : g0.va f.key = f.va
section
variable {fs : List FD} {g0 : Gs} {f : FD} {n : Nat}
/-- a def's call -/
theorem Has.wp (hf : Has fs g0 f) {as : List D} {μ : Store} {P : D → Store → Prop} {E : X → Store → Prop} (hl : as.length = f.np) (hw : (Ss.den (gN fs g0 n) none f.body (startE f.nn as) μ).Wp { N := fun _ μ => P .non μ, T := P, E := fun x _ μ => E x μ }) : (callN fs g0 (n + 1) f.key as μ).Wp P E := by
  have e : callN fs g0 (n + 1) f.key as μ = f.run (gN fs g0 n) as μ := by rw [callN, hf.at_] <;> with_unfolding_all rfl
  rw [e]
  unfold FD.run
  rw [if_pos hl]
  revert hw
  cases Ss.den (gN fs g0 n) none f.body (startE f.nn as) μ <;> with_unfolding_all exact id
theorem Has.callK (hf : Has fs g0 f) {key : String} {as : List D} {μ : Store} (hk : f.key = key) (hl : as.length = f.np) (hva : f.va = false := by rfl) : (gN fs g0 n).callF key as μ = callN fs g0 n key as μ := by
  subst hk
  unfold G.callF fill
  have : (gN fs g0 n).par f.key = (f.np, f.dfl) := hf.par
  have h2 : (gN fs g0 n).va f.key = false := hf.va.trans hva
  rw [this, if_neg (by rw [h2]; simp)]
  simp [hl, List.drop_of_length_le]
  with_unfolding_all rfl
/-- a call that leaves over what stands behind the first parameters -/
theorem Has.callV (hf : Has fs g0 f) {as bs : List D} (hva : f.va = true) (hl : as.length + 1 = f.np) (hb : as.length + bs.length ≤ line) (μ : Store) : (gN fs g0 n).callF f.key (as ++ bs) μ = callN fs g0 n f.key (as ++ [.tup bs]) μ := by
  unfold G.callF
  have h1 : (gN fs g0 n).par f.key = (f.np, f.dfl) := hf.par
  have h2 : (gN fs g0 n).va f.key = true := hf.va.trans hva
  rw [h1, if_pos h2]
  have e : f.np - 1 = as.length := by omega
  simp only [e, List.take_left, List.drop_left, List.length_append]
  rw [if_pos ⟨by omega, by omega, hb⟩]
  with_unfolding_all rfl
theorem Has.call (hf : Has fs g0 f) {as : List D} (hl : as.length = f.np) (μ : Store) (hva : f.va = false := by rfl) : (gN fs g0 n).callF f.key as μ = callN fs g0 n f.key as μ := hf.callK rfl hl hva
end
end Py
end

section
set_option linter.all false
set_option autoImplicit false
set_option maxHeartbeats 1000000
/-! Plain Lean: the defs that the laws share. -/
namespace Py
/-! ### the draws -/
/-- the draws lie at 0 -/
def Dr (μ : Store) : Prop := ∃ l : List Int, μ[0]? = some (.lst (l.map .int)) ∧ ∀ i ∈ l, 0 ≤ i
/-- nothing but the draws is changed -/
structure Fr (μ μ' : Store) : Prop where
  dr : Dr μ'
  len : μ.length ≤ μ'.length
  old : ∀ j, j ≠ 0 → j < μ.length → μ'[j]? = μ[j]?
theorem Fr.refl {μ : Store} (h : Dr μ) : Fr μ μ := ⟨h, Nat.le_refl _, fun _ _ _ => rfl⟩
theorem Fr.trans {μ μ' μ'' : Store} (a : Fr μ μ') (b : Fr μ' μ'') : Fr μ μ'' := ⟨b.dr, Nat.le_trans a.len b.len, fun j h1 h2 => (b.old j h1 (Nat.lt_of_lt_of_le h2 a.len)).trans (a.old j h1 h2)⟩
theorem Dr.pos {μ : Store} (h : Dr μ) : 0 < μ.length := by
  obtain ⟨l, h0, _⟩ := h
  exact (List.getElem?_eq_some_iff.mp h0).1
theorem Fr.push {μ : Store} (h : Dr μ) (o : MO) : Fr μ (μ ++ [o]) := by
  have hp := h.pos
  obtain ⟨l, h0, hl⟩ := h
  refine ⟨⟨l, by rw [List.getElem?_append_left hp]; exact h0, hl⟩, by simp, fun j _ hj => List.getElem?_append_left hj⟩
section
variable {fs : List FD} {g0 : Gs} {n : Nat} {μ : Store}
theorem law_draw (hf : Has fs g0 C.f__law_draw) (hd : Dr μ) {m : Int} (hm : 0 < m) : (callN fs g0 (n + 1) "_law_draw" [.obj 0, .int m] μ).Wp (fun d μ' => ∃ i : Int, d = .int i ∧ 0 ≤ i ∧ i < m ∧ Fr μ μ') noE := by
  obtain ⟨l, h0, hp⟩ := id hd
  have hlt := hd.pos
  refine hf.wp (as := [.obj 0, .int m]) rfl ?_
  simp only [C.f__law_draw, C.b__law_draw, startE, List.map]
  simp [bif_lenL h0]
  by_cases hz : l.length = 0
  · have hz' : l = [] := List.length_eq_zero_iff.mp hz
    subst hz'
    simp
    exact ⟨hm, Fr.refl hd⟩
  · have : ¬ ((l.length : Int) = 0) := by omega
    simp [this, recv, h0, methD, lmeth]
    obtain ⟨r, a, rfl⟩ : ∃ r a, l = r ++ [a] := ⟨l.dropLast, l.getLast (by intro z; simp [z] at hz), (List.dropLast_concat_getLast _).symm⟩
    have hm0 : m ≠ 0 := by omega
    simp [op_mod _ _ hm0]
    refine ⟨?_, ?_, ⟨r, by simp [hlt], fun i hi => hp i (by simp [hi])⟩, by simp, fun j hj _ => by rw [List.getElem?_set_ne (by omega)]⟩
    · exact Int.fmod_nonneg_of_pos _ hm
    · exact Int.fmod_lt_of_pos _ hm

theorem okR_of {i : Int} (h1 : -1000 ≤ i) (h2 : i ≤ 1000000) : okR i = true := by
  unfold okR
  simp only [Bool.and_eq_true, decide_eq_true_eq]
  omega
theorem rints_at {n : Nat} {i : Nat} {d : D} : ∀ {lo : Int}, (rints lo n)[i]? = some d → i < n ∧ d = .int (lo + i) := by
  induction n generalizing i with
  | zero => intro lo h; simp [rints] at h
  | succ n ih =>
    intro lo h
    cases i with
    | zero => simp [rints] at h; exact ⟨by omega, by rw [← h]; simp⟩
    | succ i =>
      simp only [rints, List.getElem?_cons_succ] at h
      obtain ⟨h1, h2⟩ := ih h
      exact ⟨by omega, by rw [h2]; congr 1; omega⟩
theorem rints_len (n : Nat) : ∀ lo : Int, (rints lo n).length = n := by
  induction n with
  | zero => intro lo; rfl
  | succ n ih => intro lo; simp [rints, ih]
/-- the draws so far -/
def DrS (μ : Store) (m : Nat) : Prop := ∃ l : List Int, μ = [.lst (l.map .int)] ∧ (∀ i ∈ l, 0 ≤ i) ∧ l.length ≤ m
theorem DrS.push {m : Nat} {l : List Int} (h : ∀ i ∈ l, 0 ≤ i) (hl : l.length ≤ m) {i : Int} (hi : 0 ≤ i) : DrS [.lst (l.map D.int ++ [.int i])] (m + 1) :=
  ⟨l ++ [i], by simp, fun j hj => by
    simp at hj
    rcases hj with hj | rfl
    · exact h j hj
    · exact hi, by simp; omega⟩
theorem law_draws (hf : Has fs g0 C.f__law_draws) (ns : List Int) (hn : ns.length ≤ 63) : (callN fs g0 (n + 1) "_law_draws" [.fz (ns.map .int)] []).Wp (fun d μ' => d = .obj 0 ∧ DrS μ' 4000) noE := by
  refine hf.wp (as := [.fz (ns.map .int)]) rfl ?_
  simp only [C.f__law_draws, C.b__law_draws, startE, List.map]
  simp [ws_for, forD]
  refine wp_forP (fun i ρ μ => DrS μ (60 * i) ∧ ∃ a b c, ρ = [some (.fz (ns.map .int)), some (.obj 0), a, b, c]) ⟨⟨[], rfl, by simp, by simp⟩, none, none, none, rfl⟩ ?_ ?_
  · rintro i d ρ μ hd ⟨⟨l, rfl, hl, hlen⟩, a, b, c, rfl⟩
    have hi : i < 63 := by
      have := (List.getElem?_eq_some_iff.mp hd).1
      simp at this
      omega
    obtain ⟨z, hz, rfl⟩ : ∃ z, ns[i]? = some z ∧ d = .int z := by
      rw [List.getElem?_map] at hd
      cases h : ns[i]? with
      | none => rw [h] at hd; cases hd
      | some z => rw [h] at hd; cases hd; exact ⟨z, rfl, rfl⟩
    rw [SR.Wp_seq]
    simp [Tg.den, Tg.put]
    have hp : (10 : Int) ^ 18 = 1000000000000000000 := by decide
    have hpw : bopG (gN fs g0 n) .pow (.int 10) (.int 18) [.lst (l.map D.int)] = .ok (.int 1000000000000000000) [.lst (l.map D.int)] := by
      rw [op_pow _ _ (by decide)]; rfl
    simp [hpw]
    by_cases hz : 1000000000000000000 ≤ z
    · simp [hz, ws_for, range_ok (okR_of (i := 0) (by decide) (by decide)) (okR_of (i := 60) (by decide) (by decide)), forD]
      refine wp_forP (fun j ρ μ => DrS μ (60 * i + j) ∧ ∃ r c, 0 ≤ r ∧ ρ = [some (.fz (ns.map .int)), some (.obj 0), some (.int z), some (.int r), c]) ⟨⟨l, rfl, hl, by omega⟩, z, c, by omega, rfl⟩ ?_ ?_
      · rintro j d ρ μ hd ⟨⟨l, rfl, hl, hlen⟩, r, c, hr, rfl⟩
        obtain ⟨hj, rfl⟩ := rints_at hd
        rw [SR.Wp_seq]
        simp [Tg.den, Tg.put]
        by_cases hr0 : 0 < r
        · have hlt : l.length < line := by show l.length < 16777216; omega
          simp [hr0, recv, methD, lmeth, op_mod _ 1000 (by decide), op_fdiv _ 1000 (by decide), hlt]
          exact ⟨DrS.push hl hlen (Int.fmod_nonneg_of_pos _ (by decide)), Int.fdiv_nonneg (by omega) (by decide)⟩
        · simp [hr0]
          exact ⟨⟨l, rfl, hl, by omega⟩, hr⟩
      · rintro ρ μ ⟨⟨l, rfl, hl, hlen⟩, r, c, hr, rfl⟩
        rw [rints_len] at hlen
        simp only [ws_nil]
        exact ⟨⟨l, rfl, hl, by omega⟩, _, _, _, rfl⟩
    · have hm : okMul z 48271 = true := by simp [okMul]
      simp [hz, ws_for, range_ok (okR_of (i := 0) (by decide) (by decide)) (okR_of (i := 4) (by decide) (by decide)), forD, op_mul _ _ hm, op_mod _ 2147483647 (by decide)]
      refine wp_forP (fun j ρ μ => DrS μ (60 * i + j) ∧ ∃ r c, 0 ≤ r ∧ ρ = [some (.fz (ns.map .int)), some (.obj 0), some (.int z), some (.int r), c]) ⟨⟨l, rfl, hl, by omega⟩, _, c, Int.fmod_nonneg_of_pos _ (by decide), rfl⟩ ?_ ?_
      · rintro j d ρ μ hd ⟨⟨l, rfl, hl, hlen⟩, r, c, hr, rfl⟩
        obtain ⟨hj, rfl⟩ := rints_at hd
        rw [SR.Wp_seq]
        have hm : okMul r 69621 = true := by simp [okMul]
        have hlt : l.length < line := by show l.length < 16777216; omega
        have hj4 : j < 4 := by simpa using hj
        simp [Tg.den, Tg.put, op_mul _ _ hm, op_mod _ 2147483629 (by decide), recv, methD, lmeth, op_mod _ 1000 (by decide), op_fdiv _ 7 (by decide), hlt]
        exact ⟨DrS.push hl hlen (Int.fmod_nonneg_of_pos _ (by decide)), Int.fmod_nonneg_of_pos _ (by decide)⟩
      · rintro ρ μ ⟨⟨l, rfl, hl, hlen⟩, r, c, hr, rfl⟩
        rw [rints_len] at hlen
        simp only [ws_nil]
        exact ⟨⟨l, rfl, hl, by omega⟩, _, _, _, rfl⟩
  · rintro ρ μ ⟨⟨l, rfl, hl, hlen⟩, a, b, c, rfl⟩
    simp [recv, methD, lmeth]
    refine ⟨l.reverse, by simp, fun i hi => hl i (by simpa using hi), ?_⟩
    simp at hlen ⊢
    omega

/-! ### isinstance of the basic types -/
def bTys : List String := ["NoneType", "bool", "int", "str", "tuple", "list"]
def bCl (c : String) : Bool := c == "bool" || c == "int" || c == "str" || c == "tuple" || c == "list"
def subT (t c : String) : Bool := t == c || (t == "bool" && c == "int")
structure Bt (g0 : Gs) : Prop where
  sub : ∀ t c, t ∈ bTys → bCl c = true → g0.sub t c = some (subT t c)
@[simp] theorem gN_sub (t c : String) : (gN fs g0 n).sub t c = g0.sub t c := rfl
theorem isi_of {d : D} {t c : String} (h : tyOf (gN fs g0 n) d μ = some t) {b : Bool} (hs : g0.sub t c = some b) : isiD (gN fs g0 n) d [c] μ = .ok (.bl b) μ := by
  unfold isiD
  rw [h]
  simp [anySub, hs]
  cases b <;> rfl
theorem Bt.isi (b : Bt g0) {d : D} {t c : String} (h : tyOf (gN fs g0 n) d μ = some t) (h1 : t ∈ bTys) (h2 : bCl c = true) : isiD (gN fs g0 n) d [c] μ = .ok (.bl (subT t c)) μ := isi_of h (b.sub t c h1 h2)
theorem Bt.isi_int (b : Bt g0) (i : Int) {c : String} (h : bCl c = true) : isiD (gN fs g0 n) (.int i) [c] μ = .ok (.bl (subT "int" c)) μ := b.isi (t := "int") rfl (by simp [bTys]) h
theorem Bt.isi_bl (b : Bt g0) (k : Bool) {c : String} (h : bCl c = true) : isiD (gN fs g0 n) (.bl k) [c] μ = .ok (.bl (subT "bool" c)) μ := b.isi (t := "bool") rfl (by simp [bTys]) h
theorem Bt.isi_str (b : Bt g0) (s : S) {c : String} (h : bCl c = true) : isiD (gN fs g0 n) (.str s) [c] μ = .ok (.bl (subT "str" c)) μ := b.isi (t := "str") rfl (by simp [bTys]) h
theorem Bt.isi_tup (b : Bt g0) (ds : List D) {c : String} (h : bCl c = true) : isiD (gN fs g0 n) (.tup ds) [c] μ = .ok (.bl (subT "tuple" c)) μ := b.isi (t := "tuple") rfl (by simp [bTys]) h
theorem Bt.isi_non (b : Bt g0) {c : String} (h : bCl c = true) : isiD (gN fs g0 n) .non [c] μ = .ok (.bl (subT "NoneType" c)) μ := b.isi (t := "NoneType") rfl (by simp [bTys]) h
theorem Bt.isi_lst (b : Bt g0) {i : Nat} {l : List D} (e : μ[i]? = some (.lst l)) {c : String} (h : bCl c = true) : isiD (gN fs g0 n) (.obj i) [c] μ = .ok (.bl (subT "list" c)) μ := b.isi (t := "list") (by simp [tyOf, e]) (by simp [bTys]) h
/-- plain data of a depth -/
def D.flatB : D → Bool
  | .bl _ => true
  | .int _ => true
  | .str _ => true
  | .non => true
  | _ => false
mutual
def D.deep : Nat → D → Prop
  | _, .non => True
  | _, .bl _ => True
  | _, .int _ => True
  | _, .str s => okS s = true ∧ s.length ≤ line
  | 0, .tup _ => False
  | n + 1, .tup ds => ds.length ≤ 1000 ∧ D.deeps n ds
  | _, _ => False
def D.deeps : Nat → List D → Prop
  | _, [] => True
  | n, d :: ds => D.deep n d ∧ D.deeps n ds
end
mutual
theorem D.deep_plain : ∀ (n : Nat) (d : D), D.deep n d → D.plain n d = true
  | _, .non, _ => rfl
  | _, .bl _, _ => rfl
  | _, .int _, _ => rfl
  | _, .str s, h => by
    unfold D.deep at h
    unfold D.plain
    simp [h.1, h.2]
  | 0, .tup _, h => by unfold D.deep at h; exact h.elim
  | n + 1, .tup ds, h => by
    unfold D.deep at h
    unfold D.plain
    exact D.deeps_plain n ds h.2
  | _, .obj _, h => by unfold D.deep at h; exact h.elim
  | _, .cls _, h => by unfold D.deep at h; exact h.elim
  | _, .ty _, h => by unfold D.deep at h; exact h.elim
  | _, .fz _, h => by unfold D.deep at h; exact h.elim
  | _, .opq, h => by unfold D.deep at h; exact h.elim
theorem D.deeps_plain : ∀ (n : Nat) (ds : List D), D.deeps n ds → D.plains n ds = true
  | _, [], _ => by unfold D.plains; rfl
  | n, d :: ds, h => by
    unfold D.deeps at h
    unfold D.plains
    simp [D.deep_plain n d h.1, D.deeps_plain n ds h.2]
end
mutual
theorem deep_mono : ∀ (k m : Nat) (d : D), k ≤ m → D.deep k d → D.deep m d
  | k, m, .non, _, _ => by unfold D.deep; trivial
  | k, m, .bl _, _, _ => by unfold D.deep; trivial
  | k, m, .int _, _, _ => by unfold D.deep; trivial
  | k, m, .str s, _, h => by unfold D.deep at h ⊢; exact h
  | 0, m, .tup _, _, h => by unfold D.deep at h; exact h.elim
  | k + 1, 0, .tup ds, hk, h => by omega
  | k + 1, m + 1, .tup ds, hk, h => by
    unfold D.deep at h ⊢
    exact ⟨h.1, deeps_mono k m ds (by omega) h.2⟩
  | _, _, .obj _, _, h => by unfold D.deep at h; exact h.elim
  | _, _, .cls _, _, h => by unfold D.deep at h; exact h.elim
  | _, _, .ty _, _, h => by unfold D.deep at h; exact h.elim
  | _, _, .fz _, _, h => by unfold D.deep at h; exact h.elim
  | _, _, .opq, _, h => by unfold D.deep at h; exact h.elim
theorem deeps_mono : ∀ (k m : Nat) (ds : List D), k ≤ m → D.deeps k ds → D.deeps m ds
  | _, _, [], _, _ => by unfold D.deeps; trivial
  | k, m, d :: ds, hk, h => by
    unfold D.deeps at h ⊢
    exact ⟨deep_mono k m d hk h.1, deeps_mono k m ds hk h.2⟩
end
mutual
theorem D.eqv_self : ∀ (n : Nat) (d : D), D.deep n d → D.eqv d d = true
  | _, .non, _ => rfl
  | _, .bl b, _ => by simp [D.eqv]
  | _, .int _, _ => by simp [D.eqv]
  | _, .str s, h => by simp [D.eqv]
  | 0, .tup _, h => by unfold D.deep at h; exact h.elim
  | n + 1, .tup ds, h => by
    unfold D.deep at h
    unfold D.eqv
    exact D.eqvs_self n ds h.2
  | _, .obj _, h => by unfold D.deep at h; exact h.elim
  | _, .cls _, h => by unfold D.deep at h; exact h.elim
  | _, .ty _, h => by unfold D.deep at h; exact h.elim
  | _, .fz _, h => by unfold D.deep at h; exact h.elim
  | _, .opq, h => by unfold D.deep at h; exact h.elim
theorem D.eqvs_self : ∀ (n : Nat) (ds : List D), D.deeps n ds → D.eqvs ds ds = true
  | _, [], _ => rfl
  | n, d :: ds, h => by
    unfold D.deeps at h
    unfold D.eqvs
    simp [D.eqv_self n d h.1, D.eqvs_self n ds h.2]
end
theorem eqD_self {n : Nat} {d : D} (h : D.deep n d) (hn : n ≤ 60) : eqD d d μ = .ok true μ := by
  have h1 : D.plain 60 d = true := by
    have : ∀ (k m : Nat) (d : D), k ≤ m → D.deep k d → D.deep m d := deep_mono
    exact D.deep_plain 60 d (this n 60 d hn h)
  have h2 := D.eqv_self n d h
  unfold eqD
  split
  · unfold D.deep at h
    exact h.elim
  · simp [h1, h2]
theorem cop_eq_self {k : Nat} {d : D} (h : D.deep k d) (hn : k ≤ 60) : copG (gN fs g0 n) .eq d d μ = .ok (.bl true) μ := by
  have : insOf d μ = none := by
    cases d <;> first | rfl | (unfold D.deep at h; exact h.elim)
  rw [cop_own this]
  simp [cop, eqD_self h hn]
theorem deeps_get : ∀ {k : Nat} {ds : List D} {i : Nat} {d : D}, D.deeps k ds → ds[i]? = some d → D.deep k d
  | k, [], i, d, h, e => by simp at e
  | k, a :: r, 0, d, h, e => by
    unfold D.deeps at h
    simp at e
    subst e
    exact h.1
  | k, a :: r, i + 1, d, h, e => by
    unfold D.deeps at h
    exact deeps_get h.2 (by simpa using e)
theorem atI_nat {α : Type} (xs : List α) (i : Nat) : atI xs (i : Int) = xs[i]? := by
  unfold atI ixN
  rw [if_pos (by omega)]
  by_cases h : i < xs.length
  · rw [if_pos (by omega)]
    rfl
  · rw [if_neg (by omega)]
    simp only [Option.bind_none]
    exact (List.getElem?_eq_none (by omega)).symm
theorem law_same (hf : Has fs g0 C.f__law_same) (b : Bt g0) : ∀ (n k : Nat) (d : D) (μ : Store), k < n → k ≤ 60 → D.deep k d → (callN fs g0 n "_law_same" [d, d] μ).Wp (fun v μ' => v = .bl true ∧ μ' = μ) noE := by
  intro n
  induction n with
  | zero => intro k d μ h; omega
  | succ n ih =>
    intro k d μ h h60 hd
    have heq := fun μ => cop_eq_self (fs := fs) (g0 := g0) (n := n) (μ := μ) hd h60
    refine hf.wp (as := [d, d]) rfl ?_
    simp only [C.f__law_same, C.b__law_same, startE, List.map]
    cases d with
    | non => simp [b.isi_non, bCl, subT, isAble, isNon]
    | bl k => simp [b.isi_bl, bCl, subT, isAble, isNon, heq]
    | int i => simp [b.isi_int, bCl, subT, isAble, isNon, heq]
    | str s => simp [b.isi_str, bCl, subT, isAble, isNon, heq]
    | tup ds =>
      cases k with
      | zero => unfold D.deep at hd; exact hd.elim
      | succ k =>
        unfold D.deep at hd
        have hl : okR (ds.length : Int) = true := okR_of (by omega) (by omega)
        rw [ws_iff]
        simp [-ws_iff, b.isi_tup, bCl, subT, isAble, isNon]
        rw [ws_iff]
        simp [-ws_iff, b.isi_tup, bCl, subT, isAble, isNon]
        rw [ws_iff]
        simp [-ws_iff, b.isi_tup, bCl, subT, isAble, isNon]
        rw [ws_iff]
        simp [-ws_iff, b.isi_tup, bCl, subT, isAble, isNon]
        rw [ws_iff]
        simp [-ws_iff, b.isi_tup, bCl, subT, isAble, isNon]
        rw [ws_iff]
        simp [-ws_iff, b.isi_tup, bCl, subT, isAble, isNon]
        rw [ws_iff]
        simp [-ws_iff, b.isi_tup, bCl, subT, isAble, isNon]
        simp [ws_for, range_ok (okR_of (i := 0) (by decide) (by decide)) hl, forD]
        refine wp_forP (fun i ρ μ' => μ' = μ ∧ ∃ c, ρ = [some (.tup ds), some (.tup ds), c]) ⟨rfl, none, rfl⟩ ?_ ?_
        · rintro i d ρ μ' hi ⟨rfl, c, rfl⟩
          obtain ⟨hi1, rfl⟩ := rints_at hi
          rw [SR.Wp_seq]
          have hlt : i < ds.length := by omega
          have e : atI ds (i : Int) = some ds[i] := by rw [atI_nat]; exact List.getElem?_eq_getElem hlt
          simp [Tg.den, Tg.put, e]
          rw [hf.callK (key := "_law_same") (as := [ds[i], ds[i]]) rfl rfl]
          refine (ih k ds[i] μ' (by omega) (by omega) (deeps_get hd.2 (List.getElem?_eq_getElem hlt))).to fun v μ'' hv => ?_
          obtain ⟨rfl, rfl⟩ := hv
          simp
        · rintro ρ μ' ⟨rfl, c, rfl⟩
          simp
    | obj i => unfold D.deep at hd; exact hd.elim
    | cls c => unfold D.deep at hd; exact hd.elim
    | ty c => unfold D.deep at hd; exact hd.elim
    | fz c => unfold D.deep at hd; exact hd.elim
    | opq => unfold D.deep at hd; exact hd.elim
end
end Py
end

section
set_option linter.all false
set_option autoImplicit false
/-! Plain Lean: a law's tables without the library; facts found by instances. -/
namespace Pn
open Py
/-! ### what a table says, as instances -/
class HasF (fs : List FD) (g0 : Gs) (f : FD) : Prop where
  has : Has fs g0 f
class GMeth (g0 : Gs) (c m : String) (k : outParam String) : Prop where
  eq : g0.meth c m = some k
class NMeth (g0 : Gs) (c m : String) : Prop where
  eq : g0.meth c m = none
class GProp (g0 : Gs) (c m : String) (k : outParam String) : Prop where
  eq : g0.prop c m = some k
class NProp (g0 : Gs) (c m : String) : Prop where
  eq : g0.prop c m = none
class GCon (g0 : Gs) (c m : String) (k : outParam D) : Prop where
  eq : g0.con c m = some k
class GFld (g0 : Gs) (c m : String) : Prop where
  eq : g0.fld c m = true
class GInit (g0 : Gs) (c : String) (k : outParam String) : Prop where
  eq : g0.init c = some k
class GClm (g0 : Gs) (c m : String) (k : outParam String) : Prop where
  eq : g0.clm c m = some k
class GCval (g0 : Gs) (c m : String) (k : outParam D) : Prop where
  eq : g0.cval c m = some k
class GGlo (g0 : Gs) (c : String) (k : outParam D) : Prop where
  eq : g0.glo c = some k
class GSub (g0 : Gs) (t c : String) (b : outParam Bool) : Prop where
  eq : g0.sub t c = some b
class GExm (g0 : Gs) (t c : String) (b : outParam Bool) : Prop where
  eq : g0.exm t c = some b
class GExn (g0 : Gs) (c : String) : Prop where
  eq : g0.exn c = true
class GNf (g0 : Gs) (c t : String) : Prop where
  eq : g0.nfst c t = true
class GDne (g0 : Gs) (c : String) : Prop where
  eq : g0.dne c = true
class GBl (g0 : Gs) (c t : String) (o : BO) : Prop where
  eq : g0.bl c t o = true
class GBr (g0 : Gs) (c t : String) (o : BO) : Prop where
  eq : g0.br c t o = true
  nbl : g0.bl t c o = false
class GNsq (g0 : Gs) (c : String) : Prop where
  eq : g0.nsq c = true
class GIns (g0 : Gs) (c : String) : Prop where
  eq : g0.insc c = true
class GWf (g0 : Gs) : Prop where
  eq : g0.wf = 10 ^ 40
/-- of a table: what holds of all the basic types -/
theorem Gs.bt_of {g0 : Gs} (h : (["NoneType", "bool", "int", "str", "tuple", "list"].all fun t => ["bool", "int", "str", "tuple", "list"].all fun c => g0.sub t c == some (t == c || (t == "bool" && c == "int"))) = true) (t c : String) (ht : t ∈ ["NoneType", "bool", "int", "str", "tuple", "list"]) (hc : (c == "bool" || c == "int" || c == "str" || c == "tuple" || c == "list") = true) :
    g0.sub t c = some (t == c || (t == "bool" && c == "int")) := by
  simp only [List.all_eq_true, beq_iff_eq] at h
  refine h t ht c ?_
  simp only [Bool.or_eq_true, beq_iff_eq] at hc
  rcases hc with (((rfl | rfl) | rfl) | rfl) | rfl <;> simp
section
variable {fs : List FD} {g0 : Gs} {n : Nat} {c m k t : String}
@[simp] theorem gN_gs : (gN fs g0 n).toGs = g0 := (rfl)
@[simp] theorem gcold_gs (g : G) : g.cold.toGs = g.toGs := (rfl)
@[simp] theorem g_meth [h : GMeth g0 c m k] : g0.meth c m = some k := h.eq
@[simp] theorem g_nmeth [h : NMeth g0 c m] : g0.meth c m = none := h.eq
@[simp] theorem g_prop [h : GProp g0 c m k] : g0.prop c m = some k := h.eq
@[simp] theorem g_nprop [h : NProp g0 c m] : g0.prop c m = none := h.eq
@[simp] theorem g_con {d : D} [h : GCon g0 c m d] : g0.con c m = some d := h.eq
@[simp] theorem g_fld [h : GFld g0 c m] : g0.fld c m = true := h.eq
@[simp] theorem g_init [h : GInit g0 c k] : g0.init c = some k := h.eq
@[simp] theorem g_clm [h : GClm g0 c m k] : g0.clm c m = some k := h.eq
@[simp] theorem g_cval {d : D} [h : GCval g0 c m d] : g0.cval c m = some d := h.eq
@[simp] theorem g_glo {d : D} [h : GGlo g0 c d] : g0.glo c = some d := h.eq
@[simp] theorem g_sub {b : Bool} [h : GSub g0 t c b] : g0.sub t c = some b := h.eq
@[simp] theorem g_exm {b : Bool} [h : GExm g0 t c b] : g0.exm t c = some b := h.eq
@[simp] theorem g_exn [h : GExn g0 c] : g0.exn c = true := h.eq
@[simp] theorem g_nf [h : GNf g0 c t] : g0.nfst c t = true := h.eq
@[simp] theorem g_dne [h : GDne g0 c] : g0.dne c = true := h.eq
@[simp] theorem g_bl {o : BO} [h : GBl g0 c t o] : g0.bl c t o = true := h.eq
@[simp] theorem g_br {o : BO} [h : GBr g0 c t o] : g0.br c t o = true := h.eq
@[simp] theorem g_nbl {o : BO} [h : GBr g0 c t o] : g0.bl t c o = false := h.nbl
@[simp] theorem g_nsq [h : GNsq g0 c] : g0.nsq c = true := h.eq
@[simp] theorem g_ins [h : GIns g0 c] : g0.insc c = true := h.eq
/-! ### simp lemmas -/
@[simp] theorem line_eq : line = 16777216 := (rfl)
@[simp] theorem op_mod' {μ : Store} {g : G} (i j : Int) (hj : j ≠ 0) : bopG g .mod (.int i) (.int j) μ = .ok (.int (i.fmod j)) μ := op_mod i j hj
@[simp] theorem op_fdiv' {μ : Store} {g : G} (i j : Int) (hj : j ≠ 0) (h2 : j.natAbs < 1073741824) : bopG g .fdiv (.int i) (.int j) μ = .ok (.int (i.fdiv j)) μ := op_fdiv i j ⟨hj, h2⟩
@[simp] theorem lstOf_eq (μ : Store) (i : Nat) : lstOf μ i = match μ[i]? with
  | some (.lst ds) => some ds
  | _ => none := by unfold lstOf; rfl
@[simp] theorem idx_obj {μ : Store} (o : Nat) (i : Int) : idx (.obj o) (.int i) μ = match lstOf μ o with
    | some ds => (match atI ds i with
      | some d => .ok d μ
      | none => .bad)
    | none => .bad := (rfl)
@[simp] theorem truth_obj {μ : Store} (i : Nat) : truth (.obj i) μ = match lstOf μ i with
    | some ds => .ok (!ds.isEmpty) μ
    | none => .bad := (rfl)
@[simp] theorem over_obj {μ : Store} (i : Nat) : overD (.obj i) μ = match lstOf μ i with
    | some _ => .ok (.list i) μ
    | none => .bad := (rfl)
@[simp] theorem insOf_obj {μ : Store} (i : Nat) : insOf (.obj i) μ = match μ[i]? with
    | some (.ins c _) => some c
    | _ => none := (rfl)
@[simp] theorem recv_obj {μ : Store} {g : G} (i : Nat) (m : String) : recv g (.obj i) m μ = match μ[i]? with
    | some (.lst _) => if m = "append" ∨ m = "pop" ∨ m = "reverse" then some (.lst i) else none
    | some (.ins c fs) => (match g.meth c m, fs.lookup m with
      | some key, none => some (.own key)
      | _, _ => none)
    | _ => none := (rfl)
@[simp] theorem methD_lst {μ : Store} {g : G} (i : Nat) (m : String) (d : D) (as : List D) : methD g (.lst i) d m as μ = lmeth i m as μ := (rfl)
@[simp] theorem methD_own {μ : Store} {g : G} (k m : String) (d : D) (as : List D) : methD g (.own k) d m as μ = g.callF k (d :: as) μ := (rfl)
@[simp] theorem lmeth_append {μ : Store} (i : Nat) (x : D) : lmeth i "append" [x] μ = match μ[i]? with
    | some (.lst ds) => if ds.length < line then .ok .non (μ.set i (.lst (ds ++ [x]))) else .bad
    | _ => .bad := by
  unfold lmeth
  cases h : μ[i]? with
  | none => rfl
  | some o => cases o <;> rfl
@[simp] theorem lmeth_pop {μ : Store} (i : Nat) : lmeth i "pop" [] μ = match μ[i]? with
    | some (.lst ds) => (match ds.getLast? with
      | some x => .ok x (μ.set i (.lst ds.dropLast))
      | none => .bad)
    | _ => .bad := by
  unfold lmeth
  cases h : μ[i]? with
  | none => rfl
  | some o => cases o <;> rfl
@[simp] theorem lmeth_reverse {μ : Store} (i : Nat) : lmeth i "reverse" [] μ = match μ[i]? with
    | some (.lst ds) => .ok .non (μ.set i (.lst ds.reverse))
    | _ => .bad := by
  unfold lmeth
  cases h : μ[i]? with
  | none => rfl
  | some o => cases o <;> rfl
@[simp] theorem at_app0 {α : Type} (μ ν : List α) : (μ ++ ν)[μ.length]? = ν[0]? := by rw [List.getElem?_append_right (by omega)]; simp
@[simp] theorem at_appk {α : Type} (μ ν : List α) (k : Nat) : (μ ++ ν)[μ.length + k]? = ν[k]? := by rw [List.getElem?_append_right (by omega)]; simp
@[simp] theorem set_app0 {α : Type} (μ ν : List α) (x : α) : (μ ++ ν).set μ.length x = μ ++ ν.set 0 x := by rw [List.set_append_right _ _ (by omega)]; simp
@[simp] theorem set_appk {α : Type} (μ ν : List α) (k : Nat) (x : α) : (μ ++ ν).set (μ.length + k) x = μ ++ ν.set k x := by rw [List.set_append_right _ _ (by omega)]; simp
@[simp] theorem setAll_nil (ds : List D) (ρ : Env) : setAll [] ds ρ = ρ := by cases ds <;> rfl
@[simp] theorem setAll_cons (i : Nat) (is : List Nat) (d : D) (ds : List D) (ρ : Env) : setAll (i :: is) (d :: ds) ρ = setAll is ds (ρ.set i (some d)) := (rfl)
theorem at_old {α : Type} {μ ν : List α} {i : Nat} {o : α} (h : μ[i]? = some o) : (μ ++ ν)[i]? = some o := by
  rw [List.getElem?_append_left (List.getElem?_eq_some_iff.mp h).1]
  exact h
@[simp] theorem attr_obj {μ : Store} {g : G} (i : Nat) (f : String) : attrD g (.obj i) f μ = match μ[i]? with
    | some (.ins c fs) => (match g.prop c f with
      | some key => (match g.callF key [.obj i] μ with
        | .ok v μ' => .ok v μ'
        | _ => .bad)
      | none => (match fs.lookup f with
        | some v => if g.fld c f = true then .ok v μ else .bad
        | none => (match g.con c f with
          | some v => .ok v μ
          | none => .bad)))
    | _ => .bad := (rfl)
theorem newD_eq {μ : Store} {g : G} (c : String) (as : List D) : newD g c as μ = match g.init c with
  | some key => (g.callF key (.obj μ.length :: as) (μ ++ [.ins c []])).bind fun v μ' => if isNon v = true then .ok (.obj μ.length) μ' else .bad
  | none => .bad := (rfl)
@[simp] theorem setAD_obj {μ : Store} {g : G} (i : Nat) (f : String) (v : D) : setAD g (.obj i) f v μ = match μ[i]? with
    | some (.ins c fs) => if g.fld c f = true ∧ fs.length < 1000 then some (μ.set i (.ins c (putF f v fs))) else none
    | _ => none := (rfl)
@[simp] theorem bif_len_obj {μ : Store} {g : G} (i : Nat) : bifG g "len" [.obj i] μ = match μ[i]? with
    | some (.lst xs) => .ok (.int xs.length) μ
    | some (.ins c _) => (match g.meth c "__len__" with
        | some key => bifR "len" (g.callF key [.obj i] μ)
        | none => .bad)
    | _ => .bad := by
  show (match insOf (.obj i) μ with | some c => _ | none => bifD "len" [.obj i] μ) = _
  simp only [insOf_obj]
  cases h : μ[i]? with
  | none => simp [bifD, h]
  | some o => cases o <;> simp [bifD, h, bifN] <;> rfl
@[simp] theorem bif_list_obj {μ : Store} {g : G} (i : Nat) : bifG g "list" [.obj i] μ = match μ[i]? with
    | some (.lst xs) => .ok (.obj μ.length) (μ ++ [.lst xs])
    | _ => .bad := by
  show (match insOf (.obj i) μ with | some c => _ | none => bifD "list" [.obj i] μ) = _
  simp only [insOf_obj]
  cases h : μ[i]? with
  | none => simp [bifD, h]
  | some o => cases o <;> simp [bifD, h, bifN] <;> rfl
@[simp] theorem bif_list_tup {μ : Store} {g : G} (xs : List D) : bifG g "list" [.tup xs] μ = .ok (.obj μ.length) (μ ++ [.lst xs]) := (rfl)
@[simp] theorem bif_tuple_obj {μ : Store} {g : G} (i : Nat) : bifG g "tuple" [.obj i] μ = match μ[i]? with
    | some (.lst xs) => .ok (.tup xs) μ
    | _ => .bad := by
  show (match insOf (.obj i) μ with | some c => _ | none => bifD "tuple" [.obj i] μ) = _
  simp only [insOf_obj]
  cases h : μ[i]? with
  | none => simp [bifD, h]
  | some o => cases o <;> simp [bifD, h, bifN] <;> rfl
@[simp] theorem bif_str_obj {μ : Store} {g : G} (i : Nat) : bifG g "str" [.obj i] μ = match μ[i]? with
    | some (.ins c _) => (match g.meth c "__str__" with
        | some key => bifR "str" (g.callF key [.obj i] μ)
        | none => .bad)
    | _ => .bad := by
  show (match insOf (.obj i) μ with | some c => _ | none => bifD "str" [.obj i] μ) = _
  simp only [insOf_obj]
  cases h : μ[i]? with
  | none => simp [bifD, h]
  | some o => cases o <;> simp [bifD, h, bifN] <;> rfl
@[simp] theorem bif_abs_obj {μ : Store} {g : G} (i : Nat) : bifG g "abs" [.obj i] μ = match μ[i]? with
    | some (.ins c _) => (match g.meth c "__abs__" with
        | some key => g.callF key [.obj i] μ
        | none => .bad)
    | _ => .bad := by
  show (match insOf (.obj i) μ with | some c => _ | none => bifD "abs" [.obj i] μ) = _
  simp only [insOf_obj]
  cases h : μ[i]? with
  | none => rfl
  | some o => cases o <;> rfl
@[simp] theorem Wp_bind1 {α β : Type} {r : R α} {f : α → Store → R β} {P : β → Store → Prop} {E : X → Store → Prop} : (r.bind f).Wp P E = r.Wp (fun a μ => (f a μ).Wp P E) E := R.Wp_bind
@[simp high] theorem Wp_iteB {α : Type} {c : Prop} [Decidable c] {r : R α} {P : α → Store → Prop} {E : X → Store → Prop} : (if c then r else R.bad).Wp P E = (c ∧ r.Wp P E) := by
  by_cases h : c <;> simp [h]
@[simp] theorem Wp_ite {α : Type} {c : Prop} [Decidable c] {r r' : R α} {P : α → Store → Prop} {E : X → Store → Prop} : (if c then r else r').Wp P E = if c then r.Wp P E else r'.Wp P E := by
  by_cases h : c <;> simp [h]
@[simp] theorem Wp_seq1 {k : Kt} (r : SR) (f : Env → Store → SR) : (r.seq f).Wp k = r.Wp { k with N := fun ρ μ => (f ρ μ).Wp k } := SR.Wp_seq r f
@[simp] theorem den_name (i : Nat) (d : D) (ρ : Env) (μ : Store) : Tg.den (.name i) d ρ μ = .nx (ρ.set i (some d)) μ := (rfl)
@[simp] theorem den_tup (is : List Nat) (ds : List D) (ρ : Env) (μ : Store) : Tg.den (.tup is) (.tup ds) ρ μ = if ds.length = is.length then .nx (setAll is ds ρ) μ else .bad := by
  unfold Tg.den Tg.put
  by_cases h : ds.length = is.length <;> simp [h]
@[simp] theorem den_lst (is : List Nat) (l : Nat) (ρ : Env) (μ : Store) : Tg.den (.tup is) (.obj l) ρ μ = match μ[l]? with
    | some (.lst ds) => if ds.length = is.length then .nx (setAll is ds ρ) μ else .bad
    | _ => .bad := by
  simp only [Tg.den, Tg.put, lstOf]
  cases h : μ[l]? with
  | none => rfl
  | some o =>
    cases o with
    | lst ds => by_cases hl : ds.length = is.length <;> simp [hl]
    | ins c fs => rfl
@[simp] theorem put_name (i : Nat) (d : D) (ρ : Env) (μ : Store) : Tg.put (.name i) d ρ μ = some (ρ.set i (some d)) := (rfl)
@[simp] theorem put_tup (is : List Nat) (ds : List D) (ρ : Env) (μ : Store) : Tg.put (.tup is) (.tup ds) ρ μ = if ds.length = is.length then some (setAll is ds ρ) else none := (rfl)
@[simp] theorem second_eq {g : G} (c : String) (y : D) (μ : Store) : second g c y μ = (insOf y μ == some c || (match tyOf g y μ with
  | some t => g.nfst c t
  | none => false)) := (rfl)
@[simp] theorem tyOf_non {g : G} {μ : Store} : tyOf g .non μ = some "NoneType" := (rfl)
@[simp] theorem tyOf_int {g : G} {μ : Store} (x : Int) : tyOf g (.int x) μ = some "int" := (rfl)
@[simp] theorem tyOf_str {g : G} {μ : Store} (x : S) : tyOf g (.str x) μ = some "str" := (rfl)
@[simp] theorem tyOf_tup {g : G} {μ : Store} (x : List D) : tyOf g (.tup x) μ = some "tuple" := (rfl)
@[simp] theorem tyOf_obj {g : G} {μ : Store} (i : Nat) : tyOf g (.obj i) μ = match μ[i]? with
    | some (.lst _) => some "list"
    | some (.ins c _) => if g.insc c = true then some c else none
    | none => none := (rfl)
@[simp] theorem isAble_non : isAble .non = true := (rfl)
@[simp] theorem isAble_obj (i : Nat) : isAble (.obj i) = true := (rfl)
@[simp] theorem isAble_str (i : S) : isAble (.str i) = true := (rfl)
@[simp] theorem isAble_int (i : Int) : isAble (.int i) = true := (rfl)
@[simp] theorem isAble_bl (i : Bool) : isAble (.bl i) = true := (rfl)
@[simp] theorem isAble_tup (i : List D) : isAble (.tup i) = true := (rfl)
@[simp] theorem isNon_non : isNon .non = true := (rfl)
@[simp] theorem isNon_obj (i : Nat) : isNon (.obj i) = false := (rfl)
@[simp] theorem isNon_str (i : S) : isNon (.str i) = false := (rfl)
@[simp] theorem isNon_int (i : Int) : isNon (.int i) = false := (rfl)
@[simp] theorem isNon_bl (i : Bool) : isNon (.bl i) = false := (rfl)
@[simp] theorem isNon_tup (i : List D) : isNon (.tup i) = false := (rfl)
theorem atI_mapS {α : Type} {xs : List α} {f : α → D} {k : Nat} {x : α} (h : xs[k]? = some x) : atI (xs.map f) (k : Int) = some (f x) := by
  unfold atI ixN
  have hl : k < (xs.map f).length := by simpa using (List.getElem?_eq_some_iff.mp h).1
  rw [if_pos (by omega), if_pos (by omega)]
  show (xs.map f)[((k : Int)).toNat]? = _
  rw [Int.toNat_natCast, List.getElem?_map, h]
  rfl
theorem atI_some {α : Type} {xs : List α} {k : Nat} {x : α} (h : xs[k]? = some x) : atI xs (k : Int) = some x := by
  unfold atI ixN
  have hl : k < xs.length := (List.getElem?_eq_some_iff.mp h).1
  rw [if_pos (by omega), if_pos (by omega)]
  show xs[((k : Int)).toNat]? = _
  rw [Int.toNat_natCast, h]
@[simp] theorem op_eqBl {μ : Store} {g : G} (x y : Bool) : copG g .eq (.bl x) (.bl y) μ = .ok (.bl (x == y)) μ := (rfl)
@[simp] theorem op_neBl {μ : Store} {g : G} (x y : Bool) : copG g .ne (.bl x) (.bl y) μ = .ok (.bl (!(x == y))) μ := (rfl)
@[simp] theorem lookup_if {α : Type} (a b : String) (v : α) (r : List (String × α)) : List.lookup a ((b, v) :: r) = if a = b then some v else List.lookup a r := by
  rw [List.lookup_cons]
  by_cases h : a = b
  · subst h; simp
  · have : (a == b) = false := by simpa using h
    simp [this, h]
/-- what only falls off its end -/
theorem wp_fall {r : SR} {N : Env → Store → Prop} {k : Kt} (h : r.Wp { N := N, T := fun _ _ => False }) (i : ∀ ρ μ, N ρ μ → k.N ρ μ) : r.Wp k :=
  h.imp i (fun _ _ z => z.elim) (fun _ _ z => z.elim) (fun _ _ z => z.elim) (fun _ _ _ z => z.elim)
/-- a comprehension over items -/
theorem wp_compI {μ : Store} {f : D → Store → R (Option D)} {ds : List D} {P : D → Store → Prop} {E : X → Store → Prop} (I : Nat → List D → Store → Prop) (hi : I 0 [] (μ ++ [.lst []]))
    (hs : ∀ i d acc μ', ds[i]? = some d → I i acc μ' → (f d μ').Wp (fun y μ1 => μ1[μ.length]? = some (.lst acc) ∧ acc.length < line ∧ I (i + 1) (acc ++ y.toList) (match y with
      | none => μ1
      | some v => μ1.set μ.length (.lst (acc ++ [v])))) noE)
    (he : ∀ acc μ', I ds.length acc μ' → P (.obj μ.length) μ') : (compD f (.items ds) μ).Wp P E := by
  have gen : ∀ (n i : Nat) (acc : List D) (μ' : Store), n + i = ds.length → I i acc μ' → ∃ acc' μ'', compP f μ.length (ds.drop i) μ' = .ok () μ'' ∧ I ds.length acc' μ'' := by
    intro n
    induction n with
    | zero =>
      intro i acc μ' e h
      rw [List.drop_eq_nil_of_le (by omega)]
      have : i = ds.length := by omega
      subst this
      exact ⟨acc, μ', rfl, h⟩
    | succ n ih =>
      intro i acc μ' e h
      have hlt : i < ds.length := by omega
      rw [List.drop_eq_getElem_cons hlt]
      obtain ⟨y, μ1, e1, h1, h2, h3⟩ := (hs i _ acc μ' (List.getElem?_eq_getElem hlt) h).get
      simp only [compP, e1, R.bind_ok]
      cases y with
      | none => exact ih (i + 1) _ μ1 (by omega) h3
      | some v =>
        simp only [h1]
        rw [if_pos h2]
        exact ih (i + 1) _ _ (by omega) h3
  obtain ⟨acc', μ'', e, h⟩ := gen ds.length 0 [] (μ ++ [.lst []]) (by omega) hi
  unfold compD
  simp only [List.drop_zero] at e
  simp only [e, R.bind_ok, R.Wp_ok]
  exact he acc' μ'' h
/-- a comprehension over a list that stays -/
theorem wp_compL {μ : Store} {f : D → Store → R (Option D)} {l : Nat} {ds : List D} {P : D → Store → Prop} {E : X → Store → Prop} (I : Nat → List D → Store → Prop) (h0 : μ[l]? = some (.lst ds)) (hl : ∀ i acc μ', I i acc μ' → μ'[l]? = some (.lst ds)) (hi : I 0 [] (μ ++ [.lst []]))
    (hs : ∀ i d acc μ', ds[i]? = some d → I i acc μ' → (f d μ').Wp (fun y μ1 => μ1[μ.length]? = some (.lst acc) ∧ acc.length < line ∧ I (i + 1) (acc ++ y.toList) (match y with
      | none => μ1
      | some v => μ1.set μ.length (.lst (acc ++ [v])))) noE)
    (he : ∀ acc μ', I ds.length acc μ' → P (.obj μ.length) μ') : (compD f (.list l) μ).Wp P E := by
  have gen : ∀ (n i : Nat) (acc : List D) (μ' : Store), n + i = ds.length → I i acc μ' → ∃ acc' μ'', compL f μ.length l (n + 1) i μ' = .ok () μ'' ∧ I ds.length acc' μ'' := by
    intro n
    induction n with
    | zero =>
      intro i acc μ' e h
      have : i = ds.length := by omega
      subst this
      refine ⟨acc, μ', ?_, h⟩
      simp only [compL, lstOf, hl _ _ _ h]
      rw [List.getElem?_eq_none (Nat.le_refl _)]
    | succ n ih =>
      intro i acc μ' e h
      have hlt : i < ds.length := by omega
      obtain ⟨y, μ1, e1, h1, h2, h3⟩ := (hs i _ acc μ' (List.getElem?_eq_getElem hlt) h).get
      rw [compL]
      simp only [lstOf, hl _ _ _ h, List.getElem?_eq_getElem hlt, e1, R.bind_ok]
      cases y with
      | none => exact ih (i + 1) _ μ1 (by omega) h3
      | some v =>
        simp only [h1]
        rw [if_pos h2]
        exact ih (i + 1) _ _ (by omega) h3
  obtain ⟨acc', μ'', e, h⟩ := gen ds.length 0 [] (μ ++ [.lst []]) (by omega) hi
  unfold compD
  simp only [lstOf, h0, e, R.bind_ok, R.Wp_ok]
  exact he acc' μ'' h
@[simp] theorem wp_notests {g : G} {h : Option X} {ρ : Env} {μ : Store} : Es.denTests g h .nil ρ μ = .ok true μ := by simp only [Es.denTests]
@[simp] theorem wp_test1 {g : G} {h : Option X} {ρ : Env} {μ : Store} {e : E} {P : Bool → Store → Prop} {E0 : X → Store → Prop} : (Es.denTests g h (.cons e .nil) ρ μ).Wp P E0 = (E.den g h e ρ μ).Wp (fun d μ => (truth d μ).Wp P E0) E0 := by simp only [Es.denTests, R.Wp_bind]
/-- a def's call, by its body -/
theorem wp_callF {f : FD} [hf : HasF fs g0 f] {key : String} {as : List D} {μ : Store} {P : D → Store → Prop} {E : X → Store → Prop} (hk : f.key = key) (hl : as.length = f.np) (hn : 1 ≤ n)
    (hw : (Ss.den (gN fs g0 (n - 1)) none f.body (startE f.nn as) μ).Wp { N := fun _ μ => P .non μ, T := P, E := fun x _ μ => E x μ }) (hva : f.va = false := by rfl) : ((gN fs g0 n).callF key as μ).Wp P E := by
  subst hk
  obtain ⟨n, rfl⟩ : ∃ m, n = m + 1 := ⟨n - 1, by omega⟩
  rw [hf.has.call hl _ hva]
  exact hf.has.wp hl hw
/-- a call that leaves over what stands behind the first parameters -/
theorem wp_callV {f : FD} [hf : HasF fs g0 f] {key : String} {as bs : List D} {μ : Store} {P : D → Store → Prop} {E : X → Store → Prop} (hk : f.key = key) (hl : as.length + 1 = f.np) (hb : as.length + bs.length ≤ line) (hn : 1 ≤ n)
    (hw : (Ss.den (gN fs g0 (n - 1)) none f.body (startE f.nn (as ++ [.tup bs])) μ).Wp { N := fun _ μ => P .non μ, T := P, E := fun x _ μ => E x μ }) (hva : f.va = true := by rfl) : ((gN fs g0 n).callF key (as ++ bs) μ).Wp P E := by
  subst hk
  obtain ⟨n, rfl⟩ : ∃ m, n = m + 1 := ⟨n - 1, by omega⟩
  rw [hf.has.callV hva hl hb]
  exact hf.has.wp (by simpa using hl) hw
/-- a property's value -/
theorem wp_prop {r : R D} {P : D → Store → Prop} {E : X → Store → Prop} (h : r.Wp P fun _ _ => False) : (match r with
    | .ok v μ => R.ok v μ
    | _ => .bad).Wp P E := by
  cases r with
  | ok v μ => simpa using h
  | err x μ => simp at h
  | bad => simp at h
theorem enumP_get : ∀ (ds : List D) (lo : Int) (i : Nat), (enumP lo ds)[i]? = ds[i]?.map fun d => .tup [.int (lo + i), d]
  | [], lo, i => by simp [enumP]
  | d :: ds, lo, 0 => by simp [enumP]
  | d :: ds, lo, i + 1 => by
    simp only [enumP, List.getElem?_cons_succ]
    rw [enumP_get ds (lo + 1) i]
    have : lo + 1 + (i : Int) = lo + ((i + 1 : Nat) : Int) := by omega
    rw [this]
theorem enumP_len : ∀ (ds : List D) (lo : Int), (enumP lo ds).length = ds.length
  | [], lo => rfl
  | d :: ds, lo => by simp [enumP, enumP_len ds]
end
end Pn
end

section
set_option Elab.async false
set_option linter.all false
set_option maxRecDepth 100000
set_option maxHeartbeats 4000000
set_option autoImplicit false
/-! The Py layer, part 20: what the text says, as tables; looked up in the heap. -/
namespace Py
open PySem L2 Pn
theorem dvD_ok {K : PySem.W.Frag} {mg : PySem.Str → Option Value} {φ : List Addr} {H : Hp} : ∀ {ds : List D}, ds.all flat = true → RDs K mg φ H ds ((ds.map dvD).map (He.Dv.v K))
  | [], _ => RDs.nil
  | d :: ds, h => by
    simp only [List.all_cons, Bool.and_eq_true] at h
    refine RDs.cons ?_ (dvD_ok h.2)
    cases d <;> first | rfl | cases h.1
theorem Tab.fs_pt (T : Tab) : T.fs = T.pt.fds := rfl
theorem Tab.g_pt (T : Tab) : T.g = T.pt.g := by
  have find : ∀ k, findF (T.defs.map fun d : Df => d.fd) k = (T.find k).map fun d : Df => d.fd := by
    intro k
    unfold findF Tab.find
    rw [List.find?_map]
    rfl
  have e : T.g.par = T.pt.g.par := by
    funext k
    show _ = (match findF (T.defs.map fun d : Df => d.fd) k with
    | some (d : FD) => (d.np, d.dfl)
    | none => (0, []))
    rw [find k]
    show (match T.find k with
    | some (d : Df) => (d.fd.np, d.fd.dfl)
    | none => (0, [])) = _
    cases T.find k <;> rfl
  have e2 : T.g.va = T.pt.g.va := by
    funext k
    show _ = (match findF (T.defs.map fun d : Df => d.fd) k with
    | some (d : FD) => d.va
    | none => false)
    rw [find k]
    show (match T.find k with
    | some (d : Df) => d.fd.va
    | none => false) = _
    cases T.find k <;> rfl
  have : T.g = { T.pt.g with par := T.g.par, va := T.g.va } := rfl
  rw [this, e, e2]
/-! ### of the text alone -/
def scB (d : Df) : Bool := (match d.scope.kind with | .function => true | _ => false) && (!d.scope.isCoroutine && (!d.scope.isGenerator && (decide d.N.Nodup && (decide (d.N.take d.ps.length = d.ps) &&
  ((d.ps.all fun x => match d.scope.names.lookup x with | some .local => true | some .cell => true | _ => false) && (d.scope.names.all fun y => match y.2 with | .free => false | _ => true))))))
def dfB (T : Tab) (d : Df) : Bool := scB d && ((if d.fd.va = true then starA d.params d.ps && d.fd.dfl.isEmpty else plainA d.params d.ps) && (decide (d.N.length = d.fd.nn) && (decide (d.ps.length = d.fd.np) && (decide (d.fd.dfl.length ≤ 1 ∧ d.fd.dfl.length ≤ d.fd.np) && (d.fd.dfl.all flat && Ss.chk T.g ⟨d.N, d.scope.names, false, false, none⟩ d.fd.body d.body)))))
def Tab.chk (T : Tab) : Bool := decide (T.defs.map (·.fd.key)).Nodup && ((T.defs.all (dfB T)) && ((T.clss.all fun ct => ct.meths.all fun p => p.1 != "") && (T.exms.all fun p => T.exns.contains p.1.1)))
theorem scB_ok {d : Df} (h : scB d = true) : FnScope d.N d.ps d.scope := by
  unfold scB at h
  simp only [Bool.and_eq_true, decide_eq_true_eq, Bool.not_eq_true', List.all_eq_true] at h
  obtain ⟨h1, h2, h3, h4, h5, h6, h7⟩ := h
  refine ⟨?_, h2, h3, h4, h5, fun x hx => ?_, fun y hy z => ?_⟩
  · split at h1
    · assumption
    · cases h1
  · have q := h6 x hx
    split at q
    · exact .inl (by assumption)
    · exact .inr (by assumption)
    · cases q
  · have q := h7 y hy
    rw [z] at q
    cases q
section
variable {K : PySem.W.Frag} {mg : PySem.Str → Option Value} {h : Heap} {T : Tab}
theorem lookup_mem {α β : Type} [BEq α] [LawfulBEq α] {a : α} {b : β} : ∀ {l : List (α × β)}, l.lookup a = some b → (a, b) ∈ l
  | [], z => by cases z
  | (x, y) :: r, z => by
    rw [List.lookup_cons] at z
    cases e : (a == x) with
    | true =>
      rw [e] at z
      cases z
      rw [eq_of_beq e]
      exact List.mem_cons_self
    | false =>
      rw [e] at z
      exact List.mem_cons_of_mem _ (lookup_mem z)
theorem glo_of (X : K.In h) (G : h.Ns mainGlobals mg) {x : String} (c : gloB K x = true) : mg (nm x) = some (.ref (cA K x)) := PySem.W.mg_of X G (He.eqO_ok c)
theorem free_of (X : K.In h) (G : h.Ns mainGlobals mg) {x : String} (c : freeB K x = true) : mg (nm x) = none := PySem.W.mg_none_of X G (He.eqO_ok c)
theorem own_of (X : K.In h) (G : h.Ns mainGlobals mg) {c : String} (q : ownB K c = true) : OwnAt K mg c (cA K c) := by
  unfold ownB at q
  simp only [Bool.and_eq_true, decide_eq_true_eq] at q
  obtain ⟨h1, h2, h3, h4, h5, h6, h7⟩ := q
  exact ⟨glo_of X G h1, He.cls_ok h2, h3, He.eqO_ok h4, He.eqO_ok h5, h6, h7⟩
mutual
theorem relDB_ok (hg : ∀ c, gloB K c = true → mg (nm c) = some (.ref (cA K c))) : ∀ (d : D) (u : Value), relDB K d u = true → ∃ v, RelV v u ∧ ∀ φ H, RD K mg φ H d v
  | .non, u, q => by
    cases u <;> first | (unfold relDB at q; cases q; done) | skip
    exact ⟨.non, rfl, fun _ _ => rfl⟩
  | .bl b, u, q => by
    cases u <;> first | (unfold relDB at q; cases q; done) | skip
    unfold relDB at q
    exact ⟨.bl b, by rw [eq_of_beq q]; rfl, fun _ _ => rfl⟩
  | .int i, u, q => by
    cases u <;> first | (unfold relDB at q; cases q; done) | skip
    unfold relDB at q
    exact ⟨.int i, ⟨_, by rw [of_decide_eq_true q]⟩, fun _ _ => rfl⟩
  | .str s, u, q => by
    cases u <;> first | (unfold relDB at q; cases q; done) | skip
    rename_i y t
    unfold relDB at q
    have e := of_decide_eq_true q
    refine ⟨.str y, ⟨t, rfl⟩, fun _ _ => ?_⟩
    show V.str y = V.str (stS s)
    rw [← e]
    simp [stS]
  | .cls c, u, q => by
    cases u <;> first | (unfold relDB at q; cases q; done) | skip
    unfold relDB at q
    simp only [Bool.and_eq_true, decide_eq_true_eq] at q
    obtain ⟨q1, rfl⟩ := q
    exact ⟨.ref (cA K c), rfl, fun _ _ => ⟨_, hg c q1, rfl⟩⟩
  | .tup ds, u, q => by
    cases u <;> first | (unfold relDB at q; cases q; done) | skip
    rename_i a
    unfold relDB at q
    split at q
    · rename_i od its n sl e
      simp only [Bool.and_eq_true, decide_eq_true_eq] at q
      obtain ⟨vs, r, rds⟩ := relDBs_ok hg ds its.toList q.2
      exact ⟨.ref a, rfl, fun φ H => ⟨a, vs, rfl, .inr ⟨_, its, n, e, rfl, rfl, by rw [sizeLine_eq]; exact q.1, r⟩, rds φ H⟩⟩
    · cases q
  | .obj _, u, q => by unfold relDB at q; cases q
  | .ty _, u, q => by unfold relDB at q; cases q
  | .fz _, u, q => by unfold relDB at q; cases q
  | .opq, u, q => by unfold relDB at q; cases q
theorem relDBs_ok (hg : ∀ c, gloB K c = true → mg (nm c) = some (.ref (cA K c))) : ∀ (ds : List D) (us : List Value), relDBs K ds us = true → ∃ vs, Vals vs us ∧ ∀ φ H, RDs K mg φ H ds vs
  | [], us, q => by
    cases us with
    | nil => exact ⟨[], .nil, fun _ _ => RDs.nil⟩
    | cons => unfold relDBs at q; cases q
  | d :: ds, us, q => by
    cases us with
    | nil => unfold relDBs at q; cases q
    | cons u us =>
      unfold relDBs at q
      simp only [Bool.and_eq_true] at q
      obtain ⟨v, r, rd⟩ := relDB_ok hg d u q.1
      obtain ⟨vs, rs, rds⟩ := relDBs_ok hg ds us q.2
      exact ⟨v :: vs, .cons r rs, fun φ H => RDs.cons (rd φ H) (rds φ H)⟩
end
theorem cls_mem {c : String} {ct : CT} (e : T.cls c = some ct) : ct ∈ T.clss ∧ ct.name = c := by
  unfold Tab.cls at e
  exact ⟨List.mem_of_find?_eq_some e, by simpa using List.find?_some e⟩
theorem find_mem {k : String} {d : Df} (e : T.find k = some d) : d ∈ T.defs ∧ d.fd.key = k := by
  unfold Tab.find at e
  exact ⟨List.mem_of_find?_eq_some e, by simpa using List.find?_some e⟩
theorem find_fs {k : String} {d : Df} (e : T.find k = some d) : findF T.fs k = some d.fd := by
  unfold findF Tab.fs
  unfold Tab.find at e
  rw [List.find?_map]
  show Option.map _ (List.find? (fun x => x.fd.key == k) T.defs) = _
  rw [e]
  rfl
/-- both parts together -/
theorem def_of (hc : T.chk = true) (hs : T.says K = true) (hf : (T.defs.map fun d => He5.fnA K (d.toA.at_ K)) = T.defs.map fun d => d.toA.val) {key : String} {d : Df} (e : T.find key = some d) :
    (∃ fd, FunD K d.name d.qual d.params d.body d.scope (d.toA.dvs K) [] (d.wh.at_ K) fd) ∧ dfB T d = true := by
  obtain ⟨hm, hk⟩ := find_mem e
  unfold Tab.chk at hc
  unfold Tab.says at hs
  simp only [Bool.and_eq_true, List.all_eq_true] at hc hs
  refine ⟨?_, hc.2.1 d hm⟩
  obtain ⟨i, hi⟩ := List.getElem?_of_mem hm
  have e2 : (T.defs.map fun d => He5.fnA K (d.toA.at_ K))[i]? = (T.defs.map fun d => d.toA.val)[i]? := by rw [hf]
  rw [List.getElem?_map, List.getElem?_map, hi] at e2
  exact He5.DefA.funD (d := d.toA) (Option.some.inj e2) (hs.1 d hm)
theorem defAt_of (hc : T.chk = true) (hs : T.says K = true) (hf : (T.defs.map fun d => He5.fnA K (d.toA.at_ K)) = T.defs.map fun d => d.toA.val) {key : String} {a : Addr} (q : keyB K T key a = true) : DefAt K T.fs T.g key a := by
  unfold keyB at q
  simp only [Bool.and_eq_true, decide_eq_true_eq] at q
  obtain ⟨d, e⟩ := Option.isSome_iff_exists.mp q.1
  obtain ⟨⟨fd, F⟩, hd⟩ := def_of hc hs hf e
  have ha : a = d.wh.at_ K := by rw [q.2]; unfold Tab.at_; rw [e]
  subst ha
  unfold dfB at hd
  simp only [Bool.and_eq_true, decide_eq_true_eq] at hd
  obtain ⟨h1, h2, h3, h4, h6, h7, h5⟩ := hd
  have hA : (plainA d.params d.ps = true ∧ d.fd.va = false) ∨ (starA d.params d.ps = true ∧ d.fd.va = true ∧ d.fd.dfl = [] ∧ d.toA.dvs K = []) := by
    by_cases hv : d.fd.va = true
    · rw [if_pos hv] at h2
      simp only [Bool.and_eq_true, List.isEmpty_iff] at h2
      exact .inr ⟨h2.1, hv, h2.2, by show (d.fd.dfl.map dvD).map _ = []; rw [h2.2]; rfl⟩
    · rw [if_neg hv] at h2
      exact .inl ⟨h2, by simpa using hv⟩
  exact ⟨d.fd, fd, _, _, _, _, _, _, _, _, find_fs e, F, scB_ok h1, hA, by show (match T.find key with | some d => d.fd.va | none => false) = _; rw [e], h3, h4, by show (match T.find key with | some d => (d.fd.np, d.fd.dfl) | none => (0, [])) = _; rw [e], h5, h6.1, h6.2, fun mg φ H => dvD_ok h7⟩
theorem tyN_of (X : K.In h) (G : h.Ns mainGlobals mg) {x : String} (q : tyB K x = true) : TyN mg x (tyVh K x) := by
  unfold tyB at q
  unfold tyVh
  cases e : gloB K x with
  | true => exact .inl ⟨_, glo_of X G e, rfl⟩
  | false =>
    rw [e] at q
    exact .inr ⟨free_of X G (by simpa using q), rfl⟩
theorem sok (hc : T.chk = true) (X : K.In h) (G : h.Ns mainGlobals mg) (hs : T.says K = true) (hf : (T.defs.map fun d => He5.fnA K (d.toA.at_ K)) = T.defs.map fun d => d.toA.val) : SOk K mg T.fs T.g := by
  have hg : ∀ c, gloB K c = true → mg (nm c) = some (.ref (cA K c)) := fun c q => glo_of X G q
  have at_ : ∀ {key a}, keyB K T key a = true → DefAt K T.fs T.g key a := fun q => defAt_of hc hs hf q
  have hs0 := hs
  have hc0 := hc
  unfold Tab.says at hs0
  unfold Tab.chk at hc0
  simp only [Bool.and_eq_true, List.all_eq_true] at hs0 hc0
  obtain ⟨s1, s2, s3, s4, s5, s6, s7, s8, s9, s10, s11, s12, s13, s14, s15⟩ := hs0
  obtain ⟨c1, c2, c3, c4⟩ := hc0
  have ct : ∀ {c ct}, T.cls c = some ct → OwnAt K mg c (cA K c) ∧ (match ct.init with | some k => initB K T ct.name k | none => true) = true ∧ (∀ p ∈ ct.meths, methB K T c p.1 p.2 = true) ∧ (∀ p ∈ ct.props, propB K T c p.1 p.2 = true) ∧
      (∀ p ∈ ct.cons, conB K c p.1 p.2 = true) ∧ (∀ f ∈ ct.flds, (He.Fa.noat (nm c) (nm f)).ok K = true) ∧ (∀ p ∈ ct.clms, clmB K T c p.1 p.2 = true) ∧ (∀ p ∈ ct.cvals, cvalB K c p.1 p.2 = true) ∧ ct.name = c := by
    intro c ct e
    obtain ⟨hm, rfl⟩ := cls_mem e
    have q := s4 ct hm
    unfold ctB at q
    simp only [Bool.and_eq_true, List.all_eq_true] at q
    obtain ⟨q1, q2, q3, q4, q5, q6, q7, q8⟩ := q
    exact ⟨own_of X G q1, q2, q3, q4, q5, q6, q7, q8, rfl⟩
  have rd : ∀ {c}, readB K c = true → mg (nm c) = some (.ref (cA K c)) ∧ ClX.CRead K (cA K c) (.type "type") := fun q => by
    unfold readB at q
    simp only [Bool.and_eq_true] at q
    exact ⟨hg _ q.1, q.2.1, He.eqO_ok q.2.2⟩
  refine ⟨?_, ?_, ?_, ?_, ?_, ?_, ?_, ?_, ?_, ?_, ?_, ?_, ?_, ?_, ?_, ?_, ?_, ?_⟩
  · intro f q
    have hm : f ∈ T.fnks := by simpa [Tab.g] using q
    obtain ⟨q1, q2⟩ := s2 f hm
    exact ⟨_, hg f q1, at_ q2⟩
  · intro x d e
    have q := s3 _ (lookup_mem (show T.glos.lookup x = some d from e))
    unfold gloDB at q
    split at q
    · rename_i u eu
      obtain ⟨v, r, rr⟩ := relDB_ok hg d u q
      exact ⟨v, u, r, PySem.W.mg_of X G eu, rr⟩
    · cases q
  · intro c m key e
    obtain ⟨ctt, e1, e2⟩ := Option.bind_eq_some_iff.mp (show (T.cls c).bind (fun ct => ct.meths.lookup m) = some key from e)
    obtain ⟨own, _, q, _⟩ := ct e1
    have q := q _ (lookup_mem e2)
    unfold methB at q
    simp only [Bool.and_eq_true] at q
    exact ⟨_, _, own, He.meth_ok q.2, at_ q.1⟩
  · intro c m key e
    obtain ⟨ctt, e1, e2⟩ := Option.bind_eq_some_iff.mp (show (T.cls c).bind (fun ct => ct.props.lookup m) = some key from e)
    obtain ⟨own, _, _, q, _⟩ := ct e1
    have q := q _ (lookup_mem e2)
    unfold propB at q
    simp only [Bool.and_eq_true, decide_eq_true_eq] at q
    obtain ⟨q1, q2, q3, q4, q5⟩ := q
    refine ⟨_, _, _, own, ⟨He.eqO_ok q2, He.eqO_ok q3, q4, ?_⟩, at_ q1⟩
    unfold He5.wf
    split at q5
    · rename_i f r er
      exact ⟨r, by rw [er]⟩
    · cases q5
  · intro c f d e
    obtain ⟨ctt, e1, e2⟩ := Option.bind_eq_some_iff.mp (show (T.cls c).bind (fun ct => ct.cons.lookup f) = some d from e)
    obtain ⟨own, _, _, _, q, _⟩ := ct e1
    have q := q _ (lookup_mem e2)
    unfold conB at q
    simp only [Bool.and_eq_true, Bool.not_eq_true'] at q
    obtain ⟨q1, q2⟩ := q
    split at q1
    · rename_i u eu
      simp only [Bool.and_eq_true] at q1
      obtain ⟨v, r, rr⟩ := relDB_ok hg d u q1.1
      exact ⟨_, v, u, own, ⟨eu, r, He.eqO_ok q1.2, q2⟩, rr⟩
    · cases q1
  · intro c f e
    have e' : (T.cls c).any (fun ct => ct.flds.contains f) = true := e
    cases e1 : T.cls c with
    | none => rw [e1] at e'; cases e'
    | some ctt =>
      rw [e1] at e'
      obtain ⟨own, _, _, _, _, q, _⟩ := ct e1
      exact ⟨_, own, He.noat_ok (q f (by simpa using e'))⟩
  · intro c key e
    obtain ⟨ctt, e1, e2⟩ := Option.bind_eq_some_iff.mp (show (T.cls c).bind (fun ct => ct.init) = some key from e)
    obtain ⟨own, q, _, _, _, _, _, _, hn⟩ := ct e1
    rw [e2, hn] at q
    have q : initB K T c key = true := q
    unfold initB at q
    simp only [Bool.and_eq_true] at q
    exact ⟨_, _, own, He.mkr_ok q.2, at_ q.1⟩
  · intro c m key e
    obtain ⟨ctt, e1, e2⟩ := Option.bind_eq_some_iff.mp (show (T.cls c).bind (fun ct => ct.clms.lookup m) = some key from e)
    obtain ⟨_, _, _, _, _, _, q, _⟩ := ct e1
    have q := q _ (lookup_mem e2)
    unfold clmB at q
    simp only [Bool.and_eq_true] at q
    obtain ⟨q1, q2, q3, q4⟩ := q
    obtain ⟨r1, r2⟩ := rd q1
    exact ⟨_, _, _, _, r1, r2, He5.cmet_of q3 q4, at_ q2⟩
  · intro c f d e
    obtain ⟨ctt, e1, e2⟩ := Option.bind_eq_some_iff.mp (show (T.cls c).bind (fun ct => ct.cvals.lookup f) = some d from e)
    obtain ⟨_, _, _, _, _, _, _, q, _⟩ := ct e1
    have q := q _ (lookup_mem e2)
    unfold cvalB at q
    simp only [Bool.and_eq_true] at q
    obtain ⟨q1, q2⟩ := q
    obtain ⟨r1, r2⟩ := rd q1
    split at q2
    · rename_i u eu
      obtain ⟨v, r, rr⟩ := relDB_ok hg d u q2
      exact ⟨_, _, v, u, r1, r2, ⟨eu, r⟩, rr⟩
    · cases q2
  · intro t c b e
    have q := s6 _ (lookup_mem (show T.subs.lookup (t, c) = some b from e))
    unfold subB at q
    simp only [Bool.and_eq_true, decide_eq_true_eq] at q
    exact ⟨_, _, tyN_of X G q.1, tyN_of X G q.2.1, q.2.2⟩
  · intro c e
    obtain ⟨ctt, e1⟩ := Option.isSome_iff_exists.mp (show (T.cls c).isSome = true from e)
    exact ⟨_, (ct e1).1⟩
  · intro c t o e
    have hm : ((c, t), o) ∈ T.bls := by simpa [Tab.g] using e
    have q := s13 _ hm
    unfold blB at q
    simp only [Bool.and_eq_true] at q
    exact ⟨_, tyN_of X G q.1, q.2⟩
  · intro c t o e
    have hm : ((c, t), o) ∈ T.brs := by simpa [Tab.g] using e
    have q := s14 _ hm
    unfold brB blB at q
    simp only [Bool.and_eq_true] at q
    exact ⟨⟨_, tyN_of X G q.1.1, q.1.2⟩, _, own_of X G q.2.1, q.2.2⟩
  · intro c e
    have hm : c ∈ T.nsqs := by simpa [Tab.g] using e
    have q := s15 _ hm
    unfold nsqB at q
    simp only [Bool.and_eq_true] at q
    exact ⟨_, own_of X G q.1, q.2⟩
  · intro c t e
    have hm : (c, t) ∈ T.nfsts := by simpa [Tab.g] using e
    have q := s11 _ hm
    unfold nfstB at q
    simp only [Bool.and_eq_true] at q
    exact ⟨_, _, own_of X G q.1, tyN_of X G q.2.1, q.2.2⟩
  · intro c e
    have hm : c ∈ T.dnes := by simpa [Tab.g] using e
    have q := s12 _ hm
    unfold dneB at q
    simp only [Bool.and_eq_true] at q
    exact ⟨_, own_of X G q.1, He.eqO_ok q.2⟩
  · intro x hx
    exact free_of X G (s9 x hx)
  · refine ⟨?_, ?_, ?_, ?_, ?_⟩
    · intro c e
      have hm : c ∈ T.clsns := by simpa [Tab.g] using e
      have q := s8 c hm
      unfold clsnB at q
      simp only [Bool.or_eq_true, Bool.and_eq_true, decide_eq_true_eq] at q
      rcases q with q | ⟨q1, q2⟩
      · exact ⟨_, .inl ⟨_, hg c q, rfl⟩⟩
      · exact ⟨_, .inr ⟨free_of X G q1, q2, rfl⟩⟩
    · intro b hb
      exact free_of X G (s10 b hb)
    · intro c e
      have hm : c ∈ T.exns := by simpa [Tab.g] using e
      have q := s5 c hm
      unfold exnB at q
      simp only [Bool.and_eq_true, decide_eq_true_eq] at q
      obtain ⟨q1, q2, q3, q4, q5, q6, q7, q8, q9⟩ := q
      obtain ⟨x1, x2, x3, x4⟩ := He.exc_ok q2
      exact ⟨_, hg c q1, ⟨He.eqO_ok q3, He.eqO_ok q4, x3, q5, He.eqO_ok q6, He.eqO_ok q7, q8, q9⟩, x1, x2, x4⟩
    · intro c
      show (T.cls c).bind (fun ct => ct.meths.lookup "") = none
      cases e1 : T.cls c with
      | none => rfl
      | some ctt =>
        obtain ⟨hm, _⟩ := cls_mem e1
        have q := c3 ctt hm
        show ctt.meths.lookup "" = none
        cases e2 : ctt.meths.lookup "" with
        | none => rfl
        | some k =>
          have := q _ (lookup_mem e2)
          simp at this
    · intro t c b e
      have hm := lookup_mem (show T.exms.lookup (t, c) = some b from e)
      have q := s7 _ hm
      unfold exmB at q
      simp only [Bool.and_eq_true, decide_eq_true_eq] at q
      exact ⟨c4 _ hm, _, _, hg _ q.1, hg _ q.2.1, q.2.2⟩
end
/-- what a call lets out, at some world -/
def CXe (P : Program) : CXT := fun outer H s E u s' => ∃ w, L2.CX P w outer H s E u s'
theorem fnOk_cx {P : Program} {w : World} {K : PySem.W.Frag} {mg : PySem.Str → Option Value} {base : Heap} {k : Nat} {f : Addr} {fd : FuncData} {ps : List PySem.Str} {sp : Sp} (F : FnOk P w K mg base (L2.CX P w) k f fd ps sp) : FnOk P w K mg base (CXe P) k f fd ps sp :=
  ⟨F.len, fun A outer s H args us vs Q E hr he hb hv hs => codeAny_mono (F.run A outer s H args us vs Q E hr he hb hv hs) fun r s' h => by
    cases r with
    | error e => exact ⟨w, h⟩
    | ok fl =>
      cases fl with
      | ret u => exact h
      | _ => exact h⟩
theorem CXe.no {P : Program} (H : Hp) (s : Shared) (e : Value) (s' : Shared) (z : CXe P [] H s (fun _ _ _ => False) e s') : False := by
  obtain ⟨_, _, _, _, _, _, _, _, _, _, _, _, _, z⟩ := z
  exact z
/-- what the head wants of the law -/
theorem Tab.facts {T : Tab} {P : Program} {w : World} {K : PySem.W.Frag} {h : Heap} {mg : PySem.Str → Option Value} {f : Addr} {x : PySem.Str} (n : Nat) (hc : T.chk = true) (X : K.In h) (G : h.Ns mainGlobals mg) (hfa : mg (nm "law") = some (.ref f)) (c : T.obs K = T.val)
    (hk : "law" ∈ T.fnks) {d : Df} (hd : T.find "law" = some d) (hw : d.wh = .glob "law") (hps : d.ps = [x]) (hdl : d.fd.dfl = [] := by rfl) (hva : d.fd.va = false := by rfl) :
    ∃ fd : FuncData, (∀ (s : Shared) (v : Value), BindsTo s fd ⟨[v], []⟩ [(x, v)]) ∧ ∀ base : Heap, K.In base → base.Ns mainGlobals mg → FnOk P w K mg base (CXe P) (2 * n + 1 + 1) f fd [x] (spM K mg (callN T.fs T.g (n + 1) "law")) := by
  have hs : T.says K = true := congrArg (fun z : He.AlD => z.1) c
  have hf : (T.defs.map fun d => He5.fnA K (d.toA.at_ K)) = T.defs.map fun d => d.toA.val := congrArg (fun z : He.AlD => z.2) c
  obtain ⟨⟨fd, F⟩, hdf⟩ := def_of hc hs hf hd
  have S := sok hc X G hs hf
  unfold dfB at hdf
  simp only [Bool.and_eq_true, decide_eq_true_eq] at hdf
  obtain ⟨h1, h2, h3, h4, _, _, h5⟩ := hdf
  rw [if_neg (by rw [hva]; simp)] at h2
  have ha : d.wh.at_ K = f := by
    have hs0 := hs
    unfold Tab.says at hs0
    simp only [Bool.and_eq_true, List.all_eq_true] at hs0
    have q := (hs0.2.1 _ hk).1
    have := glo_of X G q
    rw [hfa] at this
    cases this
    rw [hw]
    rfl
  rw [ha] at F
  have hdv : d.toA.dvs K = [] := by show (d.fd.dfl.map dvD).map _ = []; rw [hdl]; rfl
  rw [hdv] at F
  rw [hps] at h2 h4
  have hsc := scB_ok h1
  rw [hps] at hsc
  have b := law_fn (P := P) (w := w) (base := h) S n (find_fs hd) F hsc h2 h3 h4 h5
  exact ⟨fd, b.1, fun base _ _ => fnOk_cx (law_fn (P := P) (w := w) (base := base) S n (find_fs hd) F hsc h2 h3 h4 h5).2⟩
end Py
end

section
set_option linter.all false
set_option autoImplicit false
set_option maxHeartbeats 1000000
/-! Plain Lean: kinds. -/
namespace Pn
open Py
section
variable {fs : List FD} {g0 : Gs} {n : Nat} {μ : Store} {c : String} {b : Bool}
/-! ### isinstance, by instances -/
@[simp] theorem isi_non [h : GSub g0 "NoneType" c b] : isiD (gN fs g0 n) .non [c] μ = .ok (.bl b) μ := isi_of rfl h.eq
@[simp] theorem isi_bl {x : Bool} [h : GSub g0 "bool" c b] : isiD (gN fs g0 n) (.bl x) [c] μ = .ok (.bl b) μ := isi_of rfl h.eq
@[simp] theorem isi_int {x : Int} [h : GSub g0 "int" c b] : isiD (gN fs g0 n) (.int x) [c] μ = .ok (.bl b) μ := isi_of rfl h.eq
@[simp] theorem isi_str {x : S} [h : GSub g0 "str" c b] : isiD (gN fs g0 n) (.str x) [c] μ = .ok (.bl b) μ := isi_of rfl h.eq
@[simp] theorem isi_tup {x : List D} [h : GSub g0 "tuple" c b] : isiD (gN fs g0 n) (.tup x) [c] μ = .ok (.bl b) μ := isi_of rfl h.eq
theorem isi_lst {i : Nat} {l : List D} (e : μ[i]? = some (.lst l)) [h : GSub g0 "list" c b] : isiD (gN fs g0 n) (.obj i) [c] μ = .ok (.bl b) μ := isi_of (t := "list") (by simp [tyOf, e]) h.eq
theorem isi_ins {i : Nat} {k : String} {l : List (String × D)} (e : μ[i]? = some (.ins k l)) [GIns g0 k] [h : GSub g0 k c b] : isiD (gN fs g0 n) (.obj i) [c] μ = .ok (.bl b) μ := isi_of (t := k) (by simp [tyOf, e]) h.eq
class BtF (g0 : Gs) : Prop where
  bt : Bt g0
/-! ### what only grows -/
def Ex (μ μ' : Store) : Prop := ∃ ν, μ' = μ ++ ν
theorem Ex.refl (μ : Store) : Ex μ μ := ⟨[], by simp⟩
theorem Ex.trans {μ μ' μ'' : Store} (a : Ex μ μ') (b : Ex μ' μ'') : Ex μ μ'' := by
  obtain ⟨x, rfl⟩ := a
  obtain ⟨y, rfl⟩ := b
  exact ⟨x ++ y, by simp⟩
theorem Ex.push (μ : Store) (o : MO) : Ex μ (μ ++ [o]) := ⟨[o], rfl⟩
theorem Ex.at {μ μ' : Store} (a : Ex μ μ') {i : Nat} {o : MO} (h : μ[i]? = some o) : μ'[i]? = some o := by
  obtain ⟨x, rfl⟩ := a
  rw [List.getElem?_append_left (List.getElem?_eq_some_iff.mp h).1]
  exact h
theorem Ex.fr {μ μ' : Store} (a : Ex μ μ') (h : Dr μ) : Fr μ μ' := by
  obtain ⟨x, rfl⟩ := a
  have hp := h.pos
  obtain ⟨l, h0, hl⟩ := h
  exact ⟨⟨l, by rw [List.getElem?_append_left hp]; exact h0, hl⟩, by simp, fun j _ hj => List.getElem?_append_left hj⟩
theorem _root_.Py.Fr.at {μ μ' : Store} (a : Fr μ μ') {i : Nat} {o : MO} (h : μ[i]? = some o) (h0 : i ≠ 0) : μ'[i]? = some o := by
  rw [a.old i h0 (List.getElem?_eq_some_iff.mp h).1]
  exact h
theorem Ex.set {μ μ' : Store} (h : Ex μ μ') {o : Nat} (ho : μ.length ≤ o) (x : MO) : Ex μ (μ'.set o x) := by
  obtain ⟨ν, rfl⟩ := h
  exact ⟨ν.set (o - μ.length) x, by rw [List.set_append_right _ _ ho]⟩
theorem _root_.Py.Fr.set {μ μ' : Store} (h : Fr μ μ') {o : Nat} (hp : 0 < μ.length) (ho : μ.length ≤ o) (x : MO) : Fr μ (μ'.set o x) := by
  obtain ⟨⟨l, h0, h1⟩, h2, h3⟩ := h
  refine ⟨⟨l, by rw [List.getElem?_set_ne (by omega)]; exact h0, h1⟩, by simpa using h2, fun j hj hl => ?_⟩
  rw [List.getElem?_set_ne (by omega)]
  exact h3 j hj hl
theorem at_set {μ : Store} {o : Nat} (h : o < μ.length) (x : MO) : (μ.set o x)[o]? = some x := by
  rw [List.getElem?_set_self h]
theorem at_lt {μ : Store} {i : Nat} {o : MO} (h : μ[i]? = some o) : i < μ.length := (List.getElem?_eq_some_iff.mp h).1
theorem Ex.setAt {μ μ' : Store} {x : MO} (h : Ex (μ ++ [x]) μ') (y : MO) : Ex (μ ++ [y]) (μ'.set μ.length y) := by
  obtain ⟨ν, rfl⟩ := h
  refine ⟨ν, ?_⟩
  simp
/-! ### the draws -/
theorem sp_draw [hf : HasF fs g0 C.f__law_draw] (hn : 1 ≤ n) (hd : Dr μ) {m : Int} (hm : 0 < m) : ((gN fs g0 n).callF "_law_draw" [.obj 0, .int m] μ).Wp (fun d μ' => ∃ i : Int, d = .int i ∧ 0 ≤ i ∧ i < m ∧ Fr μ μ') noE := by
  obtain ⟨n, rfl⟩ : ∃ m, n = m + 1 := ⟨n - 1, by omega⟩
  rw [hf.has.callK (key := "_law_draw") rfl rfl]
  exact law_draw hf.has hd hm
theorem sp_draws [hf : HasF fs g0 C.f__law_draws] (hn : 1 ≤ n) (ns : List Int) (hl : ns.length ≤ 63) : ((gN fs g0 n).callF "_law_draws" [.fz (ns.map .int)] []).Wp (fun d μ' => d = .obj 0 ∧ Dr μ' ∧ μ'.length = 1) noE := by
  obtain ⟨n, rfl⟩ : ∃ m, n = m + 1 := ⟨n - 1, by omega⟩
  rw [hf.has.callK (key := "_law_draws") rfl rfl]
  refine (law_draws hf.has ns hl).to fun d μ' h => ?_
  obtain ⟨rfl, l, rfl, h2, h3⟩ := h
  exact ⟨rfl, ⟨l, rfl, h2⟩, rfl⟩
theorem sp_same [hf : HasF fs g0 C.f__law_same] [b : BtF g0] {k : Nat} {d : D} (hn : k < n) (hk : k ≤ 60) (hd : D.deep k d) : (gN fs g0 n).callF "_law_same" [d, d] μ = .ok (.bl true) μ := by
  rw [hf.has.callK (key := "_law_same") rfl rfl]
  obtain ⟨a, μ', h1, h2, h3⟩ := (law_same hf.has b.bt n k d μ hn hk hd).get
  rw [h1, h2, h3]
/-! ### kinds -/
inductive Ki where
  | q | i | b | u
  | f (l r : Ki)
  | p (l r : Ki)
  deriving DecidableEq, Inhabited
def Ki.d : Ki → D
  | .q => .str [63]
  | .i => .str [105, 110, 116]
  | .b => .str [98, 111, 111, 108]
  | .u => .str [117, 110, 105, 116]
  | .f l r => .tup [.str [102, 117, 110], l.d, r.d]
  | .p l r => .tup [.str [112, 97, 105, 114], l.d, r.d]
def Ki.h : Ki → Nat
  | .f l r => 1 + max l.h r.h
  | .p l r => 1 + max l.h r.h
  | _ => 0
def Ki.sz : Ki → Nat
  | .f l r => 1 + l.sz + r.sz
  | .p l r => 1 + l.sz + r.sz
  | _ => 1
theorem Ki.sz_le (k : Ki) : k.sz + 1 ≤ 2 ^ (k.h + 1) := by
  induction k with
  | f l r a b | p l r a b =>
    have h1 : 2 ^ (l.h + 1) ≤ 2 ^ (max l.h r.h + 1) := Nat.pow_le_pow_right (by omega) (by omega)
    have h2 : 2 ^ (r.h + 1) ≤ 2 ^ (max l.h r.h + 1) := Nat.pow_le_pow_right (by omega) (by omega)
    simp only [Ki.sz, Ki.h]
    have h3 : 2 ^ (1 + max l.h r.h + 1) = 2 * 2 ^ (max l.h r.h + 1) := by rw [show 1 + max l.h r.h + 1 = (max l.h r.h + 1) + 1 by omega, Nat.pow_succ]; omega
    omega
  | _ => simp [Ki.sz, Ki.h]
theorem Ki.deep (k : Ki) : ∀ m, k.h ≤ m → D.deep m k.d := by
  induction k with
  | f l r a b | p l r a b =>
    intro m hm
    simp only [Ki.h] at hm
    obtain ⟨m, rfl⟩ : ∃ j, m = j + 1 := ⟨m - 1, by omega⟩
    simp only [Ki.d, D.deep, D.deeps]
    refine ⟨by simp, ⟨by decide, by simp [line]⟩, a m (by omega), b m (by omega), trivial⟩
  | _ => intro m _; simp only [Ki.d, D.deep]; exact ⟨by decide, by simp [line]⟩
theorem Ki.plain (k : Ki) (h : k.h ≤ 60) : k.d.plain 60 = true := D.deep_plain _ _ (k.deep 60 h)
theorem Ki.eqv (a : Ki) : ∀ b : Ki, D.eqv a.d b.d = decide (a = b) := by
  induction a with
  | f l r x y | p l r x y => intro b; cases b <;> simp [Ki.d, D.eqv, D.eqvs, x, y]
  | _ => intro b; cases b <;> simp [Ki.d, D.eqv]
@[simp] theorem ins_ki (k : Ki) : insOf k.d μ = none := by cases k <;> rfl
theorem ki_eq (a b : Ki) (ha : a.h ≤ 60) (hb : b.h ≤ 60) : copG (gN fs g0 n) .eq a.d b.d μ = .ok (.bl (decide (a = b))) μ := by
  have e : eqD a.d b.d μ = .ok (decide (a = b)) μ := by
    have : eqD a.d b.d μ = if a.d.plain 60 && b.d.plain 60 then .ok (D.eqv a.d b.d) μ else .bad := by
      cases a <;> cases b <;> rfl
    rw [this]
    simp [a.plain ha, b.plain hb, Ki.eqv]
  rw [cop_own (ins_ki a)]
  simp [cop, e]
theorem ki_ne (a b : Ki) (ha : a.h ≤ 60) (hb : b.h ≤ 60) : copG (gN fs g0 n) .ne a.d b.d μ = .ok (.bl (!decide (a = b))) μ := by
  have e : eqD a.d b.d μ = .ok (decide (a = b)) μ := by
    have : eqD a.d b.d μ = if a.d.plain 60 && b.d.plain 60 then .ok (D.eqv a.d b.d) μ else .bad := by
      cases a <;> cases b <;> rfl
    rw [this]
    simp [a.plain ha, b.plain hb, Ki.eqv]
  rw [cop_own (ins_ki a)]
  simp [cop, e]
def Ki.isT : Ki → Bool
  | .f _ _ => true
  | .p _ _ => true
  | _ => false
@[simp] theorem isi_ki (k : Ki) [GSub g0 "str" "tuple" false] [GSub g0 "tuple" "tuple" true] : isiD (gN fs g0 n) k.d ["tuple"] μ = .ok (.bl k.isT) μ := by cases k <;> simp [Ki.d, Ki.isT]
@[simp] theorem isAble_ki (k : Ki) : isAble k.d = true := by cases k <;> rfl
@[simp] theorem isNon_ki (k : Ki) : isNon k.d = false := by cases k <;> rfl
theorem sp_kind [HasF fs g0 C.f__law_draw] [HasF fs g0 C.f__law_kind] : ∀ (h : Nat) (n : Nat) (μ : Store), h + 2 ≤ n → Dr μ →
    ((gN fs g0 n).callF "_law_kind" [.obj 0, .int h] μ).Wp (fun d μ' => ∃ k : Ki, d = k.d ∧ k.h ≤ h ∧ Fr μ μ') noE := by
  have base : ∀ (n : Nat) (h : Nat) (μ μ' : Store) (i : Int) (P : D → Store → Prop), 0 ≤ i → i < 9 → Fr μ μ' → (E.den (gN fs g0 n) none (.idx (.lst (.cons (.lit (.str [63])) (.cons (.lit (.str [105, 110, 116])) (.cons (.lit (.str [98, 111, 111, 108])) (.cons (.lit (.str [117, 110, 105, 116])) (.cons (.lit (.str [63])) (.cons (.lit (.str [105, 110, 116])) .nil))))))) (.bin .mod (.var 2) (.lit (.int 6)))) [some (.obj 0), some (.int h), some (.int i), none, none] μ').Wp (fun d μ' => ∃ k : Ki, d = k.d ∧ k.h ≤ h ∧ Fr μ μ') noE := by
    intro n h μ μ' i P h1 h2 fr
    have f2 := fr.trans (Fr.push fr.dr (.lst [.str [63], .str [105, 110, 116], .str [98, 111, 111, 108], .str [117, 110, 105, 116], .str [63], .str [105, 110, 116]]))
    have : i = 0 ∨ i = 1 ∨ i = 2 ∨ i = 3 ∨ i = 4 ∨ i = 5 ∨ i = 6 ∨ i = 7 ∨ i = 8 := by omega
    rcases this with rfl | rfl | rfl | rfl | rfl | rfl | rfl | rfl | rfl <;> simp [atI, ixN]
    · exact ⟨.q, rfl, by simp [Ki.h], f2⟩
    · exact ⟨.i, rfl, by simp [Ki.h], f2⟩
    · exact ⟨.b, rfl, by simp [Ki.h], f2⟩
    · exact ⟨.u, rfl, by simp [Ki.h], f2⟩
    · exact ⟨.q, rfl, by simp [Ki.h], f2⟩
    · exact ⟨.i, rfl, by simp [Ki.h], f2⟩
    · exact ⟨.q, rfl, by simp [Ki.h], f2⟩
    · exact ⟨.i, rfl, by simp [Ki.h], f2⟩
    · exact ⟨.b, rfl, by simp [Ki.h], f2⟩
  intro h
  induction h with
  | zero =>
    intro n μ hn hd
    refine wp_callF (f := C.f__law_kind) rfl rfl (by omega) ?_
    simp only [C.f__law_kind, C.b__law_kind, startE, List.map]
    simp
    refine (sp_draw (by omega) hd (by decide)).to ?_
    rintro d μ' ⟨i, rfl, h1, h2, fr⟩
    simp [-wp_idx]
    exact base _ 0 μ μ' i (fun _ _ => True) h1 h2 fr
  | succ h ih =>
    intro n μ hn hd
    refine wp_callF (f := C.f__law_kind) rfl rfl (by omega) ?_
    simp only [C.f__law_kind, C.b__law_kind, startE, List.map]
    simp
    refine (sp_draw (by omega) hd (by decide)).to ?_
    rintro d μ' ⟨i, rfl, h1, h2, fr⟩
    simp [-wp_idx]
    by_cases h6 : 6 ≤ i
    · simp [h6]
      refine (ih (n - 1) μ' (by omega) fr.dr).to ?_
      rintro d μ2 ⟨k1, rfl, hk1, fr1⟩
      simp
      refine (ih (n - 1) μ2 (by omega) fr1.dr).to ?_
      rintro d μ3 ⟨k2, rfl, hk2, fr2⟩
      simp
      have f3 := (fr.trans fr1).trans fr2
      by_cases h8 : i = 8
      · simp [h8]
        exact ⟨.p k1 k2, rfl, by simp [Ki.h]; omega, f3⟩
      · simp [h8]
        exact ⟨.f k1 k2, rfl, by simp [Ki.h]; omega, f3⟩
    · simp [h6, -wp_idx]
      exact base _ (h + 1) μ μ' i (fun _ _ => True) h1 h2 fr
theorem word2 (i : Int) (h1 : 0 ≤ i) (h2 : i < 2) : ∃ f : Ki → Ki → Ki, atI [D.str [102, 117, 110], D.str [112, 97, 105, 114]] i = some (.str (if i = 0 then [102, 117, 110] else [112, 97, 105, 114])) ∧ (∀ a b : Ki, D.tup [.str (if i = 0 then [102, 117, 110] else [112, 97, 105, 114]), a.d, b.d] = (f a b).d) ∧ ∀ a b : Ki, (f a b).h = 1 + max a.h b.h := by
  have : i = 0 ∨ i = 1 := by omega
  rcases this with rfl | rfl
  · exact ⟨.f, rfl, fun _ _ => rfl, fun _ _ => rfl⟩
  · exact ⟨.p, rfl, fun _ _ => rfl, fun _ _ => rfl⟩
theorem sp_kindI [HasF fs g0 C.f__law_draw] [HasF fs g0 C.f__law_kind] (h : Int) (hn : h.toNat + 2 ≤ n) (hd : Dr μ) :
    ((gN fs g0 n).callF "_law_kind" [.obj 0, .int h] μ).Wp (fun d μ' => ∃ k : Ki, d = k.d ∧ k.h ≤ h.toNat ∧ Fr μ μ') noE := by
  by_cases h0 : 0 ≤ h
  · obtain ⟨h, rfl⟩ := Int.eq_ofNat_of_zero_le h0
    exact sp_kind h n μ (by simpa using hn) hd
  · refine wp_callF (f := C.f__law_kind) rfl rfl (by omega) ?_
    simp only [C.f__law_kind, C.b__law_kind, startE, List.map]
    have h1 : ¬ 0 < h := by omega
    simp
    refine (sp_draw (by omega) hd (by decide)).to ?_
    rintro d μ' ⟨i, rfl, h2, h3, fr⟩
    simp [h1]
    have f2 := fr.trans (Fr.push fr.dr (.lst [.str [63], .str [105, 110, 116], .str [98, 111, 111, 108], .str [117, 110, 105, 116], .str [63], .str [105, 110, 116]]))
    have : i = 0 ∨ i = 1 ∨ i = 2 ∨ i = 3 ∨ i = 4 ∨ i = 5 ∨ i = 6 ∨ i = 7 ∨ i = 8 := by omega
    rcases this with rfl | rfl | rfl | rfl | rfl | rfl | rfl | rfl | rfl <;> simp [atI, ixN]
    · exact ⟨.q, rfl, by simp [Ki.h], f2⟩
    · exact ⟨.i, rfl, by simp [Ki.h], f2⟩
    · exact ⟨.b, rfl, by simp [Ki.h], f2⟩
    · exact ⟨.u, rfl, by simp [Ki.h], f2⟩
    · exact ⟨.q, rfl, by simp [Ki.h], f2⟩
    · exact ⟨.i, rfl, by simp [Ki.h], f2⟩
    · exact ⟨.q, rfl, by simp [Ki.h], f2⟩
    · exact ⟨.i, rfl, by simp [Ki.h], f2⟩
    · exact ⟨.b, rfl, by simp [Ki.h], f2⟩
/-! ### heights -/
theorem sp_height [HasF fs g0 C.f_kind_height] [GSub g0 "str" "tuple" false] [GSub g0 "tuple" "tuple" true] [hw : GWf g0] (hn : 1 ≤ n) (k : Ki) (hk : k.h ≤ 22) :
    ((gN fs g0 n).callF "kind_height" [k.d] μ).Wp (fun d μ' => d = .int k.h ∧ Ex μ μ') noE := by
  refine wp_callF (f := C.f_kind_height) rfl rfl (by omega) ?_
  simp only [C.f_kind_height, C.b_kind_height, startE, List.map]
  simp [ws_whl]
  let it (p : Ki × Nat) : D := .tup [p.1.d, .int p.2]
  let I (m : Nat) (ρ : Env) (μ' : Store) : Prop := ∃ (L : List (Ki × Nat)) (hi : Nat) (x y : Option D), ρ = [some k.d, some (.int hi), some (.obj μ.length), x, y] ∧ μ' = μ ++ [.lst (L.map it)] ∧
    m = (L.map fun p => p.1.sz).sum ∧ m ≤ k.sz ∧ k.h = L.foldr (fun p a => max (p.2 + p.1.h) a) hi
  have hsz : k.sz + 1 ≤ 2 ^ 23 := Nat.le_trans k.sz_le (Nat.pow_le_pow_right (by omega) (by omega))
  have pos : ∀ k : Ki, 1 ≤ k.sz := fun k => by cases k <;> simp [Ki.sz] <;> omega
  have len : ∀ L : List (Ki × Nat), L.length ≤ (L.map fun p => p.1.sz).sum := fun L => by
    induction L with
    | nil => simp
    | cons a l ih => have := pos a.1; simp; omega
  refine wp_whl I k.sz ?_ ?_ ?_
  · show k.sz < g0.wf
    rw [hw.eq]
    have h3 : (2 : Nat) ^ 23 < 10 ^ 40 := by decide
    omega
  · exact ⟨[(k, 0)], 0, none, none, rfl, rfl, by simp, by simp, by simp⟩
  · rintro m ρ μ' ⟨L, hi, x, y, rfl, rfl, rfl, hm, hh⟩
    rw [testR_wp]
    simp
    rcases List.eq_nil_or_concat L with rfl | ⟨L, ⟨p, e⟩, rfl⟩
    · simp at hh
      simp [hh]
      exact Ex.push _ _
    · have hl := len L
      simp [it] at hh hm ⊢
      cases p with
      | f l r | p l r =>
        simp [Ki.sz] at hm
        simp [Ki.isT, Ki.d, atI, ixN]
        refine ⟨by omega, by omega, _, ?_, L ++ [(l, e + 1), (r, e + 1)], hi, _, _, rfl, ?_, rfl, ?_, ?_⟩
        · simp [Ki.sz]
        · simp [it]
        · simp; omega
        · rw [hh]; simp [Ki.h]; congr 1; omega
      | _ => 
        simp [Ki.sz, Ki.h] at hm hh
        simp [Ki.isT, Ki.d]
        by_cases h : hi < e
        · simp [h]
          refine ⟨_, ?_, L, e, _, _, rfl, rfl, rfl, by omega, ?_⟩
          · simp [Ki.sz]
          · rw [hh]; congr 1; omega
        · simp [h]
          refine ⟨_, ?_, L, hi, _, _, rfl, rfl, rfl, by omega, ?_⟩
          · simp [Ki.sz]
          · rw [hh]; congr 1; omega
/-! ### objects -/
def KiAt (μ : Store) (i : Nat) (k : Ki) : Prop := μ[i]? = some (.ins "Kind" [("tree", k.d)])
theorem KiAt.set {μ : Store} {i o : Nat} {k : Ki} {l : List D} {x : MO} (h : KiAt μ i k) (ho : μ[o]? = some (.lst l)) : KiAt (μ.set o x) i k := by
  have : o ≠ i := by
    rintro rfl
    unfold KiAt at h
    rw [ho] at h
    cases h
  unfold KiAt
  rw [List.getElem?_set_ne this]
  exact h
theorem get_app {α : Type} {xs : List α} {x y : α} {j : Nat} (h : (xs ++ [x])[j]? = some y) : xs[j]? = some y ∨ (j = xs.length ∧ y = x) := by
  by_cases hj : j < xs.length
  · rw [List.getElem?_append_left hj] at h
    exact .inl h
  · rw [List.getElem?_append_right (by omega)] at h
    by_cases h0 : j - xs.length = 0
    · rw [h0] at h
      simp at h
      exact .inr ⟨by omega, h.symm⟩
    · rw [List.getElem?_eq_none (by simp; omega)] at h
      cases h
theorem Ex.len {μ μ' : Store} (h : Ex μ μ') : μ.length ≤ μ'.length := by obtain ⟨ν, rfl⟩ := h; simp
theorem sp_newKind [HasF fs g0 C.f_kind_height] [HasF fs g0 C.f_Kind___init__] [GSub g0 "str" "tuple" false] [GSub g0 "tuple" "tuple" true] [GInit g0 "Kind" "Kind.__init__"] [NProp g0 "Kind" "LIMIT"] [GCon g0 "Kind" "LIMIT" (.int 8)] [GFld g0 "Kind" "tree"] [GExn g0 "TooLarge"]
    [hw : GWf g0] (hn : 2 ≤ n) (k : Ki) (hk : k.h ≤ 22) :
    (newD (gN fs g0 n) "Kind" [k.d] μ).Wp (fun d μ' => k.h ≤ 8 ∧ d = .obj μ.length ∧ Ex μ μ' ∧ KiAt μ' μ.length k) (fun x μ' => 8 < k.h ∧ x = ⟨"TooLarge", []⟩ ∧ Ex μ μ') := by
  simp [newD_eq]
  refine wp_callF (f := C.f_Kind___init__) rfl rfl (by omega) ?_
  simp only [C.f_Kind___init__, C.b_Kind___init__, startE, List.map]
  simp
  refine (sp_height (by omega) k hk).to ?_
  rintro d μ' ⟨rfl, ν, rfl⟩
  by_cases h8 : 8 < k.h
  · have : (8 : Int) < k.h := by omega
    simp [this, h8, isNon]
    exact ⟨_, rfl⟩
  · have : ¬ (8 : Int) < k.h := by omega
    simp [this, h8, isNon, putF]
    exact ⟨by omega, ⟨_, rfl⟩, by simp [KiAt]⟩
theorem sp_abs [HasF fs g0 C.f_kind_height] [HasF fs g0 C.f_Kind___abs__] [GSub g0 "str" "tuple" false] [GSub g0 "tuple" "tuple" true] [GFld g0 "Kind" "tree"] [NProp g0 "Kind" "tree"] [GWf g0] (hn : 2 ≤ n) {i : Nat} {k : Ki} (hk : k.h ≤ 22) (hi : KiAt μ i k) :
    ((gN fs g0 n).callF "Kind.__abs__" [.obj i] μ).Wp (fun d μ' => d = .int k.h ∧ Ex μ μ') noE := by
  refine wp_callF (f := C.f_Kind___abs__) rfl rfl (by omega) ?_
  simp only [C.f_Kind___abs__, C.b_Kind___abs__, startE, List.map]
  unfold KiAt at hi
  simp [hi]
  exact sp_height (by omega) k hk
end
end Pn
end

section
set_option linter.all false
set_option autoImplicit false
set_option maxHeartbeats 1000000
set_option maxRecDepth 10000
/-! Plain Lean: kinds drawn by the laws; their relations. -/
namespace Pn
open Py
section
variable {fs : List FD} {g0 : Gs} {n : Nat} {μ : Store}
/-! ### parts -/
def Ki.w : Ki → S
  | .p _ _ => [112, 97, 105, 114]
  | _ => [102, 117, 110]
def Ki.mk (a : Ki) (l r : Ki) : Ki := match a with
  | .p _ _ => .p l r
  | _ => .f l r
def Ki.l : Ki → Ki
  | .f l _ => l
  | .p l _ => l
  | k => k
def Ki.r : Ki → Ki
  | .f _ r => r
  | .p _ r => r
  | k => k
theorem ki_q (a : Ki) (ha : a.h ≤ 60) : copG (gN fs g0 n) .eq a.d (.str [63]) μ = .ok (.bl (decide (a = .q))) μ := ki_eq a .q ha (by simp [Ki.h])
@[simp] theorem idx_f0 (l r : Ki) : idx (Ki.f l r).d (.int 0) μ = .ok (.str [102, 117, 110]) μ := by simp [Ki.d, atI, ixN]
@[simp] theorem idx_p0 (l r : Ki) : idx (Ki.p l r).d (.int 0) μ = .ok (.str [112, 97, 105, 114]) μ := by simp [Ki.d, atI, ixN]
@[simp] theorem idx_f1 (l r : Ki) : idx (Ki.f l r).d (.int 1) μ = .ok l.d μ := by simp [Ki.d, atI, ixN]
@[simp] theorem idx_p1 (l r : Ki) : idx (Ki.p l r).d (.int 1) μ = .ok l.d μ := by simp [Ki.d, atI, ixN]
@[simp] theorem idx_f2 (l r : Ki) : idx (Ki.f l r).d (.int 2) μ = .ok r.d μ := by simp [Ki.d, atI, ixN]
@[simp] theorem idx_p2 (l r : Ki) : idx (Ki.p l r).d (.int 2) μ = .ok r.d μ := by simp [Ki.d, atI, ixN]
theorem eq_word (x y : S) (hx : okS x = true ∧ x.length ≤ line) (hy : okS y = true ∧ y.length ≤ line) : copG (gN fs g0 n) .eq (.str x) (.str y) μ = .ok (.bl (x == y)) μ := by
  rw [cop_own (by rfl)]
  have : eqD (.str x) (.str y) μ = .ok (x == y) μ := by
    show (if (D.str x).plain 60 && (D.str y).plain 60 then R.ok (D.eqv (.str x) (.str y)) μ else R.bad) = _
    have h1 : (D.str x).plain 60 = true := by unfold D.plain; simp [hx.1]; simpa using hx.2
    have h2 : (D.str y).plain 60 = true := by unfold D.plain; simp [hy.1]; simpa using hy.2
    simp [h1, h2, D.eqv]
  simp [cop, this]
@[simp] theorem eq_ff : copG (gN fs g0 n) .eq (.str [102, 117, 110]) (.str [102, 117, 110]) μ = .ok (.bl true) μ := eq_word _ _ (by decide) (by decide)
@[simp] theorem eq_fp : copG (gN fs g0 n) .eq (.str [102, 117, 110]) (.str [112, 97, 105, 114]) μ = .ok (.bl false) μ := eq_word _ _ (by decide) (by decide)
@[simp] theorem eq_pf : copG (gN fs g0 n) .eq (.str [112, 97, 105, 114]) (.str [102, 117, 110]) μ = .ok (.bl false) μ := eq_word _ _ (by decide) (by decide)
@[simp] theorem eq_pp : copG (gN fs g0 n) .eq (.str [112, 97, 105, 114]) (.str [112, 97, 105, 114]) μ = .ok (.bl true) μ := eq_word _ _ (by decide) (by decide)
@[simp] theorem tup_f (l r : Ki) : D.tup [.str [102, 117, 110], l.d, r.d] = (Ki.f l r).d := (rfl)
@[simp] theorem tup_p (l r : Ki) : D.tup [.str [112, 97, 105, 114], l.d, r.d] = (Ki.p l r).d := (rfl)
@[simp] theorem str_q : D.str [63] = Ki.q.d := (rfl)
/-! ### drawn kinds -/
theorem sp_tall [HasF fs g0 C.f__law_draw] [HasF fs g0 C.f__law_kind] [HasF fs g0 C.f__law_tall] (hn : 4 ≤ n) (hd : Dr μ) : ((gN fs g0 n).callF "_law_tall" [.obj 0] μ).Wp (fun d μ' => ∃ k : Ki, d = k.d ∧ k.h ≤ 8 ∧ Fr μ μ') noE := by
  refine wp_callF (f := C.f__law_tall) rfl rfl (by omega) ?_
  simp only [C.f__law_tall, C.b__law_tall, startE, List.map]
  simp
  refine (sp_kind 0 _ _ (by omega) hd).to ?_
  rintro d μ1 ⟨k, rfl, hk, fr⟩
  simp [ws_for]
  refine (sp_draw (by omega) fr.dr (by decide)).to ?_
  rintro d μ2 ⟨w, rfl, hw1, hw2, fr2⟩
  obtain ⟨h, rfl⟩ := Int.eq_ofNat_of_zero_le hw1
  simp [range_ok (okR_of (i := 0) (by decide) (by decide)) (okR_of (i := (h : Int)) (by omega) (by omega)), forD]
  refine wp_forP (fun i ρ μ' => ∃ (k : Ki) (a b c : Option D), ρ = [some (.obj 0), some k.d, a, b, c] ∧ k.h ≤ i ∧ Fr μ μ') ⟨k, none, none, none, rfl, by omega, fr.trans fr2⟩ ?_ ?_
  · rintro i d ρ μ2 hi ⟨k, a, b, c, rfl, hk, fr⟩
    obtain ⟨hi1, rfl⟩ := rints_at hi
    simp
    refine (sp_kind 0 _ _ (by omega) fr.dr).to ?_
    rintro d μ3 ⟨k2, rfl, hk2, fr2⟩
    simp
    refine (sp_draw (by omega) fr2.dr (by decide)).to ?_
    rintro d μ4 ⟨w, rfl, hw1, hw2, fr3⟩
    have f4 := (fr.trans fr2).trans fr3
    simp
    by_cases w0 : w = 0
    · simp [w0]
      exact ⟨.f k k2, rfl, by simp [Ki.h]; omega, f4⟩
    · by_cases w1 : w = 1
      · simp [w1]
        exact ⟨.f k2 k, rfl, by simp [Ki.h]; omega, f4⟩
      · by_cases w2 : w = 2
        · simp [w2]
          exact ⟨.p k k2, rfl, by simp [Ki.h]; omega, f4⟩
        · simp [w0, w1, w2]
          exact ⟨.p k2 k, rfl, by simp [Ki.h]; omega, f4⟩
  · rintro ρ μ' ⟨k, a, b, c, rfl, hk, fr⟩
    simp
    rw [rints_len] at hk
    exact ⟨k, rfl, by omega, fr⟩
theorem sp_rich [HasF fs g0 C.f__law_draw] [HasF fs g0 C.f__law_kind] [HasF fs g0 C.f__law_rich] : ∀ (h n : Nat) (μ : Store), h + 3 ≤ n → Dr μ → ((gN fs g0 n).callF "_law_rich" [.obj 0, .int h] μ).Wp (fun d μ' => ∃ k : Ki, d = k.d ∧ k.h ≤ h ∧ Fr μ μ') noE := by
  intro h
  induction h with
  | zero =>
    intro n μ hn hd
    refine wp_callF (f := C.f__law_rich) rfl rfl (by omega) ?_
    simp only [C.f__law_rich, C.b__law_rich, startE, List.map]
    simp
    exact sp_kind 0 _ _ (by omega) hd
  | succ h ih =>
    intro n μ hn hd
    refine wp_callF (f := C.f__law_rich) rfl rfl (by omega) ?_
    simp only [C.f__law_rich, C.b__law_rich, startE, List.map]
    have h0 : ¬ (h : Int) + 1 ≤ 0 := by omega
    simp [h0]
    refine (sp_draw (by omega) hd (by decide)).to ?_
    rintro d μ1 ⟨i, rfl, h1, h2, fr⟩
    simp
    by_cases hi : i = 0
    · simp [hi]
      refine (sp_kind 0 _ _ (by omega) fr.dr).to ?_
      rintro d μ2 ⟨k, rfl, hk, fr2⟩
      exact ⟨k, rfl, by omega, fr.trans fr2⟩
    · simp [hi]
      have f2 := Fr.push fr.dr (.lst [.str [102, 117, 110], .str [112, 97, 105, 114]])
      refine (sp_draw (by omega) f2.dr (by decide)).to ?_
      rintro d μ3 ⟨w, rfl, hw1, hw2, fr3⟩
      obtain ⟨f, e1, e2, e3⟩ := word2 w hw1 hw2
      have h0 : (μ1 ++ [MO.lst [D.str [102, 117, 110], D.str [112, 97, 105, 114]]])[μ1.length]? = some (MO.lst [D.str [102, 117, 110], D.str [112, 97, 105, 114]]) := by simp
      have := fr3.at h0 (by have := fr.dr.pos; omega)
      simp [this, e1]
      refine (ih _ _ (by omega) fr3.dr).to ?_
      rintro d μ4 ⟨k1, rfl, hk1, fr4⟩
      simp
      refine (ih _ _ (by omega) fr4.dr).to ?_
      rintro d μ5 ⟨k2, rfl, hk2, fr5⟩
      simp
      exact ⟨f k1 k2, e2 k1 k2, by rw [e3]; omega, (((fr.trans f2).trans fr3).trans fr4).trans fr5⟩
section
variable [HasF fs g0 C.f__law_draw] [HasF fs g0 C.f__law_kind] [HasF fs g0 C.f__law_rich] [HasF fs g0 C.f__law_tall] [HasF fs g0 C.f__law_some_kind] [HasF fs g0 C.f__law_agreeing] [HasF fs g0 C.f__law_dented] [HasF fs g0 C.f__law_looser] [HasF fs g0 C.f__law_other]
  [GSub g0 "str" "tuple" false] [GSub g0 "tuple" "tuple" true]
omit [HasF fs g0 C.f__law_agreeing] [HasF fs g0 C.f__law_dented] [HasF fs g0 C.f__law_looser] [HasF fs g0 C.f__law_other] [GSub g0 "str" "tuple" false] [GSub g0 "tuple" "tuple" true] in
theorem sp_some (hn : 8 ≤ n) (hd : Dr μ) : ((gN fs g0 n).callF "_law_some_kind" [.obj 0] μ).Wp (fun d μ' => ∃ k : Ki, d = k.d ∧ k.h ≤ 8 ∧ Fr μ μ') noE := by
  refine wp_callF (f := C.f__law_some_kind) rfl rfl (by omega) ?_
  simp only [C.f__law_some_kind, C.b__law_some_kind, startE, List.map]
  simp
  refine (sp_draw (by omega) hd (by decide)).to ?_
  rintro d μ2 ⟨w, rfl, hw1, hw2, fr⟩
  simp
  by_cases w4 : w = 4
  · simp [w4]
    refine (sp_tall (by omega) fr.dr).to ?_
    rintro d μ3 ⟨k, rfl, hk, fr3⟩
    exact ⟨k, rfl, hk, fr.trans fr3⟩
  · by_cases w3 : w = 3
    · simp [w3]
      refine (sp_kind 1 _ _ (by omega) fr.dr).to ?_
      rintro d μ3 ⟨k, rfl, hk, fr3⟩
      exact ⟨k, rfl, by omega, fr.trans fr3⟩
    · simp [w3, w4]
      refine (sp_rich 3 _ _ (by omega) fr.dr).to ?_
      rintro d μ3 ⟨k, rfl, hk, fr3⟩
      exact ⟨k, rfl, by omega, fr.trans fr3⟩
omit [HasF fs g0 C.f__law_rich] [HasF fs g0 C.f__law_tall] [HasF fs g0 C.f__law_some_kind] [HasF fs g0 C.f__law_dented] [HasF fs g0 C.f__law_looser] [HasF fs g0 C.f__law_other] in
theorem sp_agreeing (k : Ki) (hk : k.h ≤ 60) : ∀ (h : Int) (n : Nat) (μ : Store), k.h + 3 + h.toNat ≤ n → Dr μ → ((gN fs g0 n).callF "_law_agreeing" [.obj 0, k.d, .int h] μ).Wp (fun d μ' => ∃ k' : Ki, d = k'.d ∧ k'.h ≤ max k.h h.toNat ∧ Fr μ μ') noE := by
  induction k with
  | f l r a b | p l r a b =>
    intro h n μ hn hd
    simp only [Ki.h] at hn hk
    refine wp_callF (f := C.f__law_agreeing) rfl rfl (by omega) ?_
    simp only [C.f__law_agreeing, C.b__law_agreeing, startE, List.map]
    have hq := fun (n : Nat) (μ : Store) => ki_q (fs := fs) (g0 := g0) (n := n) (μ := μ) (Ki.f l r) (by simp only [Ki.h]; omega)
    have hq2 := fun (n : Nat) (μ : Store) => ki_q (fs := fs) (g0 := g0) (n := n) (μ := μ) (Ki.p l r) (by simp only [Ki.h]; omega)
    simp only [str_q] at hq hq2
    simp [hq, hq2]
    refine (sp_draw (by omega) hd (by decide)).to ?_
    rintro d μ1 ⟨i, rfl, h1, h2, fr⟩
    simp
    by_cases hi : i = 3
    · simp [hi]
      exact ⟨.q, rfl, by simp [Ki.h], fr⟩
    · simp [hi, Ki.isT]
      refine (a (by omega) _ _ _ (by omega) fr.dr).to ?_
      rintro d μ2 ⟨k1, rfl, hk1, fr2⟩
      simp
      refine (b (by omega) _ _ _ (by omega) fr2.dr).to ?_
      rintro d μ3 ⟨k2, rfl, hk2, fr3⟩
      simp
      first
        | exact ⟨.f k1 k2, rfl, by simp only [Ki.h]; omega, (fr.trans fr2).trans fr3⟩
        | exact ⟨.p k1 k2, rfl, by simp only [Ki.h]; omega, (fr.trans fr2).trans fr3⟩
  | q =>
    intro h n μ hn hd
    simp only [Ki.h] at hn hk
    refine wp_callF (f := C.f__law_agreeing) rfl rfl (by omega) ?_
    simp only [C.f__law_agreeing, C.b__law_agreeing, startE, List.map]
    simp [ki_eq _ _ (show Ki.q.h ≤ 60 by simp [Ki.h]) (show Ki.q.h ≤ 60 by simp [Ki.h])]
    refine (sp_kindI _ (by omega) hd).to ?_
    rintro d μ1 ⟨k, rfl, hk, fr⟩
    exact ⟨k, rfl, by omega, fr⟩
  | i | b | u =>
    intro h n μ hn hd
    simp only [Ki.h] at hn hk
    refine wp_callF (f := C.f__law_agreeing) rfl rfl (by omega) ?_
    simp only [C.f__law_agreeing, C.b__law_agreeing, startE, List.map]
    simp [ki_eq _ Ki.q (show Ki.i.h ≤ 60 by simp [Ki.h]) (show Ki.q.h ≤ 60 by simp [Ki.h]), ki_eq _ Ki.q (show Ki.b.h ≤ 60 by simp [Ki.h]) (show Ki.q.h ≤ 60 by simp [Ki.h]), ki_eq _ Ki.q (show Ki.u.h ≤ 60 by simp [Ki.h]) (show Ki.q.h ≤ 60 by simp [Ki.h])]
    refine (sp_draw (by omega) hd (by decide)).to ?_
    rintro d μ1 ⟨i, rfl, h1, h2, fr⟩
    simp
    by_cases hi : i = 3
    · simp [hi]
      exact ⟨.q, rfl, by simp [Ki.h], fr⟩
    · simp [hi, Ki.isT]
      first
        | exact ⟨.i, rfl, by simp [Ki.h], fr⟩
        | exact ⟨.b, rfl, by simp [Ki.h], fr⟩
        | exact ⟨.u, rfl, by simp [Ki.h], fr⟩
omit [HasF fs g0 C.f__law_rich] [HasF fs g0 C.f__law_tall] [HasF fs g0 C.f__law_some_kind] [HasF fs g0 C.f__law_agreeing] [HasF fs g0 C.f__law_kind] [HasF fs g0 C.f__law_dented] [HasF fs g0 C.f__law_other] in
theorem sp_looser (k : Ki) : ∀ (n : Nat) (μ : Store), k.h + 2 ≤ n → Dr μ → ((gN fs g0 n).callF "_law_looser" [.obj 0, k.d] μ).Wp (fun d μ' => ∃ k' : Ki, d = k'.d ∧ k'.h ≤ k.h ∧ Fr μ μ') noE := by
  induction k with
  | f l r a b | p l r a b =>
    intro n μ hn hd
    simp only [Ki.h] at hn
    refine wp_callF (f := C.f__law_looser) rfl rfl (by omega) ?_
    simp only [C.f__law_looser, C.b__law_looser, startE, List.map]
    simp
    refine (sp_draw (by omega) hd (by decide)).to ?_
    rintro d μ1 ⟨i, rfl, h1, h2, fr⟩
    simp
    by_cases hi : i = 2
    · simp [hi]
      exact ⟨.q, rfl, by simp [Ki.h], fr⟩
    · simp [hi, Ki.isT]
      refine (a _ _ (by omega) fr.dr).to ?_
      rintro d μ2 ⟨k1, rfl, hk1, fr2⟩
      simp
      refine (b _ _ (by omega) fr2.dr).to ?_
      rintro d μ3 ⟨k2, rfl, hk2, fr3⟩
      simp
      first
        | exact ⟨.f k1 k2, rfl, by simp only [Ki.h]; omega, (fr.trans fr2).trans fr3⟩
        | exact ⟨.p k1 k2, rfl, by simp only [Ki.h]; omega, (fr.trans fr2).trans fr3⟩
  | q | i | b | u =>
    intro n μ hn hd
    refine wp_callF (f := C.f__law_looser) rfl rfl (by omega) ?_
    simp only [C.f__law_looser, C.b__law_looser, startE, List.map]
    simp
    refine (sp_draw (by omega) hd (by decide)).to ?_
    rintro d μ1 ⟨i, rfl, h1, h2, fr⟩
    simp
    by_cases hi : i = 2
    · simp [hi]
      exact ⟨.q, rfl, by simp [Ki.h], fr⟩
    · simp [hi, Ki.isT]
      first
        | exact ⟨.q, rfl, by simp [Ki.h], fr⟩
        | exact ⟨.i, rfl, by simp [Ki.h], fr⟩
        | exact ⟨.b, rfl, by simp [Ki.h], fr⟩
        | exact ⟨.u, rfl, by simp [Ki.h], fr⟩
omit [HasF fs g0 C.f__law_rich] [HasF fs g0 C.f__law_tall] [HasF fs g0 C.f__law_some_kind] [HasF fs g0 C.f__law_agreeing] [HasF fs g0 C.f__law_looser] [HasF fs g0 C.f__law_other] in
theorem sp_dented (k : Ki) : ∀ (n : Nat) (μ : Store), k.h + 5 ≤ n → Dr μ → ((gN fs g0 n).callF "_law_dented" [.obj 0, k.d] μ).Wp (fun d μ' => ∃ k' : Ki, d = k'.d ∧ k'.h ≤ k.h ∧ Fr μ μ') noE := by
  induction k with
  | f l r a b | p l r a b =>
    intro n μ hn hd
    simp only [Ki.h] at hn
    refine wp_callF (f := C.f__law_dented) rfl rfl (by omega) ?_
    simp only [C.f__law_dented, C.b__law_dented, startE, List.map]
    simp
    refine (sp_draw (by omega) hd (by decide)).to ?_
    rintro d μ1 ⟨i, rfl, h1, h2, fr⟩
    simp [Ki.isT]
    have : i = 0 ∨ i = 1 ∨ i = 2 ∨ i = 3 := by omega
    rcases this with rfl | rfl | rfl | rfl
    · simp
      refine (sp_kind 1 _ _ (by omega) fr.dr).to ?_
      rintro d μ3 ⟨k, rfl, hk, fr3⟩
      exact ⟨k, rfl, by simp only [Ki.h]; omega, fr.trans fr3⟩
    · simp [atI, ixN]
      first
        | exact ⟨.p l r, rfl, by simp only [Ki.h]; omega, fr.trans (Fr.push fr.dr _)⟩
        | exact ⟨.f l r, rfl, by simp only [Ki.h]; omega, fr.trans (Fr.push fr.dr _)⟩
    · simp
      refine (a _ _ (by omega) fr.dr).to ?_
      rintro d μ2 ⟨k1, rfl, hk1, fr2⟩
      simp
      first
        | exact ⟨.f k1 r, rfl, by simp only [Ki.h]; omega, fr.trans fr2⟩
        | exact ⟨.p k1 r, rfl, by simp only [Ki.h]; omega, fr.trans fr2⟩
    · simp
      refine (b _ _ (by omega) fr.dr).to ?_
      rintro d μ2 ⟨k1, rfl, hk1, fr2⟩
      simp
      first
        | exact ⟨.f l k1, rfl, by simp only [Ki.h]; omega, fr.trans fr2⟩
        | exact ⟨.p l k1, rfl, by simp only [Ki.h]; omega, fr.trans fr2⟩
  | q | i | b | u =>
    intro n μ hn hd
    refine wp_callF (f := C.f__law_dented) rfl rfl (by omega) ?_
    simp only [C.f__law_dented, C.b__law_dented, startE, List.map]
    simp
    refine (sp_draw (by omega) hd (by decide)).to ?_
    rintro d μ1 ⟨i, rfl, h1, h2, fr⟩
    simp [Ki.isT]
    refine (sp_kind 0 _ _ (by omega) fr.dr).to ?_
    rintro d μ3 ⟨k, rfl, hk, fr3⟩
    exact ⟨k, rfl, by simp only [Ki.h]; omega, fr.trans fr3⟩
theorem sp_other (k : Ki) (hk : k.h ≤ 8) (hn : 20 ≤ n) (hd : Dr μ) : ((gN fs g0 n).callF "_law_other" [.obj 0, k.d] μ).Wp (fun d μ' => ∃ k' : Ki, d = k'.d ∧ k'.h ≤ 8 ∧ Fr μ μ') noE := by
  refine wp_callF (f := C.f__law_other) rfl rfl (by omega) ?_
  simp only [C.f__law_other, C.b__law_other, startE, List.map]
  simp
  refine (sp_draw (by omega) hd (by decide)).to ?_
  rintro d μ1 ⟨i, rfl, h1, h2, fr⟩
  simp
  have : i = 0 ∨ i = 1 ∨ i = 2 ∨ i = 3 ∨ i = 4 ∨ i = 5 := by omega
  rcases this with rfl | rfl | rfl | rfl | rfl | rfl
  · simp
    refine (sp_agreeing k (by omega) 3 _ _ (by simp; omega) fr.dr).to ?_
    rintro d μ3 ⟨k, rfl, hk, fr3⟩
    exact ⟨k, rfl, by simp at hk; omega, fr.trans fr3⟩
  · simp
    refine (sp_agreeing k (by omega) 3 _ _ (by simp; omega) fr.dr).to ?_
    rintro d μ3 ⟨k, rfl, hk, fr3⟩
    exact ⟨k, rfl, by simp at hk; omega, fr.trans fr3⟩
  · simp
    refine (sp_dented k _ _ (by omega) fr.dr).to ?_
    rintro d μ3 ⟨k, rfl, hk, fr3⟩
    exact ⟨k, rfl, by omega, fr.trans fr3⟩
  · simp
    refine (sp_agreeing k (by omega) 3 _ _ (by simp; omega) fr.dr).to ?_
    rintro d μ3 ⟨k, rfl, hk, fr3⟩
    simp at hk ⊢
    refine (sp_dented k _ _ (by omega) fr3.dr).to ?_
    rintro d μ4 ⟨k, rfl, hk, fr4⟩
    exact ⟨k, rfl, by omega, (fr.trans fr3).trans fr4⟩
  · simp
    refine (sp_looser k _ _ (by omega) fr.dr).to ?_
    rintro d μ3 ⟨k, rfl, hk, fr3⟩
    exact ⟨k, rfl, by omega, fr.trans fr3⟩
  · simp
    refine (sp_some (by omega) fr.dr).to ?_
    rintro d μ3 ⟨k, rfl, hk, fr3⟩
    exact ⟨k, rfl, by omega, fr.trans fr3⟩
end
end
end Pn
end

section
set_option linter.all false
set_option autoImplicit false
set_option maxHeartbeats 1000000
set_option maxRecDepth 10000
/-! Plain Lean: relations between kinds. -/
namespace Pn
open Py
theorem eq_of_wp {α : Type} {r : R α} {a : α} {μ : Store} (h : r.Wp (fun d μ' => d = a ∧ μ' = μ) noE) : r = .ok a μ := by
  obtain ⟨x, y, e, rfl, rfl⟩ := h.get
  exact e
/-! ### plain -/
def Ki.shp : Ki → Ki → Bool
  | .f _ _, .f _ _ => true
  | .p _ _, .p _ _ => true
  | _, _ => false
def Ki.agr : Ki → Ki → Bool
  | .f x y, .f z w => x.agr z && y.agr w
  | .p x y, .p z w => x.agr z && y.agr w
  | .q, _ => true
  | _, .q => true
  | x, y => decide (x = y)
def Ki.le : Ki → Ki → Bool
  | .f x y, .f z w => x.le z && y.le w
  | .p x y, .p z w => x.le z && y.le w
  | _, .q => true
  | x, y => decide (x = y)
/-- of those that agree -/
def Ki.mt : Ki → Ki → Ki
  | .f x y, .f z w => .f (x.mt z) (y.mt w)
  | .p x y, .p z w => .p (x.mt z) (y.mt w)
  | .q, y => y
  | x, _ => x
def Ki.jn : Ki → Ki → Ki
  | .f x y, .f z w => .f (x.jn z) (y.jn w)
  | .p x y, .p z w => .p (x.jn z) (y.jn w)
  | x, y => if x = y then x else .q
theorem Ki.le_q (k : Ki) : k.le .q = true := by cases k <;> rfl
theorem Ki.le_refl (k : Ki) : k.le k = true := by induction k <;> simp_all [Ki.le]
theorem Ki.le_anti (x : Ki) : ∀ y : Ki, x.le y = true → y.le x = true → x = y := by
  induction x with
  | f l r a b | p l r a b =>
    intro y h1 h2
    cases y <;> simp [Ki.le] at h1 h2 ⊢
    exact ⟨a _ h1.1 h2.1, b _ h1.2 h2.2⟩
  | _ => intro y h1 h2; cases y <;> simp [Ki.le] at h1 h2 ⊢
theorem Ki.le_trans (x : Ki) : ∀ y z : Ki, x.le y = true → y.le z = true → x.le z = true := by
  induction x with
  | f l r a b | p l r a b =>
    intro y z h1 h2
    cases y <;> cases z <;> simp [Ki.le] at h1 h2 ⊢
    exact ⟨a _ _ h1.1 h2.1, b _ _ h1.2 h2.2⟩
  | _ => intro y z h1 h2; cases y <;> cases z <;> simp [Ki.le] at h1 h2 ⊢
section
variable {fs : List FD} {g0 : Gs} {n : Nat} {μ : Store} [GSub g0 "str" "tuple" false] [GSub g0 "tuple" "tuple" true]
theorem sp_shape [HasF fs g0 C.f_same_shape] (a b : Ki) (hn : 1 ≤ n) : (gN fs g0 n).callF "same_shape" [a.d, b.d] μ = .ok (.bl (a.shp b)) μ := by
  apply eq_of_wp
  refine wp_callF (f := C.f_same_shape) rfl rfl (by omega) ?_
  simp only [C.f_same_shape, C.b_same_shape, startE, List.map]
  cases a <;> cases b <;> simp [Ki.isT, Ki.shp]
theorem sp_shaped [HasF fs g0 C.f__law_shaped] (a b : Ki) (hn : 1 ≤ n) : (gN fs g0 n).callF "_law_shaped" [a.d, b.d] μ = .ok (.bl (a.shp b)) μ := by
  apply eq_of_wp
  refine wp_callF (f := C.f__law_shaped) rfl rfl (by omega) ?_
  simp only [C.f__law_shaped, C.b__law_shaped, startE, List.map]
  cases a <;> cases b <;> simp [Ki.isT, Ki.shp]
theorem sp_le [HasF fs g0 C.f_same_shape] [HasF fs g0 C.f_as_precise] (a : Ki) : ∀ (b : Ki) (n : Nat) (μ : Store), a.h ≤ 60 → b.h ≤ 60 → a.h + 2 ≤ n → (gN fs g0 n).callF "as_precise" [a.d, b.d] μ = .ok (.bl (a.le b)) μ := by
  induction a with
  | f l r ia ib | p l r ia ib =>
    intro b n μ ha hb hn
    have hq := fun (n : Nat) (μ : Store) => ki_q (fs := fs) (g0 := g0) (n := n) (μ := μ) b hb
    have hq' := fun (n : Nat) (μ : Store) => ki_q (fs := fs) (g0 := g0) (n := n) (μ := μ) _ ha
    have he := fun (n : Nat) (μ : Store) => ki_eq (fs := fs) (g0 := g0) (n := n) (μ := μ) _ b ha hb
    have hs := fun (μ : Store) (a b : Ki) => sp_shape (fs := fs) (g0 := g0) (n := n - 1) (μ := μ) a b (by simp only [Ki.h] at hn; omega)
    apply eq_of_wp
    refine wp_callF (f := C.f_as_precise) rfl rfl (by omega) ?_
    simp only [C.f_as_precise, C.b_as_precise, startE, List.map]
    simp only [str_q] at hq hq'
    cases b with
    | f l2 r2 | p l2 r2 =>
      simp only [Ki.h] at ha hb hn
      have e1 := fun μ => ia l2 (n - 1) μ (by omega) (by omega) (by omega)
      have e2 := fun μ => ib r2 (n - 1) μ (by omega) (by omega) (by omega)
      simp [e1, e2, hq, hq', he, hs, Ki.le, Ki.shp]
      try (cases l.le l2 <;> simp)
      try (cases l.agr l2 <;> simp)
    | _ => simp [hq, hq', he, hs, Ki.le, Ki.shp]
  | _ =>
    intro b n μ ha hb hn
    have hq := fun (n : Nat) (μ : Store) => ki_q (fs := fs) (g0 := g0) (n := n) (μ := μ) b hb
    have hq' := fun (n : Nat) (μ : Store) => ki_q (fs := fs) (g0 := g0) (n := n) (μ := μ) _ ha
    have he := fun (n : Nat) (μ : Store) => ki_eq (fs := fs) (g0 := g0) (n := n) (μ := μ) _ b ha hb
    have hs := fun (μ : Store) (a b : Ki) => sp_shape (fs := fs) (g0 := g0) (n := n - 1) (μ := μ) a b (by simp only [Ki.h] at hn; omega)
    apply eq_of_wp
    refine wp_callF (f := C.f_as_precise) rfl rfl (by omega) ?_
    simp only [C.f_as_precise, C.b_as_precise, startE, List.map]
    simp only [str_q] at hq hq'
    cases b <;> simp [hq, hq', he, hs, Ki.le, Ki.shp]

theorem sp_lawle [HasF fs g0 C.f__law_shaped] [HasF fs g0 C.f__law_precise] (a : Ki) : ∀ (b : Ki) (n : Nat) (μ : Store), a.h ≤ 60 → b.h ≤ 60 → a.h + 2 ≤ n → (gN fs g0 n).callF "_law_precise" [a.d, b.d] μ = .ok (.bl (a.le b)) μ := by
  induction a with
  | f l r ia ib | p l r ia ib =>
    intro b n μ ha hb hn
    have hq := fun (n : Nat) (μ : Store) => ki_q (fs := fs) (g0 := g0) (n := n) (μ := μ) b hb
    have hq' := fun (n : Nat) (μ : Store) => ki_q (fs := fs) (g0 := g0) (n := n) (μ := μ) _ ha
    have he := fun (n : Nat) (μ : Store) => ki_eq (fs := fs) (g0 := g0) (n := n) (μ := μ) _ b ha hb
    have hs := fun (μ : Store) (a b : Ki) => sp_shaped (fs := fs) (g0 := g0) (n := n - 1) (μ := μ) a b (by simp only [Ki.h] at hn; omega)
    apply eq_of_wp
    refine wp_callF (f := C.f__law_precise) rfl rfl (by omega) ?_
    simp only [C.f__law_precise, C.b__law_precise, startE, List.map]
    simp only [str_q] at hq hq'
    cases b with
    | f l2 r2 | p l2 r2 =>
      simp only [Ki.h] at ha hb hn
      have e1 := fun μ => ia l2 (n - 1) μ (by omega) (by omega) (by omega)
      have e2 := fun μ => ib r2 (n - 1) μ (by omega) (by omega) (by omega)
      simp [e1, e2, hq, hq', he, hs, Ki.le, Ki.shp]
      try (cases l.le l2 <;> simp)
      try (cases l.agr l2 <;> simp)
    | _ => simp [hq, hq', he, hs, Ki.le, Ki.shp]
  | _ =>
    intro b n μ ha hb hn
    have hq := fun (n : Nat) (μ : Store) => ki_q (fs := fs) (g0 := g0) (n := n) (μ := μ) b hb
    have hq' := fun (n : Nat) (μ : Store) => ki_q (fs := fs) (g0 := g0) (n := n) (μ := μ) _ ha
    have he := fun (n : Nat) (μ : Store) => ki_eq (fs := fs) (g0 := g0) (n := n) (μ := μ) _ b ha hb
    have hs := fun (μ : Store) (a b : Ki) => sp_shaped (fs := fs) (g0 := g0) (n := n - 1) (μ := μ) a b (by simp only [Ki.h] at hn; omega)
    apply eq_of_wp
    refine wp_callF (f := C.f__law_precise) rfl rfl (by omega) ?_
    simp only [C.f__law_precise, C.b__law_precise, startE, List.map]
    simp only [str_q] at hq hq'
    cases b <;> simp [hq, hq', he, hs, Ki.le, Ki.shp]

theorem sp_agr [HasF fs g0 C.f_same_shape] [HasF fs g0 C.f_agree] (a : Ki) : ∀ (b : Ki) (n : Nat) (μ : Store), a.h ≤ 60 → b.h ≤ 60 → a.h + 2 ≤ n → (gN fs g0 n).callF "agree" [a.d, b.d] μ = .ok (.bl (a.agr b)) μ := by
  induction a with
  | f l r ia ib | p l r ia ib =>
    intro b n μ ha hb hn
    have hq := fun (n : Nat) (μ : Store) => ki_q (fs := fs) (g0 := g0) (n := n) (μ := μ) b hb
    have hq' := fun (n : Nat) (μ : Store) => ki_q (fs := fs) (g0 := g0) (n := n) (μ := μ) _ ha
    have he := fun (n : Nat) (μ : Store) => ki_eq (fs := fs) (g0 := g0) (n := n) (μ := μ) _ b ha hb
    have hs := fun (μ : Store) (a b : Ki) => sp_shape (fs := fs) (g0 := g0) (n := n - 1) (μ := μ) a b (by simp only [Ki.h] at hn; omega)
    apply eq_of_wp
    refine wp_callF (f := C.f_agree) rfl rfl (by omega) ?_
    simp only [C.f_agree, C.b_agree, startE, List.map]
    simp only [str_q] at hq hq'
    cases b with
    | f l2 r2 | p l2 r2 =>
      simp only [Ki.h] at ha hb hn
      have e1 := fun μ => ia l2 (n - 1) μ (by omega) (by omega) (by omega)
      have e2 := fun μ => ib r2 (n - 1) μ (by omega) (by omega) (by omega)
      simp [e1, e2, hq, hq', he, hs, Ki.agr, Ki.shp]
      try (cases l.le l2 <;> simp)
      try (cases l.agr l2 <;> simp)
    | _ => simp [hq, hq', he, hs, Ki.agr, Ki.shp]
  | _ =>
    intro b n μ ha hb hn
    have hq := fun (n : Nat) (μ : Store) => ki_q (fs := fs) (g0 := g0) (n := n) (μ := μ) b hb
    have hq' := fun (n : Nat) (μ : Store) => ki_q (fs := fs) (g0 := g0) (n := n) (μ := μ) _ ha
    have he := fun (n : Nat) (μ : Store) => ki_eq (fs := fs) (g0 := g0) (n := n) (μ := μ) _ b ha hb
    have hs := fun (μ : Store) (a b : Ki) => sp_shape (fs := fs) (g0 := g0) (n := n - 1) (μ := μ) a b (by simp only [Ki.h] at hn; omega)
    apply eq_of_wp
    refine wp_callF (f := C.f_agree) rfl rfl (by omega) ?_
    simp only [C.f_agree, C.b_agree, startE, List.map]
    simp only [str_q] at hq hq'
    cases b <;> simp [hq, hq', he, hs, Ki.agr, Ki.shp]

theorem sp_lawagr [HasF fs g0 C.f__law_shaped] [HasF fs g0 C.f__law_agree] (a : Ki) : ∀ (b : Ki) (n : Nat) (μ : Store), a.h ≤ 60 → b.h ≤ 60 → a.h + 2 ≤ n → (gN fs g0 n).callF "_law_agree" [a.d, b.d] μ = .ok (.bl (a.agr b)) μ := by
  induction a with
  | f l r ia ib | p l r ia ib =>
    intro b n μ ha hb hn
    have hq := fun (n : Nat) (μ : Store) => ki_q (fs := fs) (g0 := g0) (n := n) (μ := μ) b hb
    have hq' := fun (n : Nat) (μ : Store) => ki_q (fs := fs) (g0 := g0) (n := n) (μ := μ) _ ha
    have he := fun (n : Nat) (μ : Store) => ki_eq (fs := fs) (g0 := g0) (n := n) (μ := μ) _ b ha hb
    have hs := fun (μ : Store) (a b : Ki) => sp_shaped (fs := fs) (g0 := g0) (n := n - 1) (μ := μ) a b (by simp only [Ki.h] at hn; omega)
    apply eq_of_wp
    refine wp_callF (f := C.f__law_agree) rfl rfl (by omega) ?_
    simp only [C.f__law_agree, C.b__law_agree, startE, List.map]
    simp only [str_q] at hq hq'
    cases b with
    | f l2 r2 | p l2 r2 =>
      simp only [Ki.h] at ha hb hn
      have e1 := fun μ => ia l2 (n - 1) μ (by omega) (by omega) (by omega)
      have e2 := fun μ => ib r2 (n - 1) μ (by omega) (by omega) (by omega)
      simp [e1, e2, hq, hq', he, hs, Ki.agr, Ki.shp]
      try (cases l.le l2 <;> simp)
      try (cases l.agr l2 <;> simp)
    | _ => simp [hq, hq', he, hs, Ki.agr, Ki.shp]
  | _ =>
    intro b n μ ha hb hn
    have hq := fun (n : Nat) (μ : Store) => ki_q (fs := fs) (g0 := g0) (n := n) (μ := μ) b hb
    have hq' := fun (n : Nat) (μ : Store) => ki_q (fs := fs) (g0 := g0) (n := n) (μ := μ) _ ha
    have he := fun (n : Nat) (μ : Store) => ki_eq (fs := fs) (g0 := g0) (n := n) (μ := μ) _ b ha hb
    have hs := fun (μ : Store) (a b : Ki) => sp_shaped (fs := fs) (g0 := g0) (n := n - 1) (μ := μ) a b (by simp only [Ki.h] at hn; omega)
    apply eq_of_wp
    refine wp_callF (f := C.f__law_agree) rfl rfl (by omega) ?_
    simp only [C.f__law_agree, C.b__law_agree, startE, List.map]
    simp only [str_q] at hq hq'
    cases b <;> simp [hq, hq', he, hs, Ki.agr, Ki.shp]

theorem sp_jn [HasF fs g0 C.f_same_shape] [HasF fs g0 C.f_join] (a : Ki) : ∀ (b : Ki) (n : Nat) (μ : Store), a.h ≤ 60 → b.h ≤ 60 → a.h + 2 ≤ n → (gN fs g0 n).callF "join" [a.d, b.d] μ = .ok ((a.jn b).d) μ := by
  induction a with
  | f l r ia ib | p l r ia ib =>
    intro b n μ ha hb hn
    have hq := fun (n : Nat) (μ : Store) => ki_q (fs := fs) (g0 := g0) (n := n) (μ := μ) b hb
    have hq' := fun (n : Nat) (μ : Store) => ki_q (fs := fs) (g0 := g0) (n := n) (μ := μ) _ ha
    have he := fun (n : Nat) (μ : Store) => ki_eq (fs := fs) (g0 := g0) (n := n) (μ := μ) _ b ha hb
    have hs := fun (μ : Store) (a b : Ki) => sp_shape (fs := fs) (g0 := g0) (n := n - 1) (μ := μ) a b (by simp only [Ki.h] at hn; omega)
    apply eq_of_wp
    refine wp_callF (f := C.f_join) rfl rfl (by omega) ?_
    simp only [C.f_join, C.b_join, startE, List.map]
    simp only [str_q] at hq hq'
    cases b with
    | f l2 r2 | p l2 r2 =>
      simp only [Ki.h] at ha hb hn
      have e1 := fun μ => ia l2 (n - 1) μ (by omega) (by omega) (by omega)
      have e2 := fun μ => ib r2 (n - 1) μ (by omega) (by omega) (by omega)
      simp [e1, e2, hq, hq', he, hs, Ki.jn, Ki.shp]
      try (cases l.le l2 <;> simp)
      try (cases l.agr l2 <;> simp)
    | _ => simp [hq, hq', he, hs, Ki.jn, Ki.shp]
  | _ =>
    intro b n μ ha hb hn
    have hq := fun (n : Nat) (μ : Store) => ki_q (fs := fs) (g0 := g0) (n := n) (μ := μ) b hb
    have hq' := fun (n : Nat) (μ : Store) => ki_q (fs := fs) (g0 := g0) (n := n) (μ := μ) _ ha
    have he := fun (n : Nat) (μ : Store) => ki_eq (fs := fs) (g0 := g0) (n := n) (μ := μ) _ b ha hb
    have hs := fun (μ : Store) (a b : Ki) => sp_shape (fs := fs) (g0 := g0) (n := n - 1) (μ := μ) a b (by simp only [Ki.h] at hn; omega)
    apply eq_of_wp
    refine wp_callF (f := C.f_join) rfl rfl (by omega) ?_
    simp only [C.f_join, C.b_join, startE, List.map]
    simp only [str_q] at hq hq'
    cases b <;> simp [hq, hq', he, hs, Ki.jn, Ki.shp]

theorem sp_lawjn [HasF fs g0 C.f__law_shaped] [HasF fs g0 C.f__law_upper] (a : Ki) : ∀ (b : Ki) (n : Nat) (μ : Store), a.h ≤ 60 → b.h ≤ 60 → a.h + 2 ≤ n → (gN fs g0 n).callF "_law_upper" [a.d, b.d] μ = .ok ((a.jn b).d) μ := by
  induction a with
  | f l r ia ib | p l r ia ib =>
    intro b n μ ha hb hn
    have hq := fun (n : Nat) (μ : Store) => ki_q (fs := fs) (g0 := g0) (n := n) (μ := μ) b hb
    have hq' := fun (n : Nat) (μ : Store) => ki_q (fs := fs) (g0 := g0) (n := n) (μ := μ) _ ha
    have he := fun (n : Nat) (μ : Store) => ki_eq (fs := fs) (g0 := g0) (n := n) (μ := μ) _ b ha hb
    have hs := fun (μ : Store) (a b : Ki) => sp_shaped (fs := fs) (g0 := g0) (n := n - 1) (μ := μ) a b (by simp only [Ki.h] at hn; omega)
    apply eq_of_wp
    refine wp_callF (f := C.f__law_upper) rfl rfl (by omega) ?_
    simp only [C.f__law_upper, C.b__law_upper, startE, List.map]
    simp only [str_q] at hq hq'
    cases b with
    | f l2 r2 | p l2 r2 =>
      simp only [Ki.h] at ha hb hn
      have e1 := fun μ => ia l2 (n - 1) μ (by omega) (by omega) (by omega)
      have e2 := fun μ => ib r2 (n - 1) μ (by omega) (by omega) (by omega)
      simp [e1, e2, hq, hq', he, hs, Ki.jn, Ki.shp]
      try (cases l.le l2 <;> simp)
      try (cases l.agr l2 <;> simp)
    | _ => simp [hq, hq', he, hs, Ki.jn, Ki.shp]
  | _ =>
    intro b n μ ha hb hn
    have hq := fun (n : Nat) (μ : Store) => ki_q (fs := fs) (g0 := g0) (n := n) (μ := μ) b hb
    have hq' := fun (n : Nat) (μ : Store) => ki_q (fs := fs) (g0 := g0) (n := n) (μ := μ) _ ha
    have he := fun (n : Nat) (μ : Store) => ki_eq (fs := fs) (g0 := g0) (n := n) (μ := μ) _ b ha hb
    have hs := fun (μ : Store) (a b : Ki) => sp_shaped (fs := fs) (g0 := g0) (n := n - 1) (μ := μ) a b (by simp only [Ki.h] at hn; omega)
    apply eq_of_wp
    refine wp_callF (f := C.f__law_upper) rfl rfl (by omega) ?_
    simp only [C.f__law_upper, C.b__law_upper, startE, List.map]
    simp only [str_q] at hq hq'
    cases b <;> simp [hq, hq', he, hs, Ki.jn, Ki.shp]

theorem sp_lawmt [HasF fs g0 C.f__law_shaped] [HasF fs g0 C.f__law_meet] (a : Ki) : ∀ (b : Ki) (n : Nat) (μ : Store), a.h ≤ 60 → b.h ≤ 60 → a.h + 2 ≤ n → (gN fs g0 n).callF "_law_meet" [a.d, b.d] μ = .ok ((a.mt b).d) μ := by
  induction a with
  | f l r ia ib | p l r ia ib =>
    intro b n μ ha hb hn
    have hq := fun (n : Nat) (μ : Store) => ki_q (fs := fs) (g0 := g0) (n := n) (μ := μ) b hb
    have hq' := fun (n : Nat) (μ : Store) => ki_q (fs := fs) (g0 := g0) (n := n) (μ := μ) _ ha
    have he := fun (n : Nat) (μ : Store) => ki_eq (fs := fs) (g0 := g0) (n := n) (μ := μ) _ b ha hb
    have hs := fun (μ : Store) (a b : Ki) => sp_shaped (fs := fs) (g0 := g0) (n := n - 1) (μ := μ) a b (by simp only [Ki.h] at hn; omega)
    apply eq_of_wp
    refine wp_callF (f := C.f__law_meet) rfl rfl (by omega) ?_
    simp only [C.f__law_meet, C.b__law_meet, startE, List.map]
    simp only [str_q] at hq hq'
    cases b with
    | f l2 r2 | p l2 r2 =>
      simp only [Ki.h] at ha hb hn
      have e1 := fun μ => ia l2 (n - 1) μ (by omega) (by omega) (by omega)
      have e2 := fun μ => ib r2 (n - 1) μ (by omega) (by omega) (by omega)
      simp [e1, e2, hq, hq', he, hs, Ki.mt, Ki.shp]
      try (cases l.le l2 <;> simp)
      try (cases l.agr l2 <;> simp)
    | _ => simp [hq, hq', he, hs, Ki.mt, Ki.shp]
  | _ =>
    intro b n μ ha hb hn
    have hq := fun (n : Nat) (μ : Store) => ki_q (fs := fs) (g0 := g0) (n := n) (μ := μ) b hb
    have hq' := fun (n : Nat) (μ : Store) => ki_q (fs := fs) (g0 := g0) (n := n) (μ := μ) _ ha
    have he := fun (n : Nat) (μ : Store) => ki_eq (fs := fs) (g0 := g0) (n := n) (μ := μ) _ b ha hb
    have hs := fun (μ : Store) (a b : Ki) => sp_shaped (fs := fs) (g0 := g0) (n := n - 1) (μ := μ) a b (by simp only [Ki.h] at hn; omega)
    apply eq_of_wp
    refine wp_callF (f := C.f__law_meet) rfl rfl (by omega) ?_
    simp only [C.f__law_meet, C.b__law_meet, startE, List.map]
    simp only [str_q] at hq hq'
    cases b <;> simp [hq, hq', he, hs, Ki.mt, Ki.shp]

end
end Pn
end

section
set_option linter.all false
set_option autoImplicit false
set_option maxHeartbeats 1000000
set_option maxRecDepth 10000
/-! Plain Lean: kinds as objects. -/
namespace Pn
open Py
section
variable {fs : List FD} {g0 : Gs} {n : Nat} {μ : Store}
/-! ### comprehensions that only grow the store -/
theorem wp_compM {α : Type} {f : D → Store → R (Option D)} {l : Nat} {P : D → Store → Prop} {E : X → Store → Prop} (toD : α → D) (M : Store → α → D → Prop)
    (st : ∀ μ μ' a d, M μ a d → Ex μ μ' → M μ' a d) (ss : ∀ μ a d o l x, M μ a d → μ[o]? = some (.lst l) → M (μ.set o x) a d) (xs : List α) (hl : xs.length < line) (h0 : μ[l]? = some (.lst (xs.map toD)))
    (hf : ∀ a ∈ xs, ∀ μ', Ex μ μ' → (f (toD a) μ').Wp (fun y μ1 => ∃ d, y = some d ∧ Ex μ' μ1 ∧ M μ1 a d) noE)
    (he : ∀ os μ', Ex μ μ' → μ'[μ.length]? = some (.lst os) → os.length = xs.length → (∀ (j : Nat) (a : α) (d : D), xs[j]? = some a → os[j]? = some d → M μ' a d) → P (.obj μ.length) μ') : (compD f (.list l) μ).Wp P E := by
  refine wp_compL (ds := xs.map toD) (fun i acc μ' => Ex μ μ' ∧ acc.length = i ∧ (∀ (j : Nat) (a : α) (d : D), xs[j]? = some a → acc[j]? = some d → M μ' a d) ∧ μ'[μ.length]? = some (.lst acc)) h0 (fun i acc μ' h => h.1.at h0) ⟨Ex.push _ _, rfl, by simp, by simp⟩ ?_ ?_
  · rintro i d acc μ4 hi ⟨ex, rfl, hm, h4⟩
    obtain ⟨a, hk1, rfl⟩ : ∃ a, xs[acc.length]? = some a ∧ d = toD a := by
      rw [List.getElem?_map] at hi
      cases hx : xs[acc.length]? with
      | none => rw [hx] at hi; cases hi
      | some k => rw [hx] at hi; cases hi; exact ⟨k, rfl, rfl⟩
    have hlt : acc.length < xs.length := (List.getElem?_eq_some_iff.mp hk1).1
    refine (hf a (List.mem_of_getElem? hk1) μ4 ex).to ?_
    rintro y μ5 ⟨d, rfl, ex5, h5⟩
    have h6 := ex5.at h4
    refine ⟨h6, by omega, (ex.trans ex5).set (Nat.le_refl _) _, by simp, ?_, at_set (at_lt h6) _⟩
    intro j a' d' hk' hj
    refine ss _ _ _ _ _ _ ?_ h6
    rcases get_app hj with hj | ⟨rfl, rfl⟩
    · exact st _ _ _ _ (hm j a' d' hk' hj) ex5
    · rw [hk1] at hk'
      cases hk'
      exact h5
  · rintro acc μ4 ⟨ex, hlen, hm, h4⟩
    exact he acc μ4 ex h4 (by simpa using hlen) hm
/-- made of a kind -/
def IsK (μ : Store) (k : Ki) (d : D) : Prop := ∃ i, d = .obj i ∧ KiAt μ i k
theorem IsK.ex {μ μ' : Store} {k : Ki} {d : D} (h : IsK μ k d) (e : Ex μ μ') : IsK μ' k d := by
  obtain ⟨i, rfl, h⟩ := h
  exact ⟨i, rfl, e.at h⟩
theorem IsK.set {μ : Store} {k : Ki} {d : D} {o : Nat} {l : List D} {x : MO} (h : IsK μ k d) (ho : μ[o]? = some (.lst l)) : IsK (μ.set o x) k d := by
  obtain ⟨i, rfl, h⟩ := h
  exact ⟨i, rfl, h.set ho⟩
/-! ### methods -/
section
variable [GFld g0 "Kind" "tree"] [NProp g0 "Kind" "tree"] [GSub g0 "Kind" "Kind" true] [GIns g0 "Kind"] [GSub g0 "str" "tuple" false] [GSub g0 "tuple" "tuple" true] {i j : Nat} {a b : Ki}
omit [GSub g0 "Kind" "Kind" true] [GIns g0 "Kind"] [GSub g0 "str" "tuple" false] [GSub g0 "tuple" "tuple" true] in
theorem ko_tree (hi : KiAt μ i a) : attrD (gN fs g0 n) (.obj i) "tree" μ = .ok a.d μ := by
  unfold KiAt at hi
  simp [hi]
omit [GFld g0 "Kind" "tree"] [NProp g0 "Kind" "tree"] [GSub g0 "str" "tuple" false] [GSub g0 "tuple" "tuple" true] in
theorem ko_isi (hi : KiAt μ i a) : isiD (gN fs g0 n) (.obj i) ["Kind"] μ = .ok (.bl true) μ := isi_ins hi
theorem ko_le [HasF fs g0 C.f_same_shape] [HasF fs g0 C.f_as_precise] [HasF fs g0 C.f_Kind___le__] [GMeth g0 "Kind" "__le__" "Kind.__le__"] (hi : KiAt μ i a) (hj : KiAt μ j b) (ha : a.h ≤ 60) (hb : b.h ≤ 60) (hn : a.h + 3 ≤ n) :
    copG (gN fs g0 n) .le (.obj i) (.obj j) μ = .ok (.bl (a.le b)) μ := by
  have e : (gN fs g0 n).callF "Kind.__le__" [.obj i, .obj j] μ = .ok (.bl (a.le b)) μ := by
    apply eq_of_wp
    refine wp_callF (f := C.f_Kind___le__) rfl rfl (by omega) ?_
    simp only [C.f_Kind___le__, C.b_Kind___le__, startE, List.map]
    have h1 := sp_le (fs := fs) (g0 := g0) a b (n - 1) μ ha hb (by omega)
    simp [ko_isi hj, ko_tree hi, ko_tree hj, h1]
  unfold KiAt at hi hj
  simp [copG, hi, hj, CO.isB, CO.dun, e]
theorem ko_eq [HasF fs g0 C.f_Kind___eq__] [GMeth g0 "Kind" "__eq__" "Kind.__eq__"] (hi : KiAt μ i a) (hj : KiAt μ j b) (ha : a.h ≤ 60) (hb : b.h ≤ 60) (hn : 1 ≤ n) :
    copG (gN fs g0 n) .eq (.obj i) (.obj j) μ = .ok (.bl (decide (a = b))) μ := by
  have e : (gN fs g0 n).callF "Kind.__eq__" [.obj i, .obj j] μ = .ok (.bl (decide (a = b))) μ := by
    apply eq_of_wp
    refine wp_callF (f := C.f_Kind___eq__) rfl rfl (by omega) ?_
    simp only [C.f_Kind___eq__, C.b_Kind___eq__, startE, List.map]
    simp [ko_isi hj, ko_tree hi, ko_tree hj, ki_eq a b ha hb]
  unfold KiAt at hi hj
  simp [copG, hi, hj, CO.isB, CO.dun, e]
end
end
end Pn
end

section
set_option linter.all false
set_option autoImplicit false
set_option maxHeartbeats 1000000
set_option maxRecDepth 10000
/-! Plain Lean: meets and joins of kinds. -/
namespace Pn
open Py
/-! ### plain -/
theorem Ki.mt_self (x : Ki) : x.mt x = x := by induction x <;> simp_all [Ki.mt]
theorem Ki.agr_self (x : Ki) : x.agr x = true := by induction x <;> simp_all [Ki.agr]
theorem Ki.agr_comm (x : Ki) : ∀ y : Ki, x.agr y = y.agr x := by
  induction x with
  | f l r a b | p l r a b => intro y; cases y <;> simp [Ki.agr, a, b]
  | _ => intro y; cases y <;> simp [Ki.agr]
theorem Ki.mt_comm (x : Ki) : ∀ y : Ki, x.agr y = true → x.mt y = y.mt x := by
  induction x with
  | f l r a b | p l r a b =>
    intro y h
    cases y <;> simp [Ki.agr] at h <;> simp [Ki.mt]
    exact ⟨a _ h.1, b _ h.2⟩
  | _ => intro y h; cases y <;> simp [Ki.agr] at h <;> simp [Ki.mt]
theorem Ki.mt_h (x : Ki) : ∀ y : Ki, (x.mt y).h ≤ max x.h y.h := by
  induction x with
  | f l r a b | p l r a b =>
    intro y
    cases y with
    | f l2 r2 | p l2 r2 => have := a l2; have := b r2; simp [Ki.mt, Ki.h]; first | omega | (simp [Ki.mt, Ki.h]; omega)
    | _ => simp [Ki.mt, Ki.h] <;> omega
  | _ => intro y; cases y <;> simp [Ki.mt, Ki.h] <;> omega
theorem Ki.mt_le (x : Ki) : ∀ y : Ki, x.agr y = true → (x.mt y).le x = true := by
  induction x with
  | f l r a b | p l r a b =>
    intro y h
    cases y <;> simp [Ki.agr] at h <;> simp [Ki.mt, Ki.le, Ki.le_refl]
    exact ⟨a _ h.1, b _ h.2⟩
  | _ => intro y h; cases y <;> simp [Ki.agr] at h <;> simp [Ki.mt, Ki.le, Ki.le_q]
theorem Ki.mt_le2 (x y : Ki) (h : x.agr y = true) : (x.mt y).le y = true := by
  rw [Ki.mt_comm x y h]
  exact Ki.mt_le y x (by rw [Ki.agr_comm]; exact h)
theorem Ki.le_mt (x : Ki) : ∀ y z : Ki, z.le x = true → z.le y = true → z.le (x.mt y) = true := by
  induction x with
  | f l r a b | p l r a b =>
    intro y z h1 h2
    cases z <;> simp [Ki.le] at h1 <;> cases y <;> simp [Ki.le] at h2 <;> simp [Ki.mt, Ki.le]
    all_goals first | exact ⟨a _ _ h1.1 h2.1, b _ _ h1.2 h2.2⟩ | exact h1
  | q => intro y z h1 h2; simpa [Ki.mt] using h2
  | _ =>
    intro y z h1 h2
    cases z <;> simp [Ki.le] at h1 <;> cases y <;> simp [Ki.le] at h2 <;> simp [Ki.mt, Ki.le]
theorem Ki.assoc (x : Ki) : ∀ y z : Ki, (x.agr y && (x.mt y).agr z) = (y.agr z && x.agr (y.mt z)) ∧ ((x.agr y && (x.mt y).agr z) = true → (x.mt y).mt z = x.mt (y.mt z)) := by
  induction x with
  | f l r a b | p l r a b =>
    intro y z
    cases y <;> cases z <;> simp [Ki.agr, Ki.mt]
    all_goals
      rename_i l2 r2 l3 r3
      obtain ⟨a1, a2⟩ := a l2 l3
      obtain ⟨b1, b2⟩ := b r2 r3
      refine ⟨?_, fun h1 h2 h3 h4 => ⟨a2 (by simp [h1, h3]), b2 (by simp [h2, h4])⟩⟩
      have e1 : (l.agr l2 && r.agr r2 && ((l.mt l2).agr l3 && (r.mt r2).agr r3)) = ((l.agr l2 && (l.mt l2).agr l3) && (r.agr r2 && (r.mt r2).agr r3)) := by simp [Bool.and_assoc, Bool.and_comm, Bool.and_left_comm]
      have e2 : (l2.agr l3 && r2.agr r3 && (l.agr (l2.mt l3) && r.agr (r2.mt r3))) = ((l2.agr l3 && l.agr (l2.mt l3)) && (r2.agr r3 && r.agr (r2.mt r3))) := by simp [Bool.and_assoc, Bool.and_comm, Bool.and_left_comm]
      rw [e1, e2, a1, b1]
  | _ => intro y z; cases y <;> cases z <;> simp [Ki.agr, Ki.mt]
/-! ### joins -/
theorem Ki.jn_self (x : Ki) : x.jn x = x := by induction x <;> simp_all [Ki.jn]
theorem Ki.jn_comm (x : Ki) : ∀ y : Ki, x.jn y = y.jn x := by
  induction x with
  | f l r a b | p l r a b => intro y; cases y <;> simp [Ki.jn, a, b]
  | _ => intro y; cases y <;> simp [Ki.jn]
theorem Ki.jn_q (x : Ki) : x.jn .q = .q := by cases x <;> simp [Ki.jn]
theorem Ki.q_jn (x : Ki) : Ki.q.jn x = .q := by cases x <;> simp [Ki.jn]
theorem Ki.jn_assoc (x : Ki) : ∀ y z : Ki, (x.jn y).jn z = x.jn (y.jn z) := by
  induction x with
  | f l r a b | p l r a b => intro y z; cases y <;> cases z <;> simp [Ki.jn, a, b, Ki.jn_q, Ki.q_jn]
  | _ => intro y z; cases y <;> cases z <;> simp [Ki.jn, Ki.jn_q, Ki.q_jn]
theorem Ki.jn_h (x : Ki) : ∀ y : Ki, (x.jn y).h ≤ max x.h y.h := by
  induction x with
  | f l r a b | p l r a b =>
    intro y
    cases y with
    | f l2 r2 | p l2 r2 => have := a l2; have := b r2; simp [Ki.jn, Ki.h] <;> omega
    | _ => simp [Ki.jn, Ki.h]
  | _ => intro y; cases y <;> simp [Ki.jn, Ki.h]
theorem Ki.le_jn (x : Ki) : ∀ y : Ki, x.le (x.jn y) = true := by
  induction x with
  | f l r a b | p l r a b => intro y; cases y <;> simp [Ki.jn, Ki.le, a, b]
  | _ => intro y; cases y <;> simp [Ki.jn, Ki.le]
theorem Ki.le_jn2 (x y : Ki) : y.le (x.jn y) = true := by rw [Ki.jn_comm]; exact Ki.le_jn y x
theorem Ki.jn_le (x : Ki) : ∀ y z : Ki, x.le z = true → y.le z = true → (x.jn y).le z = true := by
  induction x with
  | f l r a b | p l r a b =>
    intro y z h1 h2
    cases z <;> simp [Ki.le] at h1 <;> cases y <;> simp [Ki.le] at h2 <;> simp [Ki.jn, Ki.le]
    all_goals exact ⟨a _ _ h1.1 h2.1, b _ _ h1.2 h2.2⟩
  | _ =>
    intro y z h1 h2
    cases z <;> simp [Ki.le] at h1 <;> cases y <;> simp [Ki.le] at h2 <;> simp [Ki.jn, Ki.le]
theorem Ki.agr_jn (x : Ki) : ∀ y : Ki, x.agr (x.jn y) = true := by
  induction x with
  | f l r a b | p l r a b => intro y; cases y <;> simp [Ki.jn, Ki.agr, a, b]
  | _ => intro y; cases y <;> simp [Ki.jn, Ki.agr]
theorem Ki.mt_jn (x : Ki) : ∀ y : Ki, x.mt (x.jn y) = x := by
  induction x with
  | f l r a b | p l r a b => intro y; cases y <;> simp [Ki.jn, Ki.mt, a, b]
  | _ => intro y; cases y <;> simp [Ki.jn, Ki.mt]
theorem Ki.jn_mt (x : Ki) : ∀ y : Ki, x.agr y = true → x.jn (x.mt y) = x := by
  induction x with
  | f l r a b | p l r a b =>
    intro y h
    cases y <;> simp [Ki.agr] at h <;> simp [Ki.jn, Ki.mt, Ki.jn_self]
    all_goals exact ⟨a _ h.1, b _ h.2⟩
  | _ => intro y h; cases y <;> simp [Ki.agr] at h <;> simp [Ki.jn, Ki.mt]
/-- the meet of two, if there are both and they agree -/
def low2 (x y : Option Ki) : Option Ki := match x, y with
  | some a, some b => if a.agr b = true then some (a.mt b) else none
  | _, _ => none
def oD (x : Option Ki) : D := match x with
  | some a => a.d
  | none => .non
theorem low2_comm (x y : Option Ki) : low2 x y = low2 y x := by
  cases x <;> cases y <;> simp [low2]
  rename_i a b
  rw [Ki.agr_comm b a]
  by_cases h : a.agr b = true
  · simp [h, Ki.mt_comm a b h]
  · simp [h]
theorem low2_self (x : Option Ki) : low2 x x = x := by cases x <;> simp [low2, Ki.agr_self, Ki.mt_self]
theorem low2_assoc (x y z : Option Ki) : low2 (low2 x y) z = low2 x (low2 y z) := by
  cases x with
  | none => simp [low2]
  | some a =>
    cases y with
    | none => simp [low2]
    | some b =>
      cases z with
      | none => by_cases h : a.agr b = true <;> simp [low2, h]
      | some c =>
        obtain ⟨h1, h2⟩ := Ki.assoc a b c
        by_cases h : a.agr b = true <;> by_cases h' : b.agr c = true <;> simp [low2, h, h'] <;> simp [h, h'] at h1 h2
        · by_cases h3 : a.agr (b.mt c) = true
          · rw [h3] at h1
            simp [h1, h3, h2 h1]
          · rw [h1]
            simp [h3]
        · simp [h1]
        · exact h1
theorem low2_h {x y : Option Ki} {z : Ki} {m : Nat} (h : low2 x y = some z) (hx : ∀ a, x = some a → a.h ≤ m) (hy : ∀ a, y = some a → a.h ≤ m) : z.h ≤ m := by
  cases x <;> cases y <;> simp [low2] at h
  rename_i a b
  have h1 := hx a rfl
  have h2 := hy b rfl
  have := Ki.mt_h a b
  rw [← h.2]
  omega
theorem oD_deep (x : Option Ki) (m : Nat) (h : ∀ a, x = some a → a.h ≤ m) : D.deep m (oD x) := by
  cases x with
  | none => simp [oD, D.deep]
  | some a => exact a.deep m (h a rfl)
@[simp] theorem oD_non (x : Option Ki) : isNon (oD x) = x.isNone := by cases x <;> simp [oD]
@[simp] theorem oD_able (x : Option Ki) : isAble (oD x) = true := by cases x <;> simp [oD]
section
variable {fs : List FD} {g0 : Gs} {n : Nat} {μ : Store}
/-! ### walks -/
variable [GSub g0 "str" "tuple" false] [GSub g0 "tuple" "tuple" true]
theorem sp_mt [HasF fs g0 C.f_same_shape] [HasF fs g0 C.f_meet] (a : Ki) : ∀ (b : Ki) (n : Nat) (μ : Store), a.h ≤ 60 → b.h ≤ 60 → a.h + 2 ≤ n → (gN fs g0 n).callF "meet" [a.d, b.d] μ = .ok (oD (low2 (some a) (some b))) μ := by
  induction a with
  | f l r ia ib | p l r ia ib =>
    intro b n μ ha hb hn
    have hq := fun (n : Nat) (μ : Store) => ki_q (fs := fs) (g0 := g0) (n := n) (μ := μ) b hb
    have hq' := fun (n : Nat) (μ : Store) => ki_q (fs := fs) (g0 := g0) (n := n) (μ := μ) _ ha
    have he := fun (n : Nat) (μ : Store) => ki_eq (fs := fs) (g0 := g0) (n := n) (μ := μ) _ b ha hb
    have hs := fun (μ : Store) (a b : Ki) => sp_shape (fs := fs) (g0 := g0) (n := n - 1) (μ := μ) a b (by simp only [Ki.h] at hn; omega)
    apply eq_of_wp
    refine wp_callF (f := C.f_meet) rfl rfl (by omega) ?_
    simp only [C.f_meet, C.b_meet, startE, List.map]
    simp only [str_q] at hq hq'
    cases b with
    | f l2 r2 | p l2 r2 =>
      simp only [Ki.h] at ha hb hn
      have e1 := fun μ => ia l2 (n - 1) μ (by omega) (by omega) (by omega)
      have e2 := fun μ => ib r2 (n - 1) μ (by omega) (by omega) (by omega)
      simp [hq, hq', he]
      by_cases hx : l = l2 ∧ r = r2
      · obtain ⟨rfl, rfl⟩ := hx
        simp [low2, Ki.agr_self, Ki.mt_self, oD, hs, Ki.shp, Ki.agr]
      · simp [hx, hs, Ki.shp, e1, e2]
        by_cases h1 : l.agr l2 = true <;> by_cases h2 : r.agr r2 = true <;> simp [low2, Ki.agr, Ki.mt, h1, h2, oD]
    | _ => simp [hq, hq', he, hs, low2, Ki.agr, Ki.mt, Ki.shp, oD]
  | _ =>
    intro b n μ ha hb hn
    have hq := fun (n : Nat) (μ : Store) => ki_q (fs := fs) (g0 := g0) (n := n) (μ := μ) b hb
    have hq' := fun (n : Nat) (μ : Store) => ki_q (fs := fs) (g0 := g0) (n := n) (μ := μ) _ ha
    have he := fun (n : Nat) (μ : Store) => ki_eq (fs := fs) (g0 := g0) (n := n) (μ := μ) _ b ha hb
    have hs := fun (μ : Store) (a b : Ki) => sp_shape (fs := fs) (g0 := g0) (n := n - 1) (μ := μ) a b (by simp only [Ki.h] at hn; omega)
    apply eq_of_wp
    refine wp_callF (f := C.f_meet) rfl rfl (by omega) ?_
    simp only [C.f_meet, C.b_meet, startE, List.map]
    simp only [str_q] at hq hq'
    cases b <;> simp [hq, hq', he, hs, low2, Ki.agr, Ki.mt, Ki.shp, oD]
theorem oD_some (a : Ki) : oD (some a) = a.d := rfl
theorem ko_and [GFld g0 "Kind" "tree"] [NProp g0 "Kind" "tree"] [GSub g0 "Kind" "Kind" true] [GIns g0 "Kind"] [HasF fs g0 C.f_same_shape] [HasF fs g0 C.f_meet] [HasF fs g0 C.f_Kind___and__] [GMeth g0 "Kind" "__and__" "Kind.__and__"]
    [HasF fs g0 C.f_kind_height] [HasF fs g0 C.f_Kind___init__] [GInit g0 "Kind" "Kind.__init__"] [NProp g0 "Kind" "LIMIT"] [GCon g0 "Kind" "LIMIT" (.int 8)] [GExn g0 "TooLarge"] [GExn g0 "NoMeet"] [GWf g0]
    {i j : Nat} {a b : Ki} (hi : KiAt μ i a) (hj : KiAt μ j b) (ha : a.h ≤ 8) (hb : b.h ≤ 8) (hn : 12 ≤ n) :
    (bopG (gN fs g0 n) .bitand (.obj i) (.obj j) μ).Wp (fun d μ' => a.agr b = true ∧ Ex μ μ' ∧ IsK μ' (a.mt b) d) (fun x μ' => a.agr b = false ∧ x = ⟨"NoMeet", []⟩ ∧ μ' = μ) := by
  have e : bopG (gN fs g0 n) .bitand (.obj i) (.obj j) μ = (gN fs g0 n).callF "Kind.__and__" [.obj i, .obj j] μ := by
    unfold KiAt at hi hj
    simp [bopG, hi, hj, BO.dun]
  rw [e]
  refine wp_callF (f := C.f_Kind___and__) rfl rfl (by omega) ?_
  simp only [C.f_Kind___and__, C.b_Kind___and__, startE, List.map]
  have h1 := sp_mt (fs := fs) (g0 := g0) a b (n - 1) μ (by omega) (by omega) (by omega)
  simp [ko_isi hj, ko_tree hi, ko_tree hj, h1]
  by_cases h : a.agr b = true
  · simp [low2, h, oD]
    have hm := Ki.mt_h a b
    refine (sp_newKind (by omega) _ (by omega)).imp ?_ ?_
    · rintro d μ2 ⟨h1, rfl, h2, h3⟩
      exact ⟨h, h2, _, rfl, h3⟩
    · rintro x μ2 ⟨h1, _⟩
      omega
  · simp [low2, h]
section
variable [GFld g0 "Kind" "tree"] [NProp g0 "Kind" "tree"] [GSub g0 "Kind" "Kind" true] [GIns g0 "Kind"] [HasF fs g0 C.f_same_shape]
    [HasF fs g0 C.f_kind_height] [HasF fs g0 C.f_Kind___init__] [GInit g0 "Kind" "Kind.__init__"] [NProp g0 "Kind" "LIMIT"] [GCon g0 "Kind" "LIMIT" (.int 8)] [GExn g0 "TooLarge"] [GWf g0]
omit [GFld g0 "Kind" "tree"] [NProp g0 "Kind" "tree"] [GSub g0 "Kind" "Kind" true] [GIns g0 "Kind"] [HasF fs g0 C.f_same_shape] in
/-- a kind that is not too high is made -/
theorem made [GFld g0 "Kind" "tree"] {k : Ki} {P : D → Store → Prop} {E : X → Store → Prop} (hn : 2 ≤ n) (hk : k.h ≤ 8) (hP : ∀ i μ', Ex μ μ' → KiAt μ' i k → P (.obj i) μ') : (newD (gN fs g0 n) "Kind" [k.d] μ).Wp P E := by
  refine (sp_newKind hn k (by omega)).imp ?_ ?_
  · rintro d μ2 ⟨h1, rfl, h2, h3⟩
    exact hP _ _ h2 h3
  · rintro x μ2 ⟨h1, _⟩
    omega
theorem ko_or [HasF fs g0 C.f_join] [HasF fs g0 C.f_Kind___or__] [GMeth g0 "Kind" "__or__" "Kind.__or__"]
    {i j : Nat} {a b : Ki} {P : D → Store → Prop} {E : X → Store → Prop} (hi : KiAt μ i a) (hj : KiAt μ j b) (ha : a.h ≤ 8) (hb : b.h ≤ 8) (hn : 12 ≤ n) (hP : ∀ o μ', Ex μ μ' → KiAt μ' o (a.jn b) → P (.obj o) μ') :
    (bopG (gN fs g0 n) .bitor (.obj i) (.obj j) μ).Wp P E := by
  have e : bopG (gN fs g0 n) .bitor (.obj i) (.obj j) μ = (gN fs g0 n).callF "Kind.__or__" [.obj i, .obj j] μ := by
    unfold KiAt at hi hj
    simp [bopG, hi, hj, BO.dun]
  rw [e]
  refine wp_callF (f := C.f_Kind___or__) rfl rfl (by omega) ?_
  simp only [C.f_Kind___or__, C.b_Kind___or__, startE, List.map]
  have h1 := sp_jn (fs := fs) (g0 := g0) a b (n - 1) μ (by omega) (by omega) (by omega)
  have hm := Ki.jn_h a b
  simp [ko_isi hj, ko_tree hi, ko_tree hj, h1]
  exact made (by omega) (by omega) hP
theorem ko_andT [HasF fs g0 C.f_meet] [HasF fs g0 C.f_Kind___and__] [GMeth g0 "Kind" "__and__" "Kind.__and__"] [GExn g0 "NoMeet"]
    {i j : Nat} {a b : Ki} {P : D → Store → Prop} {E : X → Store → Prop} (hi : KiAt μ i a) (hj : KiAt μ j b) (ha : a.h ≤ 8) (hb : b.h ≤ 8) (hn : 12 ≤ n) (hag : a.agr b = true) (hP : ∀ o μ', Ex μ μ' → KiAt μ' o (a.mt b) → P (.obj o) μ') :
    (bopG (gN fs g0 n) .bitand (.obj i) (.obj j) μ).Wp P E := by
  refine (ko_and hi hj ha hb hn).imp ?_ ?_
  · rintro d μ2 ⟨h1, h2, o, rfl, h3⟩
    exact hP _ _ h2 h3
  · rintro x μ2 ⟨h1, _⟩
    rw [hag] at h1
    cases h1
end
end
end Pn
end

section
set_option linter.all false
set_option autoImplicit false
set_option maxHeartbeats 4000000
set_option maxRecDepth 10000
/-! Plain Lean: the signed relations of kinds. -/
namespace Pn
open Py
mutual
def Ki.pos : Ki → Ki → Bool
  | .f x y, .f z w => z.neg x && y.pos w
  | .p x y, .p z w => x.pos z && y.pos w
  | _, .q => true
  | x, y => decide (x = y)
termination_by x y => x.sz + y.sz
decreasing_by all_goals simp only [Ki.sz]; omega
def Ki.neg : Ki → Ki → Bool
  | .f x y, .f z w => z.pos x && y.neg w
  | .p x y, .p z w => x.neg z && y.neg w
  | .q, _ => true
  | .f x y, .q => Ki.q.pos x && y.neg .q
  | .p x y, .q => x.neg .q && y.neg .q
  | _, .q => true
  | x, y => decide (x = y)
termination_by x y => x.sz + y.sz
decreasing_by all_goals simp only [Ki.sz]; omega
end
theorem Ki.sz_pos (x : Ki) : 1 ≤ x.sz := by cases x <;> simp [Ki.sz] <;> omega
theorem Ki.pos_q (x : Ki) : x.pos .q = true := by cases x <;> simp [Ki.pos]
theorem Ki.q_neg (x : Ki) : Ki.q.neg x = true := by cases x <;> simp [Ki.neg]
theorem Ki.le_split : ∀ (m : Nat) (x y : Ki), x.sz + y.sz ≤ m → x.le y = (x.pos y && y.neg x) := by
  intro m
  induction m with
  | zero => intro x y h; have := x.sz_pos; omega
  | succ m ih =>
    intro x y h
    cases x with
    | f l r | p l r =>
      cases y with
      | f l2 r2 | p l2 r2 =>
        simp only [Ki.sz] at h
        have e1 := ih l l2 (by omega)
        have e2 := ih r r2 (by omega)
        simp [Ki.le, Ki.pos, Ki.neg, e1, e2] <;> simp [Bool.and_assoc, Bool.and_comm, Bool.and_left_comm]
      | _ => simp [Ki.le, Ki.pos, Ki.neg]
    | _ => cases y <;> simp [Ki.le, Ki.pos, Ki.neg]
section
variable {fs : List FD} {g0 : Gs} {n : Nat} {μ : Store}
theorem sp_sgn_open [HasF fs g0 C.f_opened] {w : S} (hn : 1 ≤ n) : (gN fs g0 n).callF "opened" [Ki.q.d, .str w] μ = .ok (.tup [.str w, Ki.q.d, Ki.q.d]) μ := by
  apply eq_of_wp
  refine wp_callF (f := C.f_opened) rfl rfl (by omega) ?_
  simp only [C.f_opened, C.b_opened, startE, List.map]
  simp [ki_eq .q .q (show Ki.q.h ≤ 60 by simp [Ki.h]) (show Ki.q.h ≤ 60 by simp [Ki.h])]
theorem sp_sgn [GSub g0 "str" "tuple" false] [GSub g0 "tuple" "tuple" true] [HasF fs g0 C.f_same_shape] [HasF fs g0 C.f_opened] [HasF fs g0 C.f_positively_below_orders] [HasF fs g0 C.f_negatively_below_orders] : ∀ (m : Nat) (a b : Ki) (n : Nat) (μ : Store), a.sz + b.sz ≤ m → a.h ≤ 60 → b.h ≤ 60 → max a.h b.h + 3 ≤ n →
    (gN fs g0 n).callF "positively_below_orders" [a.d, b.d] μ = .ok (.bl (a.pos b)) μ ∧ (gN fs g0 n).callF "negatively_below_orders" [a.d, b.d] μ = .ok (.bl (a.neg b)) μ := by
  intro m
  induction m with
  | zero =>
    intro a b n μ h
    have : 1 ≤ a.sz := by cases a <;> simp [Ki.sz] <;> omega
    omega
  | succ m ih0 =>
    intro a b n μ hm ha hb hn
    have ih := fun (a b : Ki) (n : Nat) (μ : Store) (h : a.sz + b.sz < m + 1) => ih0 a b n μ (by omega)
    clear ih0
    constructor
    · skip
      have hq := fun (n : Nat) (μ : Store) => ki_q (fs := fs) (g0 := g0) (n := n) (μ := μ) b hb
      have hq' := fun (n : Nat) (μ : Store) => ki_q (fs := fs) (g0 := g0) (n := n) (μ := μ) a ha
      have he := fun (n : Nat) (μ : Store) => ki_eq (fs := fs) (g0 := g0) (n := n) (μ := μ) a b ha hb
      have hs := fun (μ : Store) (a b : Ki) => sp_shape (fs := fs) (g0 := g0) (n := n - 1) (μ := μ) a b (by omega)
      apply eq_of_wp
      refine wp_callF (f := C.f_positively_below_orders) rfl rfl (by omega) ?_
      simp only [C.f_positively_below_orders, C.b_positively_below_orders, startE, List.map]
      simp only [str_q] at hq hq'
      cases a with
      | f l r | p l r =>
        cases b with
        | f l2 r2 | p l2 r2 =>
          simp only [Ki.h, Ki.sz] at ha hb hn hm
          have e1 := fun μ => (ih l l2 (n - 1) μ (by omega) (by omega) (by omega) (by omega)).1
          have e2 := fun μ => (ih l l2 (n - 1) μ (by omega) (by omega) (by omega) (by omega)).2
          have e3 := fun μ => (ih r r2 (n - 1) μ (by omega) (by omega) (by omega) (by omega)).1
          have e4 := fun μ => (ih r r2 (n - 1) μ (by omega) (by omega) (by omega) (by omega)).2
          have e5 := fun μ => (ih l2 l (n - 1) μ (by omega) (by omega) (by omega) (by omega)).1
          have e6 := fun μ => (ih l2 l (n - 1) μ (by omega) (by omega) (by omega) (by omega)).2
          simp [e1, e2, e3, e4, e5, e6, hq, hq', he, hs, Ki.pos, Ki.neg, Ki.shp]
          try (cases l.pos l2 <;> simp)
          try (cases l.neg l2 <;> simp)
          try (cases l2.pos l <;> simp)
          try (cases l2.neg l <;> simp)
        | q =>
          simp only [Ki.h, Ki.sz] at ha hb hn hm
          have e1 := fun μ => (ih .q l (n - 1) μ (by simp only [Ki.sz]; omega) (by simp [Ki.h]) (by omega) (by simp only [Ki.h]; omega)).1
          have e2 := fun μ => (ih l .q (n - 1) μ (by simp only [Ki.sz]; omega) (by omega) (by simp [Ki.h]) (by simp only [Ki.h]; omega)).2
          have e3 := fun μ => (ih r .q (n - 1) μ (by simp only [Ki.sz]; omega) (by omega) (by simp [Ki.h]) (by simp only [Ki.h]; omega)).2
          have o1 := fun μ => sp_sgn_open (fs := fs) (g0 := g0) (n := n - 1) (μ := μ) (w := [102, 117, 110]) (by omega)
          have o2 := fun μ => sp_sgn_open (fs := fs) (g0 := g0) (n := n - 1) (μ := μ) (w := [112, 97, 105, 114]) (by omega)
          simp only [tup_f, tup_p] at o1 o2
          simp [hq, hq', he, Ki.pos, Ki.neg, Ki.isT, o1, o2, hs, Ki.shp, e1, e2, e3]
          try (cases Ki.q.pos l <;> simp)
          try (cases l.neg .q <;> simp)
        | _ => simp [hq, hq', he, hs, Ki.pos, Ki.neg, Ki.shp]
      | _ => cases b <;> simp [hq, hq', he, hs, Ki.pos, Ki.neg, Ki.shp, Ki.isT]

    · skip
      have hq := fun (n : Nat) (μ : Store) => ki_q (fs := fs) (g0 := g0) (n := n) (μ := μ) b hb
      have hq' := fun (n : Nat) (μ : Store) => ki_q (fs := fs) (g0 := g0) (n := n) (μ := μ) a ha
      have he := fun (n : Nat) (μ : Store) => ki_eq (fs := fs) (g0 := g0) (n := n) (μ := μ) a b ha hb
      have hs := fun (μ : Store) (a b : Ki) => sp_shape (fs := fs) (g0 := g0) (n := n - 1) (μ := μ) a b (by omega)
      apply eq_of_wp
      refine wp_callF (f := C.f_negatively_below_orders) rfl rfl (by omega) ?_
      simp only [C.f_negatively_below_orders, C.b_negatively_below_orders, startE, List.map]
      simp only [str_q] at hq hq'
      cases a with
      | f l r | p l r =>
        cases b with
        | f l2 r2 | p l2 r2 =>
          simp only [Ki.h, Ki.sz] at ha hb hn hm
          have e1 := fun μ => (ih l l2 (n - 1) μ (by omega) (by omega) (by omega) (by omega)).1
          have e2 := fun μ => (ih l l2 (n - 1) μ (by omega) (by omega) (by omega) (by omega)).2
          have e3 := fun μ => (ih r r2 (n - 1) μ (by omega) (by omega) (by omega) (by omega)).1
          have e4 := fun μ => (ih r r2 (n - 1) μ (by omega) (by omega) (by omega) (by omega)).2
          have e5 := fun μ => (ih l2 l (n - 1) μ (by omega) (by omega) (by omega) (by omega)).1
          have e6 := fun μ => (ih l2 l (n - 1) μ (by omega) (by omega) (by omega) (by omega)).2
          simp [e1, e2, e3, e4, e5, e6, hq, hq', he, hs, Ki.pos, Ki.neg, Ki.shp]
          try (cases l.pos l2 <;> simp)
          try (cases l.neg l2 <;> simp)
          try (cases l2.pos l <;> simp)
          try (cases l2.neg l <;> simp)
        | q =>
          simp only [Ki.h, Ki.sz] at ha hb hn hm
          have e1 := fun μ => (ih .q l (n - 1) μ (by simp only [Ki.sz]; omega) (by simp [Ki.h]) (by omega) (by simp only [Ki.h]; omega)).1
          have e2 := fun μ => (ih l .q (n - 1) μ (by simp only [Ki.sz]; omega) (by omega) (by simp [Ki.h]) (by simp only [Ki.h]; omega)).2
          have e3 := fun μ => (ih r .q (n - 1) μ (by simp only [Ki.sz]; omega) (by omega) (by simp [Ki.h]) (by simp only [Ki.h]; omega)).2
          have o1 := fun μ => sp_sgn_open (fs := fs) (g0 := g0) (n := n - 1) (μ := μ) (w := [102, 117, 110]) (by omega)
          have o2 := fun μ => sp_sgn_open (fs := fs) (g0 := g0) (n := n - 1) (μ := μ) (w := [112, 97, 105, 114]) (by omega)
          simp only [tup_f, tup_p] at o1 o2
          simp [hq, hq', he, Ki.pos, Ki.neg, Ki.isT, o1, o2, hs, Ki.shp, e1, e2, e3]
          try (cases Ki.q.pos l <;> simp)
          try (cases l.neg .q <;> simp)
        | _ => simp [hq, hq', he, hs, Ki.pos, Ki.neg, Ki.shp]
      | _ => cases b <;> simp [hq, hq', he, hs, Ki.pos, Ki.neg, Ki.shp, Ki.isT]

theorem sp_lsgn_open [HasF fs g0 C.f__law_open] {w : S} (hn : 1 ≤ n) : (gN fs g0 n).callF "_law_open" [Ki.q.d, .str w] μ = .ok (.tup [.str w, Ki.q.d, Ki.q.d]) μ := by
  apply eq_of_wp
  refine wp_callF (f := C.f__law_open) rfl rfl (by omega) ?_
  simp only [C.f__law_open, C.b__law_open, startE, List.map]
  simp [ki_eq .q .q (show Ki.q.h ≤ 60 by simp [Ki.h]) (show Ki.q.h ≤ 60 by simp [Ki.h])]
theorem sp_lsgn [GSub g0 "str" "tuple" false] [GSub g0 "tuple" "tuple" true] [HasF fs g0 C.f__law_shaped] [HasF fs g0 C.f__law_open] [HasF fs g0 C.f__law_plus] [HasF fs g0 C.f__law_minus] : ∀ (m : Nat) (a b : Ki) (n : Nat) (μ : Store), a.sz + b.sz ≤ m → a.h ≤ 60 → b.h ≤ 60 → max a.h b.h + 3 ≤ n →
    (gN fs g0 n).callF "_law_plus" [a.d, b.d] μ = .ok (.bl (a.pos b)) μ ∧ (gN fs g0 n).callF "_law_minus" [a.d, b.d] μ = .ok (.bl (a.neg b)) μ := by
  intro m
  induction m with
  | zero =>
    intro a b n μ h
    have : 1 ≤ a.sz := by cases a <;> simp [Ki.sz] <;> omega
    omega
  | succ m ih0 =>
    intro a b n μ hm ha hb hn
    have ih := fun (a b : Ki) (n : Nat) (μ : Store) (h : a.sz + b.sz < m + 1) => ih0 a b n μ (by omega)
    clear ih0
    constructor
    · skip
      have hq := fun (n : Nat) (μ : Store) => ki_q (fs := fs) (g0 := g0) (n := n) (μ := μ) b hb
      have hq' := fun (n : Nat) (μ : Store) => ki_q (fs := fs) (g0 := g0) (n := n) (μ := μ) a ha
      have he := fun (n : Nat) (μ : Store) => ki_eq (fs := fs) (g0 := g0) (n := n) (μ := μ) a b ha hb
      have hs := fun (μ : Store) (a b : Ki) => sp_shaped (fs := fs) (g0 := g0) (n := n - 1) (μ := μ) a b (by omega)
      apply eq_of_wp
      refine wp_callF (f := C.f__law_plus) rfl rfl (by omega) ?_
      simp only [C.f__law_plus, C.b__law_plus, startE, List.map]
      simp only [str_q] at hq hq'
      cases a with
      | f l r | p l r =>
        cases b with
        | f l2 r2 | p l2 r2 =>
          simp only [Ki.h, Ki.sz] at ha hb hn hm
          have e1 := fun μ => (ih l l2 (n - 1) μ (by omega) (by omega) (by omega) (by omega)).1
          have e2 := fun μ => (ih l l2 (n - 1) μ (by omega) (by omega) (by omega) (by omega)).2
          have e3 := fun μ => (ih r r2 (n - 1) μ (by omega) (by omega) (by omega) (by omega)).1
          have e4 := fun μ => (ih r r2 (n - 1) μ (by omega) (by omega) (by omega) (by omega)).2
          have e5 := fun μ => (ih l2 l (n - 1) μ (by omega) (by omega) (by omega) (by omega)).1
          have e6 := fun μ => (ih l2 l (n - 1) μ (by omega) (by omega) (by omega) (by omega)).2
          simp [e1, e2, e3, e4, e5, e6, hq, hq', he, hs, Ki.pos, Ki.neg, Ki.shp]
          try (cases l.pos l2 <;> simp)
          try (cases l.neg l2 <;> simp)
          try (cases l2.pos l <;> simp)
          try (cases l2.neg l <;> simp)
        | q =>
          simp only [Ki.h, Ki.sz] at ha hb hn hm
          have e1 := fun μ => (ih .q l (n - 1) μ (by simp only [Ki.sz]; omega) (by simp [Ki.h]) (by omega) (by simp only [Ki.h]; omega)).1
          have e2 := fun μ => (ih l .q (n - 1) μ (by simp only [Ki.sz]; omega) (by omega) (by simp [Ki.h]) (by simp only [Ki.h]; omega)).2
          have e3 := fun μ => (ih r .q (n - 1) μ (by simp only [Ki.sz]; omega) (by omega) (by simp [Ki.h]) (by simp only [Ki.h]; omega)).2
          have o1 := fun μ => sp_lsgn_open (fs := fs) (g0 := g0) (n := n - 1) (μ := μ) (w := [102, 117, 110]) (by omega)
          have o2 := fun μ => sp_lsgn_open (fs := fs) (g0 := g0) (n := n - 1) (μ := μ) (w := [112, 97, 105, 114]) (by omega)
          simp only [tup_f, tup_p] at o1 o2
          simp [hq, hq', he, Ki.pos, Ki.neg, Ki.isT, o1, o2, hs, Ki.shp, e1, e2, e3]
          try (cases Ki.q.pos l <;> simp)
          try (cases l.neg .q <;> simp)
        | _ => simp [hq, hq', he, hs, Ki.pos, Ki.neg, Ki.shp]
      | _ => cases b <;> simp [hq, hq', he, hs, Ki.pos, Ki.neg, Ki.shp, Ki.isT]

    · skip
      have hq := fun (n : Nat) (μ : Store) => ki_q (fs := fs) (g0 := g0) (n := n) (μ := μ) b hb
      have hq' := fun (n : Nat) (μ : Store) => ki_q (fs := fs) (g0 := g0) (n := n) (μ := μ) a ha
      have he := fun (n : Nat) (μ : Store) => ki_eq (fs := fs) (g0 := g0) (n := n) (μ := μ) a b ha hb
      have hs := fun (μ : Store) (a b : Ki) => sp_shaped (fs := fs) (g0 := g0) (n := n - 1) (μ := μ) a b (by omega)
      apply eq_of_wp
      refine wp_callF (f := C.f__law_minus) rfl rfl (by omega) ?_
      simp only [C.f__law_minus, C.b__law_minus, startE, List.map]
      simp only [str_q] at hq hq'
      cases a with
      | f l r | p l r =>
        cases b with
        | f l2 r2 | p l2 r2 =>
          simp only [Ki.h, Ki.sz] at ha hb hn hm
          have e1 := fun μ => (ih l l2 (n - 1) μ (by omega) (by omega) (by omega) (by omega)).1
          have e2 := fun μ => (ih l l2 (n - 1) μ (by omega) (by omega) (by omega) (by omega)).2
          have e3 := fun μ => (ih r r2 (n - 1) μ (by omega) (by omega) (by omega) (by omega)).1
          have e4 := fun μ => (ih r r2 (n - 1) μ (by omega) (by omega) (by omega) (by omega)).2
          have e5 := fun μ => (ih l2 l (n - 1) μ (by omega) (by omega) (by omega) (by omega)).1
          have e6 := fun μ => (ih l2 l (n - 1) μ (by omega) (by omega) (by omega) (by omega)).2
          simp [e1, e2, e3, e4, e5, e6, hq, hq', he, hs, Ki.pos, Ki.neg, Ki.shp]
          try (cases l.pos l2 <;> simp)
          try (cases l.neg l2 <;> simp)
          try (cases l2.pos l <;> simp)
          try (cases l2.neg l <;> simp)
        | q =>
          simp only [Ki.h, Ki.sz] at ha hb hn hm
          have e1 := fun μ => (ih .q l (n - 1) μ (by simp only [Ki.sz]; omega) (by simp [Ki.h]) (by omega) (by simp only [Ki.h]; omega)).1
          have e2 := fun μ => (ih l .q (n - 1) μ (by simp only [Ki.sz]; omega) (by omega) (by simp [Ki.h]) (by simp only [Ki.h]; omega)).2
          have e3 := fun μ => (ih r .q (n - 1) μ (by simp only [Ki.sz]; omega) (by omega) (by simp [Ki.h]) (by simp only [Ki.h]; omega)).2
          have o1 := fun μ => sp_lsgn_open (fs := fs) (g0 := g0) (n := n - 1) (μ := μ) (w := [102, 117, 110]) (by omega)
          have o2 := fun μ => sp_lsgn_open (fs := fs) (g0 := g0) (n := n - 1) (μ := μ) (w := [112, 97, 105, 114]) (by omega)
          simp only [tup_f, tup_p] at o1 o2
          simp [hq, hq', he, Ki.pos, Ki.neg, Ki.isT, o1, o2, hs, Ki.shp, e1, e2, e3]
          try (cases Ki.q.pos l <;> simp)
          try (cases l.neg .q <;> simp)
        | _ => simp [hq, hq', he, hs, Ki.pos, Ki.neg, Ki.shp]
      | _ => cases b <;> simp [hq, hq', he, hs, Ki.pos, Ki.neg, Ki.shp, Ki.isT]


end
end Pn
end

section
set_option linter.all false
set_option autoImplicit false
set_option maxHeartbeats 4000000
set_option maxRecDepth 10000
/-! Plain Lean: below. -/
namespace Pn
open Py
def Ki.bel (x y : Ki) : Bool := x.pos y && x.neg y
theorem Ki.bel_ff (x y z w : Ki) : (Ki.f x y).bel (.f z w) = (z.bel x && y.bel w) := by
  simp [Ki.bel, Ki.pos, Ki.neg] <;> simp [Bool.and_assoc, Bool.and_comm, Bool.and_left_comm]
theorem Ki.bel_pp (x y z w : Ki) : (Ki.p x y).bel (.p z w) = (x.bel z && y.bel w) := by
  simp [Ki.bel, Ki.pos, Ki.neg] <;> simp [Bool.and_assoc, Bool.and_comm, Bool.and_left_comm]
theorem Ki.bel_fq (x y : Ki) : (Ki.f x y).bel .q = (Ki.q.bel x && y.bel .q) := by
  simp [Ki.bel, Ki.pos, Ki.neg, Ki.q_neg, Ki.pos_q]
theorem Ki.bel_pq (x y : Ki) : (Ki.p x y).bel .q = (x.bel .q && y.bel .q) := by
  simp [Ki.bel, Ki.pos, Ki.neg, Ki.q_neg, Ki.pos_q]
theorem Ki.bel_self (x : Ki) : x.bel x = true := by
  induction x <;> first | (simp_all [Ki.bel_ff, Ki.bel_pp]; done) | simp [Ki.bel, Ki.pos, Ki.neg]
theorem Ki.bel_q (x : Ki) : Ki.q.bel x = decide (x = .q) := by
  cases x <;> simp [Ki.bel, Ki.pos, Ki.neg]
section
variable {fs : List FD} {g0 : Gs} {n : Nat} {μ : Store} [GSub g0 "str" "tuple" false] [GSub g0 "tuple" "tuple" true]
theorem sp_bel [HasF fs g0 C.f_same_shape] [HasF fs g0 C.f_opened] [HasF fs g0 C.f_is_below] [HasF fs g0 C.f_below_in_parts] : ∀ (m : Nat) (a b : Ki) (n : Nat) (μ : Store), a.sz + b.sz ≤ m → a.h ≤ 60 → b.h ≤ 60 → 2 * max a.h b.h + 4 ≤ n →
    (gN fs g0 n).callF "is_below" [a.d, b.d] μ = .ok (.bl (a.bel b)) μ := by
  intro m
  induction m with
  | zero =>
    intro a b n μ h
    have := a.sz_pos
    omega
  | succ m ih0 =>
    intro a b n μ hm ha hb hn
    have ih := fun (a b : Ki) (n : Nat) (μ : Store) (h : a.sz + b.sz < m + 1) => ih0 a b n μ (by omega)
    clear ih0
    have hq := fun (n : Nat) (μ : Store) => ki_q (fs := fs) (g0 := g0) (n := n) (μ := μ) b hb
    have hq' := fun (n : Nat) (μ : Store) => ki_q (fs := fs) (g0 := g0) (n := n) (μ := μ) a ha
    have he := fun (n : Nat) (μ : Store) => ki_eq (fs := fs) (g0 := g0) (n := n) (μ := μ) a b ha hb
    have hs := fun (μ : Store) (a b : Ki) => sp_shape (fs := fs) (g0 := g0) (n := n - 1) (μ := μ) a b (by omega)
    apply eq_of_wp
    refine wp_callF (f := C.f_is_below) rfl rfl (by omega) ?_
    simp only [C.f_is_below, C.b_is_below, startE, List.map]
    simp only [str_q] at hq hq'
    have two : ∀ (a b : Ki) (μ : Store), a.h ≤ 60 → b.h ≤ 60 → 2 * max a.h b.h + 4 ≤ n → (∀ x y, a = .f x y → ∃ z w, b = .f z w) → (∀ x y, a = .p x y → ∃ z w, b = .p z w) → a.isT = true → (∀ x y z w, a = .f x y → b = .f z w → x.sz + z.sz < m + 1 ∧ y.sz + w.sz < m + 1) → (∀ x y z w, a = .p x y → b = .p z w → x.sz + z.sz < m + 1 ∧ y.sz + w.sz < m + 1) →
        (gN fs g0 (n - 1)).callF "below_in_parts" [a.d, b.d] μ = .ok (.bl (a.bel b)) μ := by
      intro a b μ ha hb hn hf hp ht hzf hzp
      apply eq_of_wp
      refine wp_callF (f := C.f_below_in_parts) rfl rfl (by omega) ?_
      simp only [C.f_below_in_parts, C.b_below_in_parts, startE, List.map]
      cases a with
      | f x y =>
        obtain ⟨z, w, rfl⟩ := hf x y rfl
        obtain ⟨h1, h2⟩ := hzf x y z w rfl rfl
        simp only [Ki.h] at ha hb hn
        have e1 := fun μ => ih z x (n - 2) μ (by omega) (by omega) (by omega) (by omega)
        have e2 := fun μ => ih y w (n - 2) μ (by omega) (by omega) (by omega) (by omega)
        have e : n - 1 - 1 = n - 2 := by omega
        simp [e, e1, e2, Ki.bel_ff]
        cases z.bel x <;> simp
      | p x y =>
        obtain ⟨z, w, rfl⟩ := hp x y rfl
        obtain ⟨h1, h2⟩ := hzp x y z w rfl rfl
        simp only [Ki.h] at ha hb hn
        have e1 := fun μ => ih x z (n - 2) μ (by omega) (by omega) (by omega) (by omega)
        have e2 := fun μ => ih y w (n - 2) μ (by omega) (by omega) (by omega) (by omega)
        have e : n - 1 - 1 = n - 2 := by omega
        simp [e, e1, e2, Ki.bel_pp]
        cases x.bel z <;> simp
      | _ => simp [Ki.isT] at ht
    have o1 := fun μ => sp_sgn_open (fs := fs) (g0 := g0) (n := n - 1) (μ := μ) (w := [102, 117, 110]) (by omega)
    have o2 := fun μ => sp_sgn_open (fs := fs) (g0 := g0) (n := n - 1) (μ := μ) (w := [112, 97, 105, 114]) (by omega)
    simp only [tup_f, tup_p] at o1 o2
    cases a with
    | f l r =>
      cases b with
      | f l2 r2 =>
        simp only [Ki.h, Ki.sz] at ha hb hn hm
        have t := fun μ => two (.f l r) (.f l2 r2) μ (by simp only [Ki.h]; omega) (by simp only [Ki.h]; omega) (by simp only [Ki.h]; omega) (by rintro _ _ ⟨⟩; exact ⟨_, _, rfl⟩) (by rintro _ _ ⟨⟩) rfl (by rintro _ _ _ _ ⟨⟩ ⟨⟩; omega) (by rintro _ _ _ _ ⟨⟩)
        by_cases h : l = l2 ∧ r = r2
        · obtain ⟨rfl, rfl⟩ := h
          simp [he, hq, hq', hs, Ki.shp, t, Ki.bel_self]
        · simp [he, hq, hq', hs, Ki.shp, t, h]
      | q =>
        simp only [Ki.h, Ki.sz] at ha hb hn hm
        have h1 := l.sz_pos
        have h2 := r.sz_pos
        have t := fun μ => two (.f l r) (.f .q .q) μ (by simp only [Ki.h]; omega) (by simp only [Ki.h]; omega) (by simp only [Ki.h]; omega) (by rintro _ _ ⟨⟩; exact ⟨_, _, rfl⟩) (by rintro _ _ ⟨⟩) rfl (by rintro _ _ _ _ ⟨⟩ ⟨⟩; simp only [Ki.sz]; omega) (by rintro _ _ _ _ ⟨⟩)
        rw [Ki.bel_ff, ← Ki.bel_fq] at t
        simp [he, hq, hq', hs, Ki.shp, Ki.isT, o1, o2, t]
      | _ => simp [he, hq, hq', hs, Ki.shp, Ki.bel, Ki.pos, Ki.neg]
    | p l r =>
      cases b with
      | p l2 r2 =>
        simp only [Ki.h, Ki.sz] at ha hb hn hm
        have t := fun μ => two (.p l r) (.p l2 r2) μ (by simp only [Ki.h]; omega) (by simp only [Ki.h]; omega) (by simp only [Ki.h]; omega) (by rintro _ _ ⟨⟩) (by rintro _ _ ⟨⟩; exact ⟨_, _, rfl⟩) rfl (by rintro _ _ _ _ ⟨⟩) (by rintro _ _ _ _ ⟨⟩ ⟨⟩; omega)
        by_cases h : l = l2 ∧ r = r2
        · obtain ⟨rfl, rfl⟩ := h
          simp [he, hq, hq', hs, Ki.shp, t, Ki.bel_self]
        · simp [he, hq, hq', hs, Ki.shp, t, h]
      | q =>
        simp only [Ki.h, Ki.sz] at ha hb hn hm
        have h1 := l.sz_pos
        have h2 := r.sz_pos
        have t := fun μ => two (.p l r) (.p .q .q) μ (by simp only [Ki.h]; omega) (by simp only [Ki.h]; omega) (by simp only [Ki.h]; omega) (by rintro _ _ ⟨⟩) (by rintro _ _ ⟨⟩; exact ⟨_, _, rfl⟩) rfl (by rintro _ _ _ _ ⟨⟩) (by rintro _ _ _ _ ⟨⟩ ⟨⟩; simp only [Ki.sz]; omega)
        rw [Ki.bel_pp, ← Ki.bel_pq] at t
        simp [he, hq, hq', hs, Ki.shp, Ki.isT, o1, o2, t]
      | _ => simp [he, hq, hq', hs, Ki.shp, Ki.bel, Ki.pos, Ki.neg]
    | _ => cases b <;> simp [he, hq, hq', hs, Ki.shp, Ki.isT, Ki.bel, Ki.pos, Ki.neg]
/-! ### methods -/
section
variable [GFld g0 "Kind" "tree"] [NProp g0 "Kind" "tree"] {i j : Nat} {a b : Ki}
theorem ko_pos [HasF fs g0 C.f_same_shape] [HasF fs g0 C.f_opened] [HasF fs g0 C.f_positively_below_orders] [HasF fs g0 C.f_negatively_below_orders] [HasF fs g0 C.f_Kind_positively_below] (hi : KiAt μ i a) (hj : KiAt μ j b) (ha : a.h ≤ 8) (hb : b.h ≤ 8) (hn : 20 ≤ n) :
    (gN fs g0 n).callF "Kind.positively_below" [.obj i, .obj j] μ = .ok (.bl (a.pos b)) μ := by
  apply eq_of_wp
  refine wp_callF (f := C.f_Kind_positively_below) rfl rfl (by omega) ?_
  simp only [C.f_Kind_positively_below, C.b_Kind_positively_below, startE, List.map]
  have h1 := (sp_sgn (fs := fs) (g0 := g0) (a.sz + b.sz) a b (n - 1) μ (Nat.le_refl _) (by omega) (by omega) (by omega)).1
  simp [ko_tree hi, ko_tree hj, h1, -attr_obj]
theorem ko_neg [HasF fs g0 C.f_same_shape] [HasF fs g0 C.f_opened] [HasF fs g0 C.f_positively_below_orders] [HasF fs g0 C.f_negatively_below_orders] [HasF fs g0 C.f_Kind_negatively_below] (hi : KiAt μ i a) (hj : KiAt μ j b) (ha : a.h ≤ 8) (hb : b.h ≤ 8) (hn : 20 ≤ n) :
    (gN fs g0 n).callF "Kind.negatively_below" [.obj i, .obj j] μ = .ok (.bl (a.neg b)) μ := by
  apply eq_of_wp
  refine wp_callF (f := C.f_Kind_negatively_below) rfl rfl (by omega) ?_
  simp only [C.f_Kind_negatively_below, C.b_Kind_negatively_below, startE, List.map]
  have h1 := (sp_sgn (fs := fs) (g0 := g0) (a.sz + b.sz) a b (n - 1) μ (Nat.le_refl _) (by omega) (by omega) (by omega)).2
  simp [ko_tree hi, ko_tree hj, h1, -attr_obj]
theorem ko_bel [HasF fs g0 C.f_same_shape] [HasF fs g0 C.f_opened] [HasF fs g0 C.f_is_below] [HasF fs g0 C.f_below_in_parts] [HasF fs g0 C.f_Kind_below] (hi : KiAt μ i a) (hj : KiAt μ j b) (ha : a.h ≤ 8) (hb : b.h ≤ 8) (hn : 30 ≤ n) :
    (gN fs g0 n).callF "Kind.below" [.obj i, .obj j] μ = .ok (.bl (a.bel b)) μ := by
  apply eq_of_wp
  refine wp_callF (f := C.f_Kind_below) rfl rfl (by omega) ?_
  simp only [C.f_Kind_below, C.b_Kind_below, startE, List.map]
  have h1 := sp_bel (fs := fs) (g0 := g0) (a.sz + b.sz) a b (n - 1) μ (Nat.le_refl _) (by omega) (by omega) (by omega)
  simp [ko_tree hi, ko_tree hj, h1, -attr_obj]
end
end
end Pn
end

section
set_option linter.all false
set_option autoImplicit false
set_option maxHeartbeats 4000000
set_option maxRecDepth 10000
/-! Plain Lean: the trees of middles. -/
namespace Pn
open Py
/-- grounds of base kinds, grounds -/
inductive Bs where | i | b | u deriving DecidableEq
inductive Gd where | bs (g : Bs) | f | p deriving DecidableEq
def Bs.s : Bs → S
  | .i => [105, 110, 116]
  | .b => [98, 111, 111, 108]
  | .u => [117, 110, 105, 116]
def Gd.s : Gd → S
  | .bs g => g.s
  | .f => [102, 117, 110]
  | .p => [112, 97, 105, 114]
def Bs.k : Bs → Ki
  | .i => .i
  | .b => .b
  | .u => .u
inductive Mt where
  | any
  | base (g : Bs) (c : Option S)
  | fail (q : Option (Gd × S)) (bl : Option S)
  | fn (c : Option S) (x y : Mt)
  | fn1 (c : Option S) (x : Mt)
  | pr (c : Option S) (x y : Mt)
  deriving DecidableEq
def Mt.sz : Mt → Nat
  | .fn _ x y => 1 + x.sz + y.sz
  | .pr _ x y => 1 + x.sz + y.sz
  | .fn1 _ x => 1 + x.sz
  | _ => 1
def Mt.ht : Mt → Nat
  | .fail (some (.f, _)) _ => 1
  | .fail (some (.p, _)) _ => 1
  | .fn _ x y => 1 + max x.ht y.ht
  | .pr _ x y => 1 + max x.ht y.ht
  | .fn1 _ x => 1 + x.ht
  | _ => 0
def Mt.isF : Mt → Bool
  | .fail _ _ => true
  | _ => false
def Mt.gd : Mt → Gd
  | .base g _ => .bs g
  | .pr _ _ _ => .p
  | _ => .f
def Mt.ck : Mt → Option S
  | .base _ c => c
  | .fn c _ _ => c
  | .fn1 c _ => c
  | .pr c _ _ => c
  | _ => none
/-- the fail node behind a check -/
def fl (g : Gd) (c bl : Option S) : Mt := match c with
  | none => .fail none bl
  | some c' => if some c' = bl then .fail none bl else .fail (some (g, c')) bl
/-- what a fail node blames -/
def blb (q : Option (Gd × S)) (bl : Option S) (g : Gd) : Option S := match q with
  | some (g', l) => if g' = g then bl else some l
  | none => bl
/-- the answer stands exactly beside an argument that doesn't fail -/
def mkF (c : Option S) (a : Mt) (r : Mt) : Mt := if a.isF = true then .fn1 c a else .fn c a r
def Mt.join : Mt → Mt → Mt
  | .any, n => n
  | .base g c, .any => .base g c
  | .fn c a r, .any => .fn c a r
  | .fn1 c a, .any => .fn1 c a
  | .pr c a r, .any => .pr c a r
  | .fail q b, _ => .fail q b
  | .base g c, .fail q b => fl (.bs g) c (blb q b (.bs g))
  | .fn c a r, .fail q b => fl .f c (blb q b .f)
  | .fn1 c a, .fail q b => fl .f c (blb q b .f)
  | .pr c a r, .fail q b => fl .p c (blb q b .p)
  | .base g c, .base g2 c2 => if g2 = g then .base g c else fl (.bs g) c c2
  | .base g c, n => fl (.bs g) c n.ck
  | .fn c a r, .fn _ a2 r2 => mkF c (a2.join a) (r.join r2)
  | .fn c a r, .fn1 _ a2 => .fn1 c (a2.join a)
  | .fn1 c a, .fn _ a2 _ => .fn1 c (a2.join a)
  | .fn1 c a, .fn1 _ a2 => .fn1 c (a2.join a)
  | .pr c a r, .pr _ a2 r2 => .pr c (a.join a2) (r.join r2)
  | .fn c _ _, n => fl .f c n.ck
  | .fn1 c _, n => fl .f c n.ck
  | .pr c _ _, n => fl .p c n.ck
termination_by m n => m.sz + n.sz
decreasing_by all_goals simp only [Mt.sz]; omega
/-- parts of a kind that opens -/
def Ki.pl : Ki → Ki
  | .f l _ => l
  | .p l _ => l
  | _ => .q
def Ki.pr : Ki → Ki
  | .f _ r => r
  | .p _ r => r
  | _ => .q
def Ki.has : Ki → Gd → Bool
  | .q, _ => true
  | .f _ _, g => decide (g = .f)
  | .p _ _, g => decide (g = .p)
  | .i, g => decide (g = .bs .i)
  | .b, g => decide (g = .bs .b)
  | .u, g => decide (g = .bs .u)
def okC (c : Option S) (s : Ki) : Bool := decide (c = none) != decide (s = .q)
def Mt.fits : Mt → Ki → Ki → Bool
  | .any, s, t => decide (s = .q) && decide (t = .q)
  | .fail none _, _, _ => true
  | .fail (some (_, l)) bl, s, _ => decide (s = .q) && !decide (some l = bl)
  | .base g c, s, t => okC c s && (s.has (.bs g) && t.has (.bs g))
  | .pr c x y, s, t => okC c s && ((s.has .p && t.has .p) && (x.fits s.pl t.pl && y.fits s.pr t.pr))
  | .fn c x y, s, t => okC c s && ((s.has .f && t.has .f) && (x.fits t.pl s.pl && (!x.isF && y.fits s.pr t.pr)))
  | .fn1 c x, s, t => okC c s && ((s.has .f && t.has .f) && (x.fits t.pl s.pl && x.isF))
/-! ### join -/
theorem fl_isF (g : Gd) (c bl : Option S) : (fl g c bl).isF = true := by
  unfold fl
  split
  · rfl
  · split <;> rfl
theorem join_fail (x : Mt) (q : Option (Gd × S)) (b : Option S) : (x.join (.fail q b)).isF = true := by
  cases x <;> simp [Mt.join, fl_isF] <;> rfl
theorem join_isF {x y : Mt} (h : y.isF = true) : (x.join y).isF = true := by
  cases y <;> first | exact join_fail _ _ _ | cases h
theorem fail_join {x y : Mt} (h : x.isF = true) : x.join y = x := by
  cases x <;> first | (cases h; done) | skip
  cases y <;> simp [Mt.join]
theorem any_join (y : Mt) : Mt.any.join y = y := by cases y <;> simp [Mt.join]
theorem join_any (x : Mt) : x.join .any = x := by cases x <;> simp [Mt.join]
/-- is it a node with a check -/
def Mt.isC : Mt → Bool
  | .any => false
  | .fail _ _ => false
  | _ => true
theorem join_cf {x : Mt} (h : x.isC = true) (q : Option (Gd × S)) (b : Option S) : x.join (.fail q b) = fl x.gd x.ck (blb q b x.gd) := by
  cases x <;> first | (cases h; done) | simp [Mt.join, Mt.gd, Mt.ck]
theorem join_ne {x y : Mt} (hx : x.isC = true) (hy : y.isC = true) (h : x.gd ≠ y.gd) : x.join y = fl x.gd x.ck y.ck := by
  cases x <;> first | (cases hx; done) | skip
  all_goals cases y <;> first | (cases hy; done) | skip
  all_goals simp [Mt.gd] at h
  all_goals simp [Mt.join, Mt.gd, Mt.ck]
  intro e
  exact absurd e.symm h
theorem mkF_c (c : Option S) (a r : Mt) : (mkF c a r).isC = true ∧ (mkF c a r).gd = .f ∧ (mkF c a r).ck = c := by
  by_cases h : a.isF = true
  · have : mkF c a r = .fn1 c a := by unfold mkF; rw [if_pos h]
    rw [this]
    exact ⟨rfl, rfl, rfl⟩
  · have : mkF c a r = .fn c a r := by unfold mkF; rw [if_neg h]
    rw [this]
    exact ⟨rfl, rfl, rfl⟩
theorem join_eq {x y : Mt} (hx : x.isC = true) (hy : y.isC = true) (h : x.gd = y.gd) : (x.join y).isC = true ∧ (x.join y).gd = x.gd ∧ (x.join y).ck = x.ck := by
  cases x <;> first | (cases hx; done) | skip
  all_goals cases y <;> first | (cases hy; done) | skip
  all_goals simp [Mt.gd] at h
  all_goals first
    | (simp [Mt.join, Mt.gd, Mt.ck, Mt.isC, h]; done)
    | (rw [Mt.join]; exact mkF_c _ _ _)
theorem blb_fl (g : Gd) (c bl : Option S) : ∃ q b, fl g c bl = .fail q b ∧ blb q b g = bl ∧ ∀ g', g' ≠ g → c ≠ none → blb q b g' = c := by
  unfold fl
  cases c with
  | none => exact ⟨_, _, rfl, rfl, fun _ _ h => absurd rfl h⟩
  | some c =>
    by_cases h : some c = bl
    · simp only [h, if_true]
      exact ⟨_, _, rfl, rfl, fun _ _ _ => rfl⟩
    · simp only [h, if_false]
      refine ⟨_, _, rfl, by simp [blb], fun g' hg _ => ?_⟩
      simp [blb, Ne.symm hg]
theorem isC_or (x : Mt) : x = .any ∨ (∃ q b, x = .fail q b) ∨ x.isC = true := by
  cases x <;> simp [Mt.isC]
/-- a check stands where the unknown kind opens -/
theorem fits_ck {y : Mt} {s t : Ki} (hy : y.isC = true) (h : y.fits s t = true) : (y.ck = none ↔ s ≠ .q) ∧ s.has y.gd = true ∧ t.has y.gd = true := by
  have ok : ∀ c, okC c s = true → (c = none ↔ s ≠ .q) := by
    intro c h
    unfold okC at h
    by_cases h1 : c = none <;> by_cases h2 : s = .q <;> simp [h1, h2] at h ⊢
  cases y <;> first | (cases hy; done) | skip
  all_goals
    simp only [Mt.fits, Bool.and_eq_true] at h
    exact ⟨ok _ h.1, by first | exact h.2.1 | exact h.2.1.1, by first | exact h.2.2 | exact h.2.1.2⟩
theorem has_ne {s : Ki} {g g' : Gd} (h : s.has g = true) (h' : s.has g' = true) (n : g ≠ g') : s = .q := by
  cases s <;> simp [Ki.has] at h h' ⊢ <;> exact absurd (h.trans h'.symm) n
theorem assoc (N : Nat) : ∀ (m n o : Mt) (a b c d : Ki), m.sz + n.sz + o.sz ≤ N → m.fits a b = true → n.fits b c = true → o.fits c d = true → (m.join n).join o = m.join (n.join o) := by
  induction N with
  | zero => intro m n o _ _ _ _ h; have : 1 ≤ m.sz := by cases m <;> simp [Mt.sz] <;> omega
            omega
  | succ N ih =>
    intro m n o a b c d hN hm hn ho
    rcases isC_or m with rfl | ⟨q, bl, rfl⟩ | cm
    · rw [any_join, any_join]
    · rw [fail_join (show (Mt.fail q bl).isF = true from rfl), fail_join (show (Mt.fail q bl).isF = true from rfl), fail_join (show (Mt.fail q bl).isF = true from rfl)]
    rcases isC_or n with rfl | ⟨q, bl, rfl⟩ | cn
    · rw [join_any, any_join]
    · rw [fail_join (x := Mt.fail q bl) rfl, fail_join (join_fail m q bl)]
    rcases isC_or o with rfl | ⟨q, bl, rfl⟩ | co
    · rw [join_any, join_any]
    all_goals
      obtain ⟨k1, k2, k3⟩ := fits_ck cm hm
      obtain ⟨l1, l2, l3⟩ := fits_ck cn hn
    · by_cases h : m.gd = n.gd
      · obtain ⟨e1, e2, e3⟩ := join_eq cm cn h
        obtain ⟨q', b', f1, f2, f3⟩ := blb_fl n.gd n.ck (blb q bl n.gd)
        rw [join_cf e1, e2, e3, join_cf cn, f1, join_cf cm, h, f2]
      · obtain ⟨q', b', f1, f2, f3⟩ := blb_fl n.gd n.ck (blb q bl n.gd)
        have hb : b = .q := has_ne k3 l2 h
        have hc : n.ck ≠ none := fun z => (l1.mp z) hb
        rw [join_ne cm cn h, fail_join (fl_isF _ _ _), join_cf cn, f1, join_cf cm, f3 _ h hc]
    · obtain ⟨p1, p2, p3⟩ := fits_ck co ho
      by_cases h : m.gd = n.gd
      · obtain ⟨e1, e2, e3⟩ := join_eq cm cn h
        by_cases h' : n.gd = o.gd
        · cases m <;> first | (cases cm; done) | skip
          all_goals cases n <;> first | (cases cn; done) | (simp [Mt.gd] at h; done) | skip
          all_goals cases o <;> first | (cases co; done) | (simp [Mt.gd] at h'; done) | skip
          · simp only [Mt.gd, Gd.bs.injEq] at h h'
            subst h
            subst h'
            simp [Mt.join]
          all_goals
            simp only [Mt.fits, Bool.and_eq_true] at hm hn ho
            simp only [Mt.sz] at hN
          case fn.fn.fn c1 a1 r1 c2 a2 r2 c3 a3 r3 =>
            have key := ih a3 a2 a1 d.pl c.pl b.pl a.pl (by omega) ho.2.2.1 hn.2.2.1 hm.2.2.1
            have key2 := ih r1 r2 r3 a.pr b.pr c.pr d.pr (by omega) hm.2.2.2.2 hn.2.2.2.2 ho.2.2.2.2
            by_cases F1 : (a2.join a1).isF = true <;> by_cases F2 : (a3.join a2).isF = true
            · simp [Mt.join, mkF, F1, F2, key]
            · have := join_isF (x := a3) F1
              simp [Mt.join, mkF, F1, F2, key, this]
            · have h1 := fail_join (y := a1) F2
              rw [key] at h1
              have h2 : (a3.join (a2.join a1)).isF = true := by rw [h1]; exact F2
              simp [Mt.join, mkF, F1, F2, key, h2]
            · simp [Mt.join, mkF, F1, F2, key, key2]
          case pr.pr.pr c1 a1 r1 c2 a2 r2 c3 a3 r3 =>
            have key := ih a1 a2 a3 a.pl b.pl c.pl d.pl (by omega) hm.2.2.1 hn.2.2.1 ho.2.2.1
            have key2 := ih r1 r2 r3 a.pr b.pr c.pr d.pr (by omega) hm.2.2.2 hn.2.2.2 ho.2.2.2
            simp [Mt.join, key, key2]
          case fn.fn.fn1 c1 a1 r1 c2 a2 r2 c3 a3 =>
            have key := ih a3 a2 a1 d.pl c.pl b.pl a.pl (by omega) ho.2.2.1 hn.2.2.1 hm.2.2.1
            by_cases F1 : (a2.join a1).isF = true <;> simp [Mt.join, mkF, F1, key]
          case fn1.fn.fn c1 a1 c2 a2 r2 c3 a3 r3 =>
            have key := ih a3 a2 a1 d.pl c.pl b.pl a.pl (by omega) ho.2.2.1 hn.2.2.1 hm.2.2.1
            by_cases F2 : (a3.join a2).isF = true <;> simp [Mt.join, mkF, F2, key]
          case fn.fn1.fn c1 a1 r1 c2 a2 c3 a3 r3 =>
            have key := ih a3 a2 a1 d.pl c.pl b.pl a.pl (by omega) ho.2.2.1 hn.2.2.1 hm.2.2.1
            simp [Mt.join, key]
          case fn.fn1.fn1 c1 a1 r1 c2 a2 c3 a3 =>
            have key := ih a3 a2 a1 d.pl c.pl b.pl a.pl (by omega) ho.2.2.1 hn.2.2.1 hm.2.2.1
            simp [Mt.join, key]
          case fn1.fn.fn1 c1 a1 c2 a2 r2 c3 a3 =>
            have key := ih a3 a2 a1 d.pl c.pl b.pl a.pl (by omega) ho.2.2.1 hn.2.2.1 hm.2.2.1
            simp [Mt.join, key]
          case fn1.fn1.fn c1 a1 c2 a2 c3 a3 r3 =>
            have key := ih a3 a2 a1 d.pl c.pl b.pl a.pl (by omega) ho.2.2.1 hn.2.2.1 hm.2.2.1
            simp [Mt.join, key]
          case fn1.fn1.fn1 c1 a1 c2 a2 c3 a3 =>
            have key := ih a3 a2 a1 d.pl c.pl b.pl a.pl (by omega) ho.2.2.1 hn.2.2.1 hm.2.2.1
            simp [Mt.join, key]
        · obtain ⟨q', b', f1, f2, f3⟩ := blb_fl n.gd n.ck o.ck
          rw [join_ne e1 co (by rw [e2, h]; exact h'), e2, e3, join_ne cn co h', f1, join_cf cm, h, f2]
      · have hb : b = .q := has_ne k3 l2 h
        have hc : n.ck ≠ none := fun z => (l1.mp z) hb
        by_cases h' : n.gd = o.gd
        · obtain ⟨e1, e2, e3⟩ := join_eq cn co h'
          rw [join_ne cm cn h, fail_join (fl_isF _ _ _), join_ne cm e1 (by rw [e2]; exact h), e3]
        · obtain ⟨q', b', f1, f2, f3⟩ := blb_fl n.gd n.ck o.ck
          rw [join_ne cm cn h, fail_join (fl_isF _ _ _), join_ne cn co h', f1, join_cf cm, f3 _ h hc]
theorem fl_fits (g : Gd) (c bl : Option S) (s t : Ki) (h : c = none ∨ s = .q) : (fl g c bl).fits s t = true := by
  unfold fl
  cases c with
  | none => simp [Mt.fits]
  | some c =>
    rcases h with h | rfl
    · cases h
    · by_cases h : some c = bl <;> simp [Mt.fits, h]
theorem fits_join (N : Nat) : ∀ (m n : Mt) (a b c : Ki), m.sz + n.sz ≤ N → m.fits a b = true → n.fits b c = true → (m.join n).fits a c = true := by
  induction N with
  | zero => intro m n _ _ _ h; have : 1 ≤ m.sz := by cases m <;> simp [Mt.sz] <;> omega
            omega
  | succ N ih =>
    intro m n a b c hN hm hn
    rcases isC_or m with rfl | ⟨q, bl, rfl⟩ | cm
    · rw [any_join]
      simp [Mt.fits] at hm
      rw [hm.1]
      rw [hm.2] at hn
      exact hn
    · rw [fail_join (show (Mt.fail q bl).isF = true from rfl)]
      cases q with
      | none => simp [Mt.fits]
      | some q => simpa [Mt.fits] using hm
    rcases isC_or n with rfl | ⟨q, bl, rfl⟩ | cn
    · rw [join_any]
      simp [Mt.fits] at hn
      rw [hn.2]
      rw [hn.1] at hm
      exact hm
    all_goals obtain ⟨k1, k2, k3⟩ := fits_ck cm hm
    all_goals have kk : m.ck = none ∨ a = .q := (Classical.em (a = .q)).elim .inr fun h => .inl (k1.mpr h)
    · rw [join_cf cm]
      exact fl_fits _ _ _ _ _ kk
    · obtain ⟨l1, l2, l3⟩ := fits_ck cn hn
      by_cases h : m.gd = n.gd
      · cases m <;> first | (cases cm; done) | skip
        all_goals cases n <;> first | (cases cn; done) | (simp [Mt.gd] at h; done) | skip
        · simp only [Mt.gd, Gd.bs.injEq] at h
          subst h
          simp only [Mt.fits, Bool.and_eq_true] at hm hn
          simp [Mt.join, Mt.fits, hm.1, hm.2.1, hn.2.2]
        all_goals
          simp only [Mt.fits, Bool.and_eq_true] at hm hn
          simp only [Mt.sz] at hN
        case fn.fn c1 a1 r1 c2 a2 r2 =>
          have key := ih a2 a1 c.pl b.pl a.pl (by omega) hn.2.2.1 hm.2.2.1
          have key2 := ih r1 r2 a.pr b.pr c.pr (by omega) hm.2.2.2.2 hn.2.2.2.2
          by_cases F1 : (a2.join a1).isF = true <;> simp [Mt.join, mkF, F1, Mt.fits, hm.1, hm.2.1.1, hn.2.1.2, key, key2]
        case pr.pr c1 a1 r1 c2 a2 r2 =>
          have key := ih a1 a2 a.pl b.pl c.pl (by omega) hm.2.2.1 hn.2.2.1
          have key2 := ih r1 r2 a.pr b.pr c.pr (by omega) hm.2.2.2 hn.2.2.2
          simp [Mt.join, Mt.fits, hm.1, hm.2.1.1, hn.2.1.2, key, key2]
        case fn.fn1 c1 a1 r1 c2 a2 =>
          have key := ih a2 a1 c.pl b.pl a.pl (by omega) hn.2.2.1 hm.2.2.1
          have F : (a2.join a1).isF = true := by rw [fail_join hn.2.2.2]; exact hn.2.2.2
          simp [Mt.join, Mt.fits, hm.1, hm.2.1.1, hn.2.1.2, key, F]
        case fn1.fn c1 a1 c2 a2 r2 =>
          have key := ih a2 a1 c.pl b.pl a.pl (by omega) hn.2.2.1 hm.2.2.1
          have F : (a2.join a1).isF = true := join_isF hm.2.2.2
          simp [Mt.join, Mt.fits, hm.1, hm.2.1.1, hn.2.1.2, key, F]
        case fn1.fn1 c1 a1 c2 a2 =>
          have key := ih a2 a1 c.pl b.pl a.pl (by omega) hn.2.2.1 hm.2.2.1
          have F : (a2.join a1).isF = true := join_isF hm.2.2.2
          simp [Mt.join, Mt.fits, hm.1, hm.2.1.1, hn.2.1.2, key, F]
      · rw [join_ne cm cn h]
        exact fl_fits _ _ _ _ _ kk
/-! ### heights -/
theorem fl_ht (g : Gd) (c bl : Option S) : (fl g c bl).ht ≤ (match g with | .bs _ => 0 | _ => 1) := by
  unfold fl
  split
  · simp [Mt.ht]
  · split
    · simp [Mt.ht]
    · cases g <;> simp [Mt.ht]
theorem ht_join (N : Nat) : ∀ (m n : Mt), m.sz + n.sz ≤ N → (m.join n).ht ≤ max m.ht n.ht := by
  induction N with
  | zero => intro m n h; have : 1 ≤ m.sz := by cases m <;> simp [Mt.sz] <;> omega
            omega
  | succ N ih =>
    intro m n hN
    have ff := fun c bl => fl_ht .f c bl
    have pp := fun c bl => fl_ht .p c bl
    have bb := fun g c bl => fl_ht (.bs g) c bl
    simp only [] at ff pp bb
    cases m with
    | any => rw [any_join]; omega
    | fail q b => rw [fail_join (show (Mt.fail q b).isF = true from rfl)]; omega
    | base g c =>
      cases n <;> simp [Mt.join] <;> try omega
      · rename_i g2 c2
        split
        · omega
        · have := bb g c c2; omega
      all_goals exact Nat.le_trans (bb _ _ _) (Nat.zero_le _)
    | fn c a r =>
      cases n with
      | fn c2 a2 r2 =>
        simp only [Mt.sz] at hN
        have h1 := ih a2 a (by omega)
        have h2 := ih r r2 (by omega)
        by_cases F : (a2.join a).isF = true <;> simp [Mt.join, mkF, F, Mt.ht] <;> omega
      | fn1 c2 a2 =>
        simp only [Mt.sz] at hN
        have h1 := ih a2 a (by omega)
        simp [Mt.join, Mt.ht]; omega
      | any => rw [join_any]; omega
      | _ => simp [Mt.join]; refine Nat.le_trans (ff _ _) ?_; simp [Mt.ht] <;> omega
    | fn1 c a =>
      cases n with
      | fn c2 a2 r2 =>
        simp only [Mt.sz] at hN
        have h1 := ih a2 a (by omega)
        simp [Mt.join, Mt.ht]; omega
      | fn1 c2 a2 =>
        simp only [Mt.sz] at hN
        have h1 := ih a2 a (by omega)
        simp [Mt.join, Mt.ht]; omega
      | any => rw [join_any]; omega
      | _ => simp [Mt.join]; refine Nat.le_trans (ff _ _) ?_; simp [Mt.ht] <;> omega
    | pr c a r =>
      cases n with
      | pr c2 a2 r2 =>
        simp only [Mt.sz] at hN
        have h1 := ih a a2 (by omega)
        have h2 := ih r r2 (by omega)
        simp [Mt.join, Mt.ht]; omega
      | any => rw [join_any]; omega
      | _ => simp [Mt.join]; refine Nat.le_trans (pp _ _) ?_; simp [Mt.ht] <;> omega
/-! ### identities -/
def Ki.idt : Ki → Mt
  | .q => .any
  | .i => .base .i none
  | .b => .base .b none
  | .u => .base .u none
  | .f l r => .fn none l.idt r.idt
  | .p l r => .pr none l.idt r.idt
theorem idt_isF (k : Ki) : k.idt.isF = false := by cases k <;> rfl
theorem idt_fits (k : Ki) : k.idt.fits k k = true := by
  induction k <;> simp_all [Ki.idt, Mt.fits, okC, Ki.has, Ki.pl, Ki.pr, Bs.k, idt_isF]
theorem idt_ht (k : Ki) : k.idt.ht = k.h := by
  induction k <;> simp_all [Ki.idt, Mt.ht, Ki.h]
theorem id_both (k : Ki) : ∀ (m : Mt) (s : Ki), (m.fits k s = true → k.idt.join m = m) ∧ (m.fits s k = true → m.join k.idt = m) := by
  induction k with
  | q => intro m s; exact ⟨fun _ => any_join m, fun _ => join_any m⟩
  | i | b | u =>
    intro m s
    constructor
    · intro h
      cases m with
      | fail q b => cases q <;> simp [Mt.fits] at h; simp [Ki.idt, Mt.join, fl, blb]
      | base g c => cases g <;> simp [Mt.fits, okC, Ki.has] at h <;> simp [Ki.idt, Mt.join, h]
      | _ => simp [Mt.fits, Ki.has] at h
    · intro h
      cases m with
      | fail q b => simp [Mt.join]
      | base g c => cases g <;> simp [Mt.fits, okC, Ki.has] at h <;> simp [Ki.idt, Mt.join]
      | _ => simp [Mt.fits, Ki.has] at h
  | f l r x y =>
    intro m s
    constructor
    · intro h
      cases m with
      | fail q b => cases q <;> simp [Mt.fits] at h; simp [Ki.idt, Mt.join, fl, blb]
      | fn c a r2 =>
        simp [Mt.fits, okC, Ki.has, Ki.pl, Ki.pr] at h
        have h1 := (x a s.pl).2 h.2.2.1
        have h2 := (y r2 s.pr).1 h.2.2.2.2
        simp [Ki.idt, Mt.join, h1, h2, mkF, h.2.2.2.1, h.1]
      | fn1 c a =>
        simp [Mt.fits, okC, Ki.has, Ki.pl, Ki.pr] at h
        have h1 := (x a s.pl).2 h.2.2.1
        simp [Ki.idt, Mt.join, h1, h.1]
      | base g c => cases g <;> simp [Mt.fits, okC, Ki.has] at h
      | _ => simp [Mt.fits, Ki.has] at h
    · intro h
      cases m with
      | fail q b => simp [Mt.join]
      | fn c a r2 =>
        simp [Mt.fits, okC, Ki.has, Ki.pl, Ki.pr] at h
        have h1 := (x a s.pl).1 h.2.2.1
        have h2 := (y r2 s.pr).2 h.2.2.2.2
        simp [Ki.idt, Mt.join, h1, h2, mkF, h.2.2.2.1]
      | fn1 c a =>
        simp [Mt.fits, okC, Ki.has, Ki.pl, Ki.pr] at h
        have h1 := (x a s.pl).1 h.2.2.1
        simp [Ki.idt, Mt.join, h1]
      | base g c => cases g <;> simp [Mt.fits, okC, Ki.has] at h
      | _ => simp [Mt.fits, Ki.has] at h
  | p l r x y =>
    intro m s
    constructor
    · intro h
      cases m with
      | fail q b => cases q <;> simp [Mt.fits] at h; simp [Ki.idt, Mt.join, fl, blb]
      | pr c a r2 =>
        simp [Mt.fits, okC, Ki.has, Ki.pl, Ki.pr] at h
        have h1 := (x a s.pl).1 h.2.2.1
        have h2 := (y r2 s.pr).1 h.2.2.2
        simp [Ki.idt, Mt.join, h1, h2, h.1]
      | base g c => cases g <;> simp [Mt.fits, okC, Ki.has] at h
      | _ => simp [Mt.fits, Ki.has] at h
    · intro h
      cases m with
      | fail q b => simp [Mt.join]
      | pr c a r2 =>
        simp [Mt.fits, okC, Ki.has, Ki.pl, Ki.pr] at h
        have h1 := (x a s.pl).2 h.2.2.1
        have h2 := (y r2 s.pr).2 h.2.2.2
        simp [Ki.idt, Mt.join, h1, h2]
      | base g c => cases g <;> simp [Mt.fits, okC, Ki.has] at h
      | _ => simp [Mt.fits, Ki.has] at h
end Pn
end

section
set_option linter.all false
set_option autoImplicit false
set_option maxHeartbeats 4000000
set_option maxRecDepth 10000
/-! Plain Lean: what the program does with trees of middles. -/
namespace Pn
open Py
def oS (c : Option S) : D := match c with
  | none => .non
  | some s => .str s
def okO (c : Option S) : Bool := match c with
  | none => true
  | some s => okS s && decide (s.length ≤ 100)
def Mt.d : Mt → D
  | .any => .tup [.str [97, 110, 121]]
  | .base g c => .tup [.str [98, 97, 115, 101], .str g.s, oS c]
  | .fail q bl => .tup [.str [102, 97, 105, 108], (match q with | none => .non | some (g, l) => .tup [.str g.s, .str l]), oS bl]
  | .fn c x y => .tup [.str [102, 117, 110], oS c, x.d, y.d]
  | .fn1 c x => .tup [.str [102, 117, 110], oS c, x.d, .non]
  | .pr c x y => .tup [.str [112, 97, 105, 114], oS c, x.d, y.d]
/-- labels are short texts; an answer lacks beside a fail node alone -/
def Mt.ok : Mt → Bool
  | .any => true
  | .base _ c => okO c
  | .fail q bl => (match q with | none => true | some (_, l) => okO (some l)) && okO bl
  | .fn c x y => okO c && (x.ok && y.ok)
  | .fn1 c x => okO c && (x.ok && x.isF)
  | .pr c x y => okO c && (x.ok && y.ok)
def Mt.dp : Mt → Nat
  | .fn _ x y => 1 + max x.dp y.dp
  | .pr _ x y => 1 + max x.dp y.dp
  | .fn1 _ x => 1 + x.dp
  | _ => 1
theorem Gd.s_inj {g g' : Gd} (h : g.s = g'.s) : g = g' := by
  rcases g with g | _ | _ <;> rcases g' with g' | _ | _ <;> first | rfl | (cases g <;> cases g' <;> first | rfl | (revert h; decide)) | (cases g <;> (revert h; decide)) | (cases g' <;> (revert h; decide)) | (revert h; decide)
theorem Gd.s_ok (g : Gd) : okS g.s = true ∧ g.s.length ≤ line := by
  rcases g with g | _ | _ <;> first | (cases g <;> decide) | decide
theorem fl_ok {g : Gd} {c bl : Option S} (h1 : okO c = true) (h2 : okO bl = true) : (fl g c bl).ok = true := by
  unfold fl
  cases c with
  | none => simpa [Mt.ok] using h2
  | some c => by_cases h : some c = bl <;> simp [h, Mt.ok, h1, h2]
theorem blb_ok {q : Option (Gd × S)} {bl : Option S} {g : Gd} (h : (Mt.fail q bl).ok = true) : okO (blb q bl g) = true := by
  cases q with
  | none => simpa [Mt.ok, blb] using h
  | some q =>
    simp [Mt.ok] at h
    by_cases h1 : q.1 = g <;> simp [blb, h1, h.1, h.2]
theorem ck_ok {m : Mt} (h : m.ok = true) : okO m.ck = true := by
  cases m <;> simp [Mt.ok, Mt.ck] at h ⊢ <;> first | exact h | exact h.1 | rfl
theorem mkF_ok {c : Option S} {a r : Mt} (hc : okO c = true) (ha : a.ok = true) (hr : r.ok = true) : (mkF c a r).ok = true := by
  by_cases h : a.isF = true <;> simp [mkF, h, Mt.ok, hc, ha, hr]
theorem ok_join (N : Nat) : ∀ (m n : Mt), m.sz + n.sz ≤ N → m.ok = true → n.ok = true → (m.join n).ok = true := by
  induction N with
  | zero => intro m n h; have : 1 ≤ m.sz := by cases m <;> simp [Mt.sz] <;> omega
            omega
  | succ N ih =>
    intro m n hN hm hn
    rcases isC_or m with rfl | ⟨q, bl, rfl⟩ | cm
    · rw [any_join]; exact hn
    · rw [fail_join (show (Mt.fail q bl).isF = true from rfl)]; exact hm
    rcases isC_or n with rfl | ⟨q, bl, rfl⟩ | cn
    · rw [join_any]; exact hm
    · rw [join_cf cm]; exact fl_ok (ck_ok hm) (blb_ok hn)
    · by_cases h : m.gd = n.gd
      · cases m <;> first | (cases cm; done) | skip
        all_goals cases n <;> first | (cases cn; done) | (simp [Mt.gd] at h; done) | skip
        · simp only [Mt.gd, Gd.bs.injEq] at h
          subst h
          simpa [Mt.join] using hm
        all_goals
          simp only [Mt.ok, Bool.and_eq_true] at hm hn
          simp only [Mt.sz] at hN
        case fn.fn c1 a1 r1 c2 a2 r2 =>
          rw [Mt.join]
          exact mkF_ok hm.1 (ih a2 a1 (by omega) hn.2.1 hm.2.1) (ih r1 r2 (by omega) hm.2.2 hn.2.2)
        case pr.pr c1 a1 r1 c2 a2 r2 =>
          simp [Mt.join, Mt.ok, hm.1, ih a1 a2 (by omega) hm.2.1 hn.2.1, ih r1 r2 (by omega) hm.2.2 hn.2.2]
        case fn.fn1 c1 a1 r1 c2 a2 =>
          have F : (a2.join a1).isF = true := by rw [fail_join hn.2.2]; exact hn.2.2
          simp [Mt.join, Mt.ok, hm.1, ih a2 a1 (by omega) hn.2.1 hm.2.1, F]
        case fn1.fn c1 a1 c2 a2 r2 =>
          have F : (a2.join a1).isF = true := join_isF hm.2.2
          simp [Mt.join, Mt.ok, hm.1, ih a2 a1 (by omega) hn.2.1 hm.2.1, F]
        case fn1.fn1 c1 a1 c2 a2 =>
          have F : (a2.join a1).isF = true := join_isF hm.2.2
          simp [Mt.join, Mt.ok, hm.1, ih a2 a1 (by omega) hn.2.1 hm.2.1, F]
      · rw [join_ne cm cn h]; exact fl_ok (ck_ok hm) (ck_ok hn)
section
variable {fs : List FD} {g0 : Gs} {n : Nat} {μ : Store}
/-! ### values -/
theorem oS_eqv (x y : Option S) : D.eqv (oS x) (oS y) = decide (x = y) := by
  cases x <;> cases y <;> simp [oS, D.eqv]
  rw [Bool.eq_iff_iff]
  simp
theorem oS_plain {x : Option S} (h : okO x = true) : (oS x).plain 60 = true := by
  cases x with
  | none => rfl
  | some s =>
    simp [okO] at h
    unfold oS D.plain
    simp [h.1]
    omega
theorem oS_eq {x y : Option S} (hx : okO x = true) (hy : okO y = true) : copG (gN fs g0 n) .eq (oS x) (oS y) μ = .ok (.bl (decide (x = y))) μ := by
  have e : eqD (oS x) (oS y) μ = .ok (decide (x = y)) μ := by
    have : eqD (oS x) (oS y) μ = if (oS x).plain 60 && (oS y).plain 60 then .ok (D.eqv (oS x) (oS y)) μ else .bad := by
      cases x <;> cases y <;> rfl
    rw [this]
    simp [oS_plain hx, oS_plain hy, oS_eqv]
  rw [cop_own (by cases x <;> rfl)]
  simp [cop, e]
theorem oS_ne {x y : Option S} (hx : okO x = true) (hy : okO y = true) : copG (gN fs g0 n) .ne (oS x) (oS y) μ = .ok (.bl (!decide (x = y))) μ := by
  have e : eqD (oS x) (oS y) μ = .ok (decide (x = y)) μ := by
    have : eqD (oS x) (oS y) μ = if (oS x).plain 60 && (oS y).plain 60 then .ok (D.eqv (oS x) (oS y)) μ else .bad := by
      cases x <;> cases y <;> rfl
    rw [this]
    simp [oS_plain hx, oS_plain hy, oS_eqv]
  rw [cop_own (by cases x <;> rfl)]
  simp [cop, e]
theorem ne_word (x y : S) (hx : okS x = true ∧ x.length ≤ line) (hy : okS y = true ∧ y.length ≤ line) : copG (gN fs g0 n) .ne (.str x) (.str y) μ = .ok (.bl (!(x == y))) μ := by
  rw [cop_own (by rfl)]
  have : eqD (.str x) (.str y) μ = .ok (x == y) μ := by
    show (if (D.str x).plain 60 && (D.str y).plain 60 then R.ok (D.eqv (.str x) (.str y)) μ else R.bad) = _
    have h1 : (D.str x).plain 60 = true := by unfold D.plain; simp [hx.1]; simpa using hx.2
    have h2 : (D.str y).plain 60 = true := by unfold D.plain; simp [hy.1]; simpa using hy.2
    simp [h1, h2, D.eqv]
  simp [cop, this]
@[simp] theorem oS_non (x : Option S) : isNon (oS x) = decide (x = none) := by cases x <;> simp [oS]
@[simp] theorem oS_able (x : Option S) : isAble (oS x) = true := by cases x <;> simp [oS]
/-- words of nodes, written -/
theorem wd (x y : S) (h : (okS x && (okS y && (decide (x.length ≤ line) && decide (y.length ≤ line)))) = true := by decide) : copG (gN fs g0 n) .eq (.str x) (.str y) μ = .ok (.bl (x == y)) μ := by
  simp only [Bool.and_eq_true, decide_eq_true_eq] at h
  exact eq_word x y ⟨h.1, h.2.2.1⟩ ⟨h.2.1, h.2.2.2⟩
theorem wdn (x y : S) (h : (okS x && (okS y && (decide (x.length ≤ line) && decide (y.length ≤ line)))) = true := by decide) : copG (gN fs g0 n) .ne (.str x) (.str y) μ = .ok (.bl (!(x == y))) μ := by
  simp only [Bool.and_eq_true, decide_eq_true_eq] at h
  exact ne_word x y ⟨h.1, h.2.2.1⟩ ⟨h.2.1, h.2.2.2⟩
def Mt.w : Mt → S
  | .any => [97, 110, 121]
  | .base _ _ => [98, 97, 115, 101]
  | .fail _ _ => [102, 97, 105, 108]
  | .pr _ _ _ => [112, 97, 105, 114]
  | _ => [102, 117, 110]
@[simp] theorem mt_0 (m : Mt) : idx m.d (.int 0) μ = .ok (.str m.w) μ := by cases m <;> simp [Mt.d, Mt.w, atI, ixN]
theorem mt_w (m : Mt) : okS m.w = true ∧ m.w.length ≤ line := by cases m <;> simp [Mt.w, okS]
theorem mt_eq (m : Mt) (x : S) (h : okS x = true ∧ x.length ≤ line) : copG (gN fs g0 n) .eq (.str m.w) (.str x) μ = .ok (.bl (m.w == x)) μ := eq_word _ _ (mt_w m) h
theorem mt_ne (m : Mt) (x : S) (h : okS x = true ∧ x.length ≤ line) : copG (gN fs g0 n) .ne (.str m.w) (.str x) μ = .ok (.bl (!(m.w == x))) μ := ne_word _ _ (mt_w m) h
theorem gd_eq (g g' : Gd) : copG (gN fs g0 n) .eq (.str g.s) (.str g'.s) μ = .ok (.bl (decide (g = g'))) μ := by
  rw [eq_word _ _ g.s_ok g'.s_ok]
  congr 2
  rw [Bool.eq_iff_iff]
  simp
  exact ⟨Gd.s_inj, fun h => by rw [h]⟩
theorem gd_ne (g g' : Gd) : copG (gN fs g0 n) .ne (.str g.s) (.str g'.s) μ = .ok (.bl (!decide (g = g'))) μ := by
  rw [ne_word _ _ g.s_ok g'.s_ok]
  congr 3
  rw [Bool.eq_iff_iff]
  simp
  exact ⟨Gd.s_inj, fun h => by rw [h]⟩
/-! ### small walks -/
theorem sp_ground [HasF fs g0 C.f_ground_of] {m : Mt} (h : m.isC = true) (hn : 1 ≤ n) : (gN fs g0 n).callF "ground_of" [m.d] μ = .ok (.str m.gd.s) μ := by
  apply eq_of_wp
  refine wp_callF (f := C.f_ground_of) rfl rfl (by omega) ?_
  simp only [C.f_ground_of, C.b_ground_of, startE, List.map]
  simp [mt_eq m [98, 97, 115, 101] (by decide)]
  cases m <;> first | (cases h; done) | simp [Mt.w, Mt.gd, Mt.d, atI, ixN, Gd.s]
theorem sp_check [HasF fs g0 C.f_check_of] {m : Mt} (h : m.isC = true) (hn : 1 ≤ n) : (gN fs g0 n).callF "check_of" [m.d] μ = .ok (oS m.ck) μ := by
  apply eq_of_wp
  refine wp_callF (f := C.f_check_of) rfl rfl (by omega) ?_
  simp only [C.f_check_of, C.b_check_of, startE, List.map]
  simp [mt_eq m [98, 97, 115, 101] (by decide)]
  cases m <;> first | (cases h; done) | simp [Mt.w, Mt.ck, Mt.d, atI, ixN]
theorem sp_blamed [HasF fs g0 C.f_blamed_by] (q : Option (Gd × S)) (bl : Option S) (g : Gd) (hn : 1 ≤ n) : (gN fs g0 n).callF "blamed_by" [(Mt.fail q bl).d, .str g.s] μ = .ok (oS (blb q bl g)) μ := by
  apply eq_of_wp
  refine wp_callF (f := C.f_blamed_by) rfl rfl (by omega) ?_
  simp only [C.f_blamed_by, C.b_blamed_by, startE, List.map]
  cases q with
  | none => simp [Mt.d, atI, ixN, blb]
  | some q =>
    obtain ⟨g', l⟩ := q
    by_cases h : g' = g <;> simp [Mt.d, atI, ixN, blb, gd_ne, h, oS]
theorem sp_failure [HasF fs g0 C.f_failure] (g : Gd) {c bl : Option S} (hc : okO c = true) (hb : okO bl = true) (hn : 1 ≤ n) : (gN fs g0 n).callF "failure" [.str g.s, oS c, oS bl] μ = .ok (fl g c bl).d μ := by
  apply eq_of_wp
  refine wp_callF (f := C.f_failure) rfl rfl (by omega) ?_
  simp only [C.f_failure, C.b_failure, startE, List.map]
  cases c with
  | none => simp [fl, Mt.d]
  | some c =>
    simp [oS_eq hc hb]
    by_cases h : some c = bl <;> simp [fl, h, Mt.d, oS]
/-! ### join -/
@[simp] theorem pr_2 (c : Option S) (x y : Mt) : idx (Mt.pr c x y).d (.int 2) μ = .ok x.d μ := by simp [Mt.d, atI, ixN]
@[simp] theorem pr_3 (c : Option S) (x y : Mt) : idx (Mt.pr c x y).d (.int 3) μ = .ok y.d μ := by simp [Mt.d, atI, ixN]
@[simp] theorem fn_2 (c : Option S) (x y : Mt) : idx (Mt.fn c x y).d (.int 2) μ = .ok x.d μ := by simp [Mt.d, atI, ixN]
@[simp] theorem fn_3 (c : Option S) (x y : Mt) : idx (Mt.fn c x y).d (.int 3) μ = .ok y.d μ := by simp [Mt.d, atI, ixN]
@[simp] theorem fn1_2 (c : Option S) (x : Mt) : idx (Mt.fn1 c x).d (.int 2) μ = .ok x.d μ := by simp [Mt.d, atI, ixN]
@[simp] theorem fn1_3 (c : Option S) (x : Mt) : idx (Mt.fn1 c x).d (.int 3) μ = .ok .non μ := by simp [Mt.d, atI, ixN]
theorem w_any (m : Mt) : (m.w == [97, 110, 121]) = decide (m = .any) := by cases m <;> simp [Mt.w]
theorem w_fail (m : Mt) : (m.w == [102, 97, 105, 108]) = m.isF := by cases m <;> simp [Mt.w, Mt.isF]
theorem w_base (m : Mt) : (m.w == [98, 97, 115, 101]) = (match m with | .base _ _ => true | _ => false) := by cases m <;> simp [Mt.w]
theorem w_pair (m : Mt) : (m.w == [112, 97, 105, 114]) = (match m with | .pr _ _ _ => true | _ => false) := by cases m <;> simp [Mt.w]
theorem w_fun (m : Mt) : (m.w == [102, 117, 110]) = (match m with | .fn _ _ _ => true | .fn1 _ _ => true | _ => false) := by cases m <;> simp [Mt.w]
theorem fnd (c : Option S) (a r : Mt) (h : a.isF = false) : D.tup [.str [102, 117, 110], oS c, a.d, r.d] = (mkF c a r).d := by simp [mkF, h, Mt.d]
theorem fn1d (c : Option S) (a r : Mt) (h : a.isF = true) : D.tup [.str [102, 117, 110], oS c, a.d, .non] = (mkF c a r).d := by simp [mkF, h, Mt.d]
theorem sp_join [HasF fs g0 C.f_ground_of] [HasF fs g0 C.f_check_of] [HasF fs g0 C.f_blamed_by] [HasF fs g0 C.f_failure] [HasF fs g0 C.f_join_trees] (N : Nat) : ∀ (m n : Mt) (k : Nat) (μ : Store), m.sz + n.sz ≤ N → m.ok = true → n.ok = true → max m.dp n.dp + 3 ≤ k →
    (gN fs g0 k).callF "join_trees" [m.d, n.d] μ = .ok (m.join n).d μ := by
  induction N with
  | zero => intro m n k μ h; have : 1 ≤ m.sz := by cases m <;> simp [Mt.sz] <;> omega
            omega
  | succ N ih =>
    intro m n k μ hN hm hn hk
    have e0 := fun (m : Mt) (μ : Store) => mt_eq (fs := fs) (g0 := g0) (n := k - 1) (μ := μ) m [97, 110, 121] (by decide)
    have e1 := fun (m : Mt) (μ : Store) => mt_eq (fs := fs) (g0 := g0) (n := k - 1) (μ := μ) m [102, 97, 105, 108] (by decide)
    have e2 := fun (m : Mt) (μ : Store) => mt_eq (fs := fs) (g0 := g0) (n := k - 1) (μ := μ) m [98, 97, 115, 101] (by decide)
    have e3 := fun (m : Mt) (μ : Store) => mt_eq (fs := fs) (g0 := g0) (n := k - 1) (μ := μ) m [112, 97, 105, 114] (by decide)
    apply eq_of_wp
    refine wp_callF (f := C.f_join_trees) rfl rfl (by omega) ?_
    simp only [C.f_join_trees, C.b_join_trees, startE, List.map]
    simp [e0, e1, w_any, w_fail]
    rcases isC_or m with rfl | ⟨q, bl, rfl⟩ | cm
    · simp [any_join]
    · have : (Mt.fail q bl).isF = true := rfl
      simp [this, fail_join this]
      cases n <;> simp
    have nm : m ≠ .any := by rintro rfl; cases cm
    have fm : m.isF = false := by cases m <;> first | rfl | cases cm
    rcases isC_or n with rfl | ⟨q, bl, rfl⟩ | cn
    · simp [nm, join_any]
    · have g1 := fun (μ : Store) => sp_ground (fs := fs) (g0 := g0) (n := k - 1) (μ := μ) cm (by omega)
      have g2 := fun (μ : Store) => sp_check (fs := fs) (g0 := g0) (n := k - 1) (μ := μ) cm (by omega)
      have g3 := fun (μ : Store) => sp_blamed (fs := fs) (g0 := g0) (n := k - 1) (μ := μ) q bl m.gd (by omega)
      have g4 := fun (μ : Store) => sp_failure (fs := fs) (g0 := g0) (n := k - 1) (μ := μ) m.gd (ck_ok hm) (blb_ok (q := q) (bl := bl) (g := m.gd) hn) (by omega)
      have : (Mt.fail q bl).isF = true := rfl
      simp [nm, fm, g1, g2, this, g3, g4, join_cf cm, e1, w_fail]
    have nn : n ≠ .any := by rintro rfl; cases cn
    have fn' : n.isF = false := by cases n <;> first | rfl | cases cn
    have g1 := fun (μ : Store) => sp_ground (fs := fs) (g0 := g0) (n := k - 1) (μ := μ) cm (by omega)
    have g2 := fun (μ : Store) => sp_check (fs := fs) (g0 := g0) (n := k - 1) (μ := μ) cm (by omega)
    have g1' := fun (μ : Store) => sp_ground (fs := fs) (g0 := g0) (n := k - 1) (μ := μ) cn (by omega)
    have g2' := fun (μ : Store) => sp_check (fs := fs) (g0 := g0) (n := k - 1) (μ := μ) cn (by omega)
    have g4 := fun (μ : Store) => sp_failure (fs := fs) (g0 := g0) (n := k - 1) (μ := μ) m.gd (ck_ok hm) (ck_ok hn) (by omega)
    by_cases h : m.gd = n.gd
    · have h' : ¬ (n.gd ≠ m.gd) := fun z => z h.symm
      simp [nm, fm, g1, g2, g1', nn, fn', gd_ne, h.symm, e1, w_fail, e2, e3, w_base, w_pair]
      cases m <;> first | (cases cm; done) | skip
      all_goals cases n <;> first | (cases cn; done) | (simp [Mt.gd] at h; done) | skip
      · simp only [Mt.gd, Gd.bs.injEq] at h
        subst h
        simp [Mt.join]
      all_goals
        simp only [Mt.ok, Bool.and_eq_true] at hm hn
        simp only [Mt.sz] at hN
        simp only [Mt.dp] at hk
      case fn.fn c1 a1 r1 c2 a2 r2 =>
        have j1 := fun μ => ih a2 a1 (k - 1) μ (by omega) hn.2.1 hm.2.1 (by omega)
        have j2 := fun μ => ih r1 r2 (k - 1) μ (by omega) hm.2.2 hn.2.2 (by omega)
        simp [j1, e1, w_fail, Mt.join, Mt.ck]
        by_cases F : (a2.join a1).isF = true
        · simp [F, fn1d _ _ (r1.join r2) F, Mt.join]
        · simp only [Bool.not_eq_true] at F
          simp [F, j2, fnd _ _ _ F, Mt.join]
      case pr.pr c1 a1 r1 c2 a2 r2 =>
        have j1 := fun μ => ih a1 a2 (k - 1) μ (by omega) hm.2.1 hn.2.1 (by omega)
        have j2 := fun μ => ih r1 r2 (k - 1) μ (by omega) hm.2.2 hn.2.2 (by omega)
        simp [j1, j2, Mt.join, Mt.ck]
        simp [Mt.d]
      case fn.fn1 c1 a1 r1 c2 a2 =>
        have j1 := fun μ => ih a2 a1 (k - 1) μ (by omega) hn.2.1 hm.2.1 (by omega)
        have F : (a2.join a1).isF = true := by rw [fail_join hn.2.2]; exact hn.2.2
        simp [j1, e1, w_fail, Mt.join, Mt.ck, F]
        simp [Mt.d]
      case fn1.fn c1 a1 c2 a2 r2 =>
        have j1 := fun μ => ih a2 a1 (k - 1) μ (by omega) hn.2.1 hm.2.1 (by omega)
        have F : (a2.join a1).isF = true := join_isF hm.2.2
        simp [j1, e1, w_fail, Mt.join, Mt.ck, F]
        simp [Mt.d]
      case fn1.fn1 c1 a1 c2 a2 =>
        have j1 := fun μ => ih a2 a1 (k - 1) μ (by omega) hn.2.1 hm.2.1 (by omega)
        have F : (a2.join a1).isF = true := join_isF hm.2.2
        simp [j1, e1, w_fail, Mt.join, Mt.ck, F]
        simp [Mt.d]
    · have h' : ¬ (n.gd = m.gd) := fun z => h z.symm
      simp [nm, fm, g1, g2, g1', g2', nn, fn', gd_ne, h', g4, join_ne cm cn h, e1, w_fail]
/-! ### grounds of kinds -/
theorem ki_gd (s : Ki) (g : Gd) (hs : s.isT = false) (hq : s ≠ .q) : copG (gN fs g0 n) .eq s.d (.str g.s) μ = .ok (.bl (s.has g)) μ := by
  have : ∀ b : Bs, copG (gN fs g0 n) .eq (.str b.s) (.str g.s) μ = .ok (.bl (decide (g = .bs b))) μ := fun b => by
    rw [show b.s = (Gd.bs b).s from rfl, gd_eq]
    congr 2
    rw [Bool.eq_iff_iff]
    simp
    exact ⟨Eq.symm, Eq.symm⟩
  cases s with
  | i => exact this .i
  | b => exact this .b
  | u => exact this .u
  | q => exact absurd rfl hq
  | _ => cases hs
theorem sp_has [HasF fs g0 C.f_has_ground] [GSub g0 "str" "tuple" false] [GSub g0 "tuple" "tuple" true] (s : Ki) (g : Gd) (hs : s.h ≤ 60) (hn : 1 ≤ n) : (gN fs g0 n).callF "has_ground" [s.d, .str g.s] μ = .ok (.bl (s.has g)) μ := by
  apply eq_of_wp
  refine wp_callF (f := C.f_has_ground) rfl rfl (by omega) ?_
  simp only [C.f_has_ground, C.b_has_ground, startE, List.map]
  have hq := fun (n : Nat) (μ : Store) => ki_q (fs := fs) (g0 := g0) (n := n) (μ := μ) s hs
  simp only [str_q] at hq
  cases s with
  | f l r =>
    have := gd_eq (fs := fs) (g0 := g0) (n := n - 1) (μ := μ) .f g
    simp only [show Gd.f.s = [102, 117, 110] from rfl] at this
    simp [Ki.isT, this, Ki.has]
    exact ⟨Eq.symm, Eq.symm⟩
  | p l r =>
    have := gd_eq (fs := fs) (g0 := g0) (n := n - 1) (μ := μ) .p g
    simp only [show Gd.p.s = [112, 97, 105, 114] from rfl] at this
    simp [Ki.isT, this, Ki.has]
    exact ⟨Eq.symm, Eq.symm⟩
  | q => simp [Ki.isT, hq, Ki.has]
  | i => simp [Ki.isT, hq, ki_gd .i g rfl (by simp)]
  | b => simp [Ki.isT, hq, ki_gd .b g rfl (by simp)]
  | u => simp [Ki.isT, hq, ki_gd .u g rfl (by simp)]
def Ki.op (s : Ki) (g : Gd) : Ki := match s, g with
  | .q, .f => .f .q .q
  | .q, .p => .p .q .q
  | s, _ => s
theorem sp_opened [HasF fs g0 C.f_opened] (s : Ki) (g : Gd) (hg : g = .f ∨ g = .p) (hs : s.h ≤ 60) (hn : 1 ≤ n) : (gN fs g0 n).callF "opened" [s.d, .str g.s] μ = .ok (s.op g).d μ := by
  by_cases h : s = .q
  · subst h
    rw [sp_sgn_open hn]
    rcases hg with rfl | rfl <;> rfl
  · apply eq_of_wp
    refine wp_callF (f := C.f_opened) rfl rfl (by omega) ?_
    simp only [C.f_opened, C.b_opened, startE, List.map]
    have hq := fun (n : Nat) (μ : Store) => ki_q (fs := fs) (g0 := g0) (n := n) (μ := μ) s hs
    simp only [str_q] at hq
    simp [hq, h]
    cases s <;> first | exact absurd rfl h | rfl
theorem op_f {s : Ki} (h : s.has .f = true) : s.op .f = .f s.pl s.pr := by cases s <;> simp [Ki.has] at h <;> rfl
theorem op_p {s : Ki} (h : s.has .p = true) : s.op .p = .p s.pl s.pr := by cases s <;> simp [Ki.has] at h <;> rfl
theorem pl_h (s : Ki) : s.pl.h ≤ s.h := by cases s <;> simp [Ki.pl, Ki.h] <;> omega
theorem pr_h (s : Ki) : s.pr.h ≤ s.h := by cases s <;> simp [Ki.pr, Ki.h] <;> omega
theorem sp_fits [HasF fs g0 C.f_ground_of] [HasF fs g0 C.f_check_of] [HasF fs g0 C.f_has_ground] [HasF fs g0 C.f_opened] [HasF fs g0 C.f_fits_tree] [GSub g0 "str" "tuple" false] [GSub g0 "tuple" "tuple" true] (m : Mt) : ∀ (s t : Ki) (k : Nat) (μ : Store), m.ok = true → s.h ≤ 60 → t.h ≤ 60 → m.dp + 3 ≤ k →
    (gN fs g0 k).callF "fits_tree" [m.d, s.d, t.d] μ = .ok (.bl (m.fits s t)) μ := by
  have pre : ∀ (m : Mt) (s t : Ki) (k : Nat) (μ : Store), m.ok = true → s.h ≤ 60 → t.h ≤ 60 → m.dp + 3 ≤ k →
      (∀ x, x = m.d → (∀ c a r, m = .fn c a r → ∀ s t μ, s.h ≤ 60 → t.h ≤ 60 → (gN fs g0 (k - 1)).callF "fits_tree" [a.d, s.d, t.d] μ = .ok (.bl (a.fits s t)) μ ∧ (gN fs g0 (k - 1)).callF "fits_tree" [r.d, s.d, t.d] μ = .ok (.bl (r.fits s t)) μ) →
        (∀ c a r, m = .pr c a r → ∀ s t μ, s.h ≤ 60 → t.h ≤ 60 → (gN fs g0 (k - 1)).callF "fits_tree" [a.d, s.d, t.d] μ = .ok (.bl (a.fits s t)) μ ∧ (gN fs g0 (k - 1)).callF "fits_tree" [r.d, s.d, t.d] μ = .ok (.bl (r.fits s t)) μ) →
        (∀ c a, m = .fn1 c a → ∀ s t μ, s.h ≤ 60 → t.h ≤ 60 → (gN fs g0 (k - 1)).callF "fits_tree" [a.d, s.d, t.d] μ = .ok (.bl (a.fits s t)) μ) →
        (gN fs g0 k).callF "fits_tree" [x, s.d, t.d] μ = .ok (.bl (m.fits s t)) μ) := by
    rintro m s t k μ hm hs ht hk x rfl hF hP hF1
    have e0 := fun (m : Mt) (μ : Store) => mt_eq (fs := fs) (g0 := g0) (n := k - 1) (μ := μ) m [97, 110, 121] (by decide)
    have e1 := fun (m : Mt) (μ : Store) => mt_eq (fs := fs) (g0 := g0) (n := k - 1) (μ := μ) m [102, 97, 105, 108] (by decide)
    have e2 := fun (m : Mt) (μ : Store) => mt_eq (fs := fs) (g0 := g0) (n := k - 1) (μ := μ) m [98, 97, 115, 101] (by decide)
    have e3 := fun (m : Mt) (μ : Store) => mt_eq (fs := fs) (g0 := g0) (n := k - 1) (μ := μ) m [112, 97, 105, 114] (by decide)
    have hqs := fun (n : Nat) (μ : Store) => ki_q (fs := fs) (g0 := g0) (n := n) (μ := μ) s hs
    have hqt := fun (n : Nat) (μ : Store) => ki_q (fs := fs) (g0 := g0) (n := n) (μ := μ) t ht
    simp only [str_q] at hqs hqt
    apply eq_of_wp
    refine wp_callF (f := C.f_fits_tree) rfl rfl (by omega) ?_
    simp only [C.f_fits_tree, C.b_fits_tree, startE, List.map]
    simp [e0, e1, w_any, w_fail]
    rcases isC_or m with rfl | ⟨q, bl, rfl⟩ | cm
    · simp [hqs, hqt, Mt.fits]
      by_cases h : s = .q <;> simp [h]
    · have : (Mt.fail q bl).isF = true := rfl
      simp [this, e1, w_fail]
      cases q with
      | none => simp [Mt.d, atI, ixN, Mt.fits]
      | some q =>
        obtain ⟨g, l⟩ := q
        simp [Mt.ok] at hm
        have hne := fun (μ : Store) => oS_ne (fs := fs) (g0 := g0) (n := k - 1) (μ := μ) (x := some l) (y := bl) hm.1 hm.2
        simp only [show oS (some l) = D.str l from rfl] at hne
        simp [Mt.d, atI, ixN, Mt.fits, hqs, hne]
        by_cases h : s = .q <;> simp [h]
    · have nm : m ≠ .any := by rintro rfl; cases cm
      have fm : m.isF = false := by cases m <;> first | rfl | cases cm
      have g1 := fun (μ : Store) => sp_ground (fs := fs) (g0 := g0) (n := k - 1) (μ := μ) cm (by omega)
      have g2 := fun (μ : Store) => sp_check (fs := fs) (g0 := g0) (n := k - 1) (μ := μ) cm (by omega)
      have h1 := fun (μ : Store) => sp_has (fs := fs) (g0 := g0) (n := k - 1) (μ := μ) s m.gd hs (by omega)
      have h2 := fun (μ : Store) => sp_has (fs := fs) (g0 := g0) (n := k - 1) (μ := μ) t m.gd ht (by omega)
      have hpls := Nat.le_trans (pl_h s) hs
      have hprs := Nat.le_trans (pr_h s) hs
      have hplt := Nat.le_trans (pl_h t) ht
      have hprt := Nat.le_trans (pr_h t) ht
      have hb : ∀ x y : Bool, (x == y) = !(x != y) := by decide
      simp [nm, fm, g1, g2, e1, w_fail, hqs]
      cases m <;> first | (cases cm; done) | skip
      case base g c =>
        simp only [Mt.ck, Mt.gd] at *
        have hf : (Mt.base g c).fits s t = (okC c s && (s.has (.bs g) && t.has (.bs g))) := by simp [Mt.fits]
        rw [hf]
        unfold okC
        by_cases hc : (decide (c = none) != decide (s = .q)) = true
        · have hc' : ¬ (c = none ↔ s = .q) := by simpa [bne_iff_ne] using hc
          simp [hc, hc', h1, h2, e2, w_base]
          cases s.has (.bs g) <;> cases t.has (.bs g) <;> simp
        · have hc' : (c = none ↔ s = .q) := by simpa [bne_iff_ne] using hc
          simp [hc, hc']
      case pr c a r =>
        simp only [Mt.ck, Mt.gd] at *
        have hf : (Mt.pr c a r).fits s t = (okC c s && ((s.has .p && t.has .p) && (a.fits s.pl t.pl && r.fits s.pr t.pr))) := by simp [Mt.fits]
        rw [hf]
        unfold okC
        have o1 := fun (μ : Store) => sp_opened (fs := fs) (g0 := g0) (n := k - 1) (μ := μ) s .p (.inr rfl) hs (by omega)
        have o2 := fun (μ : Store) => sp_opened (fs := fs) (g0 := g0) (n := k - 1) (μ := μ) t .p (.inr rfl) ht (by omega)
        have i1 := fun (μ : Store) => (hP c a r rfl s.pl t.pl μ hpls hplt).1
        have i2 := fun (μ : Store) => (hP c a r rfl s.pr t.pr μ hprs hprt).2
        by_cases hc : (decide (c = none) != decide (s = .q)) = true
        · have hc' : ¬ (c = none ↔ s = .q) := by simpa [bne_iff_ne] using hc
          cases hs1 : s.has .p with
          | false => simp [hc, hc', h1, h2, hs1]
          | true =>
            cases ht1 : t.has .p with
            | false => simp [hc, hc', h1, h2, hs1, ht1]
            | true =>
              rw [op_p hs1] at o1
              rw [op_p ht1] at o2
              simp [hc, hc', h1, h2, hs1, ht1, e2, w_base, e3, w_pair, o1, o2, i1, i2]
              cases a.fits s.pl t.pl <;> simp
        · have hc' : (c = none ↔ s = .q) := by simpa [bne_iff_ne] using hc
          simp [hc, hc']
      case fn c a r =>
        simp only [Mt.ck, Mt.gd] at *
        have hf : (Mt.fn c a r).fits s t = (okC c s && ((s.has .f && t.has .f) && (a.fits t.pl s.pl && (!a.isF && r.fits s.pr t.pr)))) := by simp [Mt.fits]
        rw [hf]
        unfold okC
        have o1 := fun (μ : Store) => sp_opened (fs := fs) (g0 := g0) (n := k - 1) (μ := μ) s .f (.inl rfl) hs (by omega)
        have o2 := fun (μ : Store) => sp_opened (fs := fs) (g0 := g0) (n := k - 1) (μ := μ) t .f (.inl rfl) ht (by omega)
        have i1 := fun (μ : Store) => (hF c a r rfl t.pl s.pl μ hplt hpls).1
        have i2 := fun (μ : Store) => (hF c a r rfl s.pr t.pr μ hprs hprt).2
        have ra : isNon r.d = false ∧ isAble r.d = true := by cases r <;> exact ⟨rfl, rfl⟩
        by_cases hc : (decide (c = none) != decide (s = .q)) = true
        · have hc' : ¬ (c = none ↔ s = .q) := by simpa [bne_iff_ne] using hc
          cases hs1 : s.has .f with
          | false => simp [hc, hc', h1, h2, hs1]
          | true =>
            cases ht1 : t.has .f with
            | false => simp [hc, hc', h1, h2, hs1, ht1]
            | true =>
              rw [op_f hs1] at o1
              rw [op_f ht1] at o2
              simp [hc, hc', h1, h2, hs1, ht1, e2, w_base, e3, w_pair, o1, o2, i1]
              cases a.fits t.pl s.pl <;> cases hf2 : a.isF <;> simp [i2, e1, w_fail, hf2, ra, hc']
        · have hc' : (c = none ↔ s = .q) := by simpa [bne_iff_ne] using hc
          simp [hc, hc']
      case fn1 c a =>
        simp only [Mt.ck, Mt.gd] at *
        have hf : (Mt.fn1 c a).fits s t = (okC c s && ((s.has .f && t.has .f) && (a.fits t.pl s.pl && a.isF))) := by simp [Mt.fits]
        rw [hf]
        unfold okC
        have o1 := fun (μ : Store) => sp_opened (fs := fs) (g0 := g0) (n := k - 1) (μ := μ) s .f (.inl rfl) hs (by omega)
        have o2 := fun (μ : Store) => sp_opened (fs := fs) (g0 := g0) (n := k - 1) (μ := μ) t .f (.inl rfl) ht (by omega)
        have i1 := fun (μ : Store) => (hF1 c a rfl t.pl s.pl μ hplt hpls)
        by_cases hc : (decide (c = none) != decide (s = .q)) = true
        · have hc' : ¬ (c = none ↔ s = .q) := by simpa [bne_iff_ne] using hc
          cases hs1 : s.has .f with
          | false => simp [hc, hc', h1, h2, hs1]
          | true =>
            cases ht1 : t.has .f with
            | false => simp [hc, hc', h1, h2, hs1, ht1]
            | true =>
              rw [op_f hs1] at o1
              rw [op_f ht1] at o2
              simp [hc, hc', h1, h2, hs1, ht1, e2, w_base, e3, w_pair, o1, o2, i1]
              cases a.fits t.pl s.pl <;> cases hf2 : a.isF <;> simp [e1, w_fail, hf2, hc']
        · have hc' : (c = none ↔ s = .q) := by simpa [bne_iff_ne] using hc
          simp [hc, hc']
  induction m with
  | fn c a r ia ir =>
    intro s t k μ hm hs ht hk
    simp only [Mt.ok, Bool.and_eq_true] at hm
    simp only [Mt.dp] at hk
    refine pre _ s t k μ (by simp [Mt.ok, hm]) hs ht (by simp only [Mt.dp]; omega) _ rfl ?_ (by rintro _ _ _ ⟨⟩) (by rintro _ _ ⟨⟩)
    rintro _ _ _ ⟨⟩ s t μ hs ht
    exact ⟨ia s t (k - 1) μ hm.2.1 hs ht (by omega), ir s t (k - 1) μ hm.2.2 hs ht (by omega)⟩
  | pr c a r ia ir =>
    intro s t k μ hm hs ht hk
    simp only [Mt.ok, Bool.and_eq_true] at hm
    simp only [Mt.dp] at hk
    refine pre _ s t k μ (by simp [Mt.ok, hm]) hs ht (by simp only [Mt.dp]; omega) _ rfl (by rintro _ _ _ ⟨⟩) ?_ (by rintro _ _ ⟨⟩)
    rintro _ _ _ ⟨⟩ s t μ hs ht
    exact ⟨ia s t (k - 1) μ hm.2.1 hs ht (by omega), ir s t (k - 1) μ hm.2.2 hs ht (by omega)⟩
  | fn1 c a ia =>
    intro s t k μ hm hs ht hk
    simp only [Mt.ok, Bool.and_eq_true] at hm
    simp only [Mt.dp] at hk
    refine pre _ s t k μ (by simp [Mt.ok, hm]) hs ht (by simp only [Mt.dp]; omega) _ rfl (by rintro _ _ _ ⟨⟩) (by rintro _ _ _ ⟨⟩) ?_
    rintro _ _ ⟨⟩ s t μ hs ht
    exact ia s t (k - 1) μ hm.2.1 hs ht (by omega)
  | _ =>
    intro s t k μ hm hs ht hk
    exact pre _ s t k μ hm hs ht hk _ rfl (by rintro _ _ _ ⟨⟩) (by rintro _ _ _ ⟨⟩) (by rintro _ _ ⟨⟩)
end
end Pn
end

section
set_option linter.all false
set_option autoImplicit false
set_option maxHeartbeats 4000000
set_option maxRecDepth 10000
/-! Plain Lean: heights of trees; identities; middles as objects. -/
namespace Pn
open Py
section
variable {fs : List FD} {g0 : Gs} {n : Nat} {μ : Store}
def Mt.kids : Mt → List Mt
  | .fn _ x y => [x, y]
  | .fn1 _ x => [x]
  | .pr _ x y => [x, y]
  | _ => []
@[simp] theorem mt_able (m : Mt) : isAble m.d = true := by cases m <;> rfl
@[simp] theorem mt_isN (m : Mt) : isNon m.d = false := by cases m <;> rfl
theorem sp_parts [HasF fs g0 C.f_parts_of] (m : Mt) (hn : 1 ≤ n) : ((gN fs g0 n).callF "parts_of" [m.d] μ).Wp (fun d μ' => d = .obj μ.length ∧ Ex μ μ' ∧ μ'[μ.length]? = some (.lst (m.kids.map Mt.d))) noE := by
  have e2 := fun (m : Mt) (μ : Store) => mt_ne (fs := fs) (g0 := g0) (n := n - 1) (μ := μ) m [102, 117, 110] (by decide)
  have e3 := fun (m : Mt) (μ : Store) => mt_ne (fs := fs) (g0 := g0) (n := n - 1) (μ := μ) m [112, 97, 105, 114] (by decide)
  refine wp_callF (f := C.f_parts_of) rfl rfl (by omega) ?_
  simp only [C.f_parts_of, C.b_parts_of, startE, List.map]
  simp [e2, e3, w_fun, w_pair]
  cases m with
  | fn c x y | pr c x y =>
    simp
    refine wp_compI (fun i acc μ' => acc = ([x, y].take i).map Mt.d ∧ Ex μ μ' ∧ μ'[μ.length]? = some (.lst acc)) ⟨rfl, Ex.push _ _, by simp⟩ ?_ ?_
    · rintro i d acc μ' hi ⟨rfl, ex, h1⟩
      have : i = 0 ∨ i = 1 := by have := (List.getElem?_eq_some_iff.mp hi).1; simp at this; omega
      rcases this with rfl | rfl
      · simp at hi
        subst hi
        simp at h1
        simp [h1]
        exact ⟨ex.set (Nat.le_refl _) _, at_set (at_lt h1) _⟩
      · simp at hi
        subst hi
        simp at h1
        simp [h1]
        exact ⟨ex.set (Nat.le_refl _) _, at_set (at_lt h1) _⟩
    · rintro acc μ' ⟨rfl, ex, h1⟩
      exact ⟨rfl, ex, by simpa [Mt.kids] using h1⟩
  | fn1 c x =>
    simp
    refine wp_compI (fun i acc μ' => acc = ([x].take i).map Mt.d ∧ Ex μ μ' ∧ μ'[μ.length]? = some (.lst acc)) ⟨rfl, Ex.push _ _, by simp⟩ ?_ ?_
    · rintro i d acc μ' hi ⟨rfl, ex, h1⟩
      have : i = 0 ∨ i = 1 := by have := (List.getElem?_eq_some_iff.mp hi).1; simp at this; omega
      rcases this with rfl | rfl
      · simp at hi
        subst hi
        simp at h1
        simp [h1]
        exact ⟨ex.set (Nat.le_refl _) _, at_set (at_lt h1) _⟩
      · simp at hi
        subst hi
        simp at h1
        simp [h1]
        exact ex
    · rintro acc μ' ⟨rfl, ex, h1⟩
      exact ⟨rfl, ex, by simpa [Mt.kids] using h1⟩
  | _ =>
    simp [Mt.kids]
    exact Ex.push _ _
def Mt.hb : Mt → Nat
  | .fail (some (.f, _)) _ => 1
  | .fail (some (.p, _)) _ => 1
  | _ => 0
theorem ht_kids (m : Mt) : m.kids.foldl (fun a k => max a (1 + k.ht)) m.hb = m.ht := by
  cases m with
  | fail q b => rcases q with _ | ⟨g, l⟩ <;> first | rfl | (rcases g with g | _ | _ <;> rfl)
  | fn c x y | pr c x y => simp [Mt.kids, Mt.hb, Mt.ht] <;> omega
  | fn1 c x => simp [Mt.kids, Mt.hb, Mt.ht]
  | _ => rfl
theorem gd_in (g : Gd) : copG (gN fs g0 n) .in_ (.str g.s) (.tup [.str [102, 117, 110], .str [112, 97, 105, 114]]) μ = .ok (.bl (decide (g = .f) || decide (g = .p))) μ := by
  rw [cop_own (by rfl)]
  rcases g with g | _ | _
  · cases g <;> simp [cop, inD, itemsOf, flat, D.eqv, Gd.s, Bs.s]
  · simp [cop, inD, itemsOf, flat, D.eqv, Gd.s]
  · simp [cop, inD, itemsOf, flat, D.eqv, Gd.s]
theorem kid_dp {m k : Mt} (h : k ∈ m.kids) : k.dp + 1 ≤ m.dp := by
  cases m <;> simp [Mt.kids] at h
  · rcases h with rfl | rfl <;> simp [Mt.dp] <;> omega
  · subst h; simp [Mt.dp]; omega
  · rcases h with rfl | rfl <;> simp [Mt.dp] <;> omega
theorem sp_tht [HasF fs g0 C.f_parts_of] [HasF fs g0 C.f_tree_height] : ∀ (N : Nat) (m : Mt) (n : Nat) (μ : Store), m.dp ≤ N → m.ht ≤ 1000 → m.dp + 2 ≤ n → ((gN fs g0 n).callF "tree_height" [m.d] μ).Wp (fun d μ' => d = .int m.ht ∧ Ex μ μ') noE := by
  intro N
  induction N with
  | zero => intro m n μ h; have : 1 ≤ m.dp := by cases m <;> simp [Mt.dp]
            omega
  | succ N ih =>
    intro m n μ hN hh hn
    have e1 := fun (m : Mt) (μ : Store) => mt_eq (fs := fs) (g0 := g0) (n := n - 1) (μ := μ) m [102, 97, 105, 108] (by decide)
    refine wp_callF (f := C.f_tree_height) rfl rfl (by omega) ?_
    simp only [C.f_tree_height, C.b_tree_height, startE, List.map]
    have rest : ∀ (μ1 : Store), Ex μ μ1 → (Ss.den (gN fs g0 (n - 1)) none (match C.b_tree_height with
        | .cons _ (.cons _ r) => r
        | _ => .nil) [some m.d, some (.int m.hb), none, none] μ1).Wp { N := fun _ _ => False, T := fun d μ' => d = .int m.ht ∧ Ex μ μ' } := by
      intro μ1 ex1
      simp only [C.b_tree_height]
      simp [ws_for]
      refine (sp_parts m (by omega)).to ?_
      rintro d μ2 ⟨rfl, ex2, h2⟩
      simp [h2]
      refine wp_forL (ds := m.kids.map Mt.d) (fun i ρ μ' => Ex μ2 μ' ∧ ∃ x y, ρ = [some m.d, some (.int ((m.kids.take i).foldl (fun a k => max a (1 + k.ht)) m.hb : Nat)), x, y]) ?_ ⟨Ex.refl _, none, none, by simp⟩ ?_ ?_
      · rintro i ρ μ' ⟨ex, _⟩
        simp [ex.at h2]
      · rintro i d ρ μ3 hi ⟨ex3, x, y, rfl⟩
        obtain ⟨k, hk, rfl⟩ : ∃ k, m.kids[i]? = some k ∧ d = k.d := by
          rw [List.getElem?_map] at hi
          cases hx : m.kids[i]? with
          | none => rw [hx] at hi; cases hi
          | some k => rw [hx] at hi; cases hi; exact ⟨k, rfl, rfl⟩
        have hd := kid_dp (List.mem_of_getElem? hk)
        have hht : k.ht ≤ 1000 := by
          have h1 : ∀ (l : List Mt) (a : Nat), k ∈ l → k.ht ≤ l.foldl (fun a k => max a (1 + k.ht)) a := by
            have mono : ∀ (l : List Mt) (a : Nat), a ≤ l.foldl (fun a k => max a (1 + k.ht)) a := by
              intro l
              induction l with
              | nil => intro a; simp
              | cons z l ih2 => intro a; have := ih2 (max a (1 + z.ht)); simp only [List.foldl_cons]; omega
            intro l
            induction l with
            | nil => intro a h; cases h
            | cons z l ih2 =>
              intro a h
              simp only [List.foldl_cons]
              rcases List.mem_cons.mp h with rfl | h
              · have := mono l (max a (1 + k.ht)); omega
              · exact ih2 _ h
          have := h1 m.kids m.hb (List.mem_of_getElem? hk)
          rw [ht_kids] at this
          omega
        simp
        refine (ih k (n - 1) μ3 (by omega) hht (by omega)).to ?_
        rintro d μ4 ⟨rfl, ex4⟩
        simp
        have et : (m.kids.take (i + 1)).foldl (fun a k => max a (1 + k.ht)) m.hb = max ((m.kids.take i).foldl (fun a k => max a (1 + k.ht)) m.hb) (1 + k.ht) := by
          rw [List.take_add_one, hk]
          simp
        rw [et]
        generalize (m.kids.take i).foldl (fun a k => max a (1 + k.ht)) m.hb = hi' at *
        by_cases hc : hi' < 1 + k.ht
        · have hc' : (hi' : Int) < 1 + (k.ht : Int) := by omega
          simp [hc']
          exact ⟨ex3.trans ex4, by omega⟩
        · have hc' : ¬ (hi' : Int) < 1 + (k.ht : Int) := by omega
          simp [hc']
          exact ⟨ex3.trans ex4, by omega⟩
      · rintro ρ μ3 ⟨ex3, x, y, rfl⟩
        simp [ht_kids]
        exact (ex1.trans ex2).trans ex3
    simp only [C.b_tree_height] at rest
    simp [-ws_iff]
    rw [ws_iff]
    simp [e1, w_fail, -ws_iff]
    cases m with
    | fail q b =>
      rcases q with _ | ⟨g, l⟩
      · simp [Mt.isF, Mt.d, atI, ixN, -ws_iff]
        exact (rest μ (Ex.refl _)).imp (fun _ _ z => z.elim) (fun _ _ z => z) (fun _ _ z => z.elim) (fun _ _ z => z.elim) (fun _ _ _ z => z.elim)
      · have hr := rest
        have gin := gd_in (fs := fs) (g0 := g0) (n := n - 1) (μ := μ) g
        simp [Mt.isF, Mt.d, atI, ixN, gin, -ws_iff]
        rcases g with g | _ | _ <;> simp [-ws_iff]
        · exact (rest μ (Ex.refl _)).imp (fun _ _ z => z.elim) (fun _ _ z => z) (fun _ _ z => z.elim) (fun _ _ z => z.elim) (fun _ _ _ z => z.elim)
        · exact (rest μ (Ex.refl _)).imp (fun _ _ z => z.elim) (fun _ _ z => z) (fun _ _ z => z.elim) (fun _ _ z => z.elim) (fun _ _ _ z => z.elim)
        · exact (rest μ (Ex.refl _)).imp (fun _ _ z => z.elim) (fun _ _ z => z) (fun _ _ z => z.elim) (fun _ _ z => z.elim) (fun _ _ _ z => z.elim)
    | _ =>
      simp [Mt.isF, -ws_iff]
      exact (rest μ (Ex.refl _)).imp (fun _ _ z => z.elim) (fun _ _ z => z) (fun _ _ z => z.elim) (fun _ _ z => z.elim) (fun _ _ _ z => z.elim)
end
end Pn
end

section
set_option linter.all false
set_option autoImplicit false
set_option maxHeartbeats 4000000
set_option maxRecDepth 10000
/-! Plain Lean: casts; middles as objects. -/
namespace Pn
open Py
section
variable {fs : List FD} {g0 : Gs} {n : Nat} {μ : Store}
/-! ### plain data -/
theorem oS_deep {c : Option S} (h : okO c = true) (k : Nat) : D.deep k (oS c) := by
  cases c with
  | none => cases k <;> simp [oS, D.deep]
  | some s =>
    simp [okO] at h
    have : s.length ≤ line := by simp; omega
    cases k <;> simp only [oS, D.deep] <;> exact ⟨h.1, this⟩
theorem str_deep {s : S} (h : okS s = true ∧ s.length ≤ line) (k : Nat) : D.deep k (.str s) := by
  cases k <;> simp only [D.deep] <;> exact h
theorem mt_deep (m : Mt) : ∀ k, m.ok = true → m.dp + 1 ≤ k → D.deep k m.d := by
  induction m with
  | any => intro k _ hk; obtain ⟨k, rfl⟩ : ∃ j, k = j + 1 := ⟨k - 1, by simp [Mt.dp] at hk; omega⟩
           simp only [Mt.d, D.deep, D.deeps]
           exact ⟨by simp, str_deep (by decide) k, trivial⟩
  | base g c =>
    intro k h hk; obtain ⟨k, rfl⟩ : ∃ j, k = j + 1 := ⟨k - 1, by simp [Mt.dp] at hk; omega⟩
    simp only [Mt.d, D.deep, D.deeps]
    exact ⟨by simp, str_deep (by decide) k, str_deep (by cases g <;> decide) k, oS_deep h _, trivial⟩
  | fail q bl =>
    intro k h hk; obtain ⟨k, rfl⟩ : ∃ j, k = j + 2 := ⟨k - 2, by simp [Mt.dp] at hk; omega⟩
    cases q with
    | none =>
      simp [Mt.ok] at h
      simp only [Mt.d, D.deep, D.deeps]
      exact ⟨by simp, str_deep (by decide) (k+1), by simp [D.deep], oS_deep h (k+1), trivial⟩
    | some q =>
      simp [Mt.ok] at h
      have h1 := oS_deep h.1 k
      simp only [oS] at h1
      simp only [Mt.d, D.deep, D.deeps]
      exact ⟨by simp, str_deep (by decide) (k+1), ⟨by simp, str_deep q.1.s_ok k, h1, trivial⟩, oS_deep h.2 (k+1), trivial⟩
  | fn c x y hx hy | pr c x y hx hy =>
    intro k h hk; obtain ⟨k, rfl⟩ : ∃ j, k = j + 1 := ⟨k - 1, by simp [Mt.dp] at hk; omega⟩
    simp [Mt.ok] at h
    simp [Mt.dp] at hk
    simp only [Mt.d, D.deep, D.deeps]
    exact ⟨by simp, str_deep (by decide) k, oS_deep h.1 _, hx _ h.2.1 (by omega), hy _ h.2.2 (by omega), trivial⟩
  | fn1 c x hx =>
    intro k h hk; obtain ⟨k, rfl⟩ : ∃ j, k = j + 1 := ⟨k - 1, by simp [Mt.dp] at hk; omega⟩
    simp [Mt.ok] at h
    simp [Mt.dp] at hk
    simp only [Mt.d, D.deep, D.deeps]
    exact ⟨by simp, str_deep (by decide) k, oS_deep h.1 _, hx _ h.2.1 (by omega), by cases k <;> simp [D.deep], trivial⟩
theorem Gd.eqv (g g' : Gd) : (g.s == g'.s) = decide (g = g') := by
  rw [Bool.eq_iff_iff]
  simp
  exact ⟨Gd.s_inj, fun h => by rw [h]⟩
theorem Bs.eqv (g g' : Bs) : (g.s == g'.s) = decide (g = g') := by
  cases g <;> cases g' <;> decide
theorem eqv_tup (a b : List D) : D.eqv (.tup a) (.tup b) = D.eqvs a b := by simp only [D.eqv]
theorem eqv_str (a b : S) : D.eqv (.str a) (.str b) = (a == b) := by simp only [D.eqv]
theorem eqvs_cons (a b : D) (r s : List D) : D.eqvs (a :: r) (b :: s) = (D.eqv a b && D.eqvs r s) := by simp only [D.eqvs]
theorem eqvs_nil : D.eqvs [] [] = true := by simp only [D.eqvs]
theorem eqvs_n1 (a : D) (r : List D) : D.eqvs (a :: r) [] = false := by simp only [D.eqvs]
theorem eqvs_n2 (a : D) (r : List D) : D.eqvs [] (a :: r) = false := by simp only [D.eqvs]
theorem eqv_nn : D.eqv .non .non = true := by simp only [D.eqv]
theorem mt_nn (m : Mt) : D.eqv m.d .non = false ∧ D.eqv .non m.d = false := by cases m <;> simp [Mt.d, D.eqv]
theorem mt_eqv (m : Mt) : ∀ n : Mt, D.eqv m.d n.d = decide (m = n) := by
  induction m with
  | fail q b =>
    intro n
    cases n with
    | fail q2 b2 =>
      rcases q with _ | ⟨g, l⟩ <;> rcases q2 with _ | ⟨g2, l2⟩ <;> simp [Mt.d, D.eqv, D.eqvs, oS_eqv, Gd.eqv, Bool.and_assoc]
      try (rw [Bool.eq_iff_iff]; simp)
    | _ => simp [Mt.d, D.eqv, D.eqvs]
  | _ => intro n; cases n <;> simp_all [Mt.d, eqv_tup, eqv_str, eqvs_cons, eqvs_nil, eqvs_n1, eqvs_n2, oS_eqv, Gd.eqv, Bs.eqv, mt_nn, eqv_nn, -beq_iff_eq]
@[simp] theorem ins_mt (m : Mt) : insOf m.d μ = none := by cases m <;> rfl
theorem dp_ht (m : Mt) : m.dp ≤ m.ht + 1 := by
  induction m with
  | fail q b => rcases q with _ | ⟨g | _ | _, l⟩ <;> simp [Mt.dp, Mt.ht]
  | _ => simp [Mt.dp, Mt.ht] <;> omega
theorem mt_eqD {a b : Mt} (ha : a.ok = true) (hb : b.ok = true) (h1 : a.dp ≤ 59) (h2 : b.dp ≤ 59) : eqD a.d b.d μ = .ok (decide (a = b)) μ := by
  have : eqD a.d b.d μ = if a.d.plain 60 && b.d.plain 60 then .ok (D.eqv a.d b.d) μ else .bad := by
    cases a <;> cases b <;> rfl
  rw [this]
  simp [D.deep_plain _ _ (mt_deep a 60 ha (by omega)), D.deep_plain _ _ (mt_deep b 60 hb (by omega)), mt_eqv]
theorem tr_eq {a b : Mt} (ha : a.ok = true) (hb : b.ok = true) (h1 : a.dp ≤ 59) (h2 : b.dp ≤ 59) : copG (gN fs g0 n) .eq a.d b.d μ = .ok (.bl (decide (a = b))) μ := by
  rw [cop_own (ins_mt a)]
  simp [cop, mt_eqD ha hb h1 h2]
theorem tr_ne {a b : Mt} (ha : a.ok = true) (hb : b.ok = true) (h1 : a.dp ≤ 59) (h2 : b.dp ≤ 59) : copG (gN fs g0 n) .ne a.d b.d μ = .ok (.bl (!decide (a = b))) μ := by
  rw [cop_own (ins_mt a)]
  simp [cop, mt_eqD ha hb h1 h2]
/-! ### casts -/
theorem pl_h1 (s : Ki) : s.pl.h ≤ s.h - 1 := by cases s <;> simp [Ki.pl, Ki.h] <;> omega
theorem pr_h1 (s : Ki) : s.pr.h ≤ s.h - 1 := by cases s <;> simp [Ki.pr, Ki.h] <;> omega
theorem agr_symm : ∀ {a b : Ki}, a.agr b = true → b.agr a = true := by
  intro a
  induction a <;> intro b h <;> cases b <;> simp_all [Ki.agr]
def opp (l : S) : S := if pre [126] l = true then l.drop 1 else 126 :: l
def cast : Ki → S → S → Ki → Mt
  | .q, _, _, .q => .any
  | .q, l, _, .i => .base .i (some l)
  | .q, l, _, .b => .base .b (some l)
  | .q, l, _, .u => .base .u (some l)
  | .q, l, l', .f x y => .fn (some l) (cast x l' l .q) (cast .q l l' y)
  | .q, l, l', .p x y => .pr (some l) (cast .q l l' x) (cast .q l l' y)
  | .i, _, _, _ => .base .i none
  | .b, _, _, _ => .base .b none
  | .u, _, _, _ => .base .u none
  | .f x y, l, l', t => .fn none (cast t.pl l' l x) (cast y l l' t.pr)
  | .p x y, l, l', t => .pr none (cast x l l' t.pl) (cast y l l' t.pr)
termination_by s _ _ t => s.sz + t.sz
decreasing_by
  all_goals simp only [Ki.sz]
  all_goals try omega
  all_goals
    cases t <;> simp only [Ki.pl, Ki.pr, Ki.sz] <;> omega
theorem cast_id (k : Ki) : ∀ l l', cast k l l' k = k.idt := by
  induction k <;> intro l l' <;> simp_all [cast, Ki.idt, Ki.pl, Ki.pr]
@[simp] theorem recv_str {g : G} (s : S) (m : String) : recv g (.str s) m μ = if m = "startswith" ∨ m = "removeprefix" then some (.str s) else none := (rfl)
@[simp] theorem methD_str {g : G} (s : S) (m : String) (d : D) (as : List D) : methD g (.str s) d m as μ = smeth s m as μ := (rfl)
theorem sp_opp [HasF fs g0 C.f_opposite] {l : S} (h : l.length ≤ 1000) (hn : 1 ≤ n) : (gN fs g0 n).callF "opposite" [.str l] μ = .ok (.str (opp l)) μ := by
  apply eq_of_wp
  refine wp_callF (f := C.f_opposite) rfl rfl (by omega) ?_
  simp only [C.f_opposite, C.b_opposite, startE, List.map]
  simp [smeth, opp]
  by_cases hp : pre [126] l = true
  · simp only [hp, if_true, partD, part, slc]
    have : l.length ≤ line := by simp; omega
    have h0 : l ≠ [] := by rintro rfl; revert hp; decide
    have h1 : 1 ≤ l.length := by cases l <;> simp at h0 ⊢
    have e1 : sIx l.length 0 (some 1) = 1 := by simp [sIx]; omega
    have e2 : sIx l.length l.length none = l.length := by simp [sIx]
    simp [this, cut, e1, e2, hp]
    rw [List.take_of_length_le (by simp)]
  · have : 1 + l.length ≤ line := by simp; omega
    rw [bopG]
    simp [hp, insOf, bop]
    omega
theorem sp_cast [HasF fs g0 C.f_opposite] [HasF fs g0 C.f_opened] [HasF fs g0 C.f_cast_tree] [GSub g0 "str" "tuple" false] [GSub g0 "tuple" "tuple" true] (N : Nat) : ∀ (s : Ki) (l l' : S) (t : Ki) (n : Nat) (μ : Store), s.sz + t.sz ≤ N → s.agr t = true → s.h ≤ 60 → t.h ≤ 60 → opp l = l' → opp l' = l → l.length ≤ 1000 → l'.length ≤ 1000 → max s.h t.h + 3 ≤ n →
    (gN fs g0 n).callF "cast_tree" [s.d, .str l, t.d] μ = .ok (cast s l l' t).d μ := by
  induction N with
  | zero => intro s l l' t n μ h; have : 1 ≤ s.sz := s.sz_pos
            omega
  | succ N ih =>
    intro s l l' t n μ hN ha hs ht ho ho' hl hl' hn
    have hqs := fun (n : Nat) (μ : Store) => ki_q (fs := fs) (g0 := g0) (n := n) (μ := μ) s hs
    have hqt := fun (n : Nat) (μ : Store) => ki_q (fs := fs) (g0 := g0) (n := n) (μ := μ) t ht
    simp only [str_q] at hqs hqt
    have op := fun (s : Ki) (g : Gd) (hg : g = .f ∨ g = .p) (hs : s.h ≤ 60) (μ : Store) => sp_opened (fs := fs) (g0 := g0) (n := n - 1) (μ := μ) s g hg hs (by omega)
    have o1 := fun (s : Ki) (hs : s.h ≤ 60) (μ : Store) => op s .f (.inl rfl) hs μ
    have o2 := fun (s : Ki) (hs : s.h ≤ 60) (μ : Store) => op s .p (.inr rfl) hs μ
    simp only [Gd.s] at o1 o2
    have opp1 := fun (μ : Store) => sp_opp (fs := fs) (g0 := g0) (n := n - 1) (μ := μ) hl (by omega)
    rw [ho] at opp1
    apply eq_of_wp
    refine wp_callF (f := C.f_cast_tree) rfl rfl (by omega) ?_
    simp only [C.f_cast_tree, C.b_cast_tree, startE, List.map]
    simp [hqs, hqt]
    cases s with
    | q =>
      cases t with
      | f x y =>
        simp only [Ki.h, Ki.sz] at hs ht hn hN
        have j1 := fun μ => ih x l' l .q (n - 1) μ (by simp only [Ki.sz]; omega) (by cases x <;> rfl) (by omega) (by simp [Ki.h]) ho' ho hl' hl (by simp [Ki.h]; omega)
        have j2 := fun μ => ih .q l l' y (n - 1) μ (by simp only [Ki.sz]; omega) (by cases y <;> rfl) (by simp [Ki.h]) (by omega) ho ho' hl hl' (by simp [Ki.h]; omega)
        simp [Ki.isT, o1 .q (by simp [Ki.h]), o1 (.f x y) (by simp only [Ki.h]; omega), Ki.op, opp1, j1, j2, cast, Mt.d, oS]
      | p x y =>
        simp only [Ki.h, Ki.sz] at hs ht hn hN
        have j1 := fun μ => ih .q l l' x (n - 1) μ (by simp only [Ki.sz]; omega) (by cases x <;> rfl) (by simp [Ki.h]) (by omega) ho ho' hl hl' (by simp [Ki.h]; omega)
        have j2 := fun μ => ih .q l l' y (n - 1) μ (by simp only [Ki.sz]; omega) (by cases y <;> rfl) (by simp [Ki.h]) (by omega) ho ho' hl hl' (by simp [Ki.h]; omega)
        simp [Ki.isT, o2 .q (by simp [Ki.h]), o2 (.p x y) (by simp only [Ki.h]; omega), Ki.op, opp1, j1, j2, cast, Mt.d, oS]
      | _ => simp [Ki.isT, cast, Mt.d, Ki.d, oS, Bs.s]
    | f x y =>
      simp only [Ki.h, Ki.sz] at hs hn hN
      have h1 := pl_h1 t
      have h2 := pr_h1 t
      have agt : t.has .f = true ∧ t.pl.agr x = true ∧ y.agr t.pr = true ∧ t.pl.sz + t.pr.sz ≤ t.sz + 1 := by
        cases t <;> simp [Ki.agr] at ha <;> simp [Ki.has, Ki.pl, Ki.pr, Ki.sz]
        · exact ⟨by cases x <;> rfl, by cases y <;> rfl⟩
        · exact ⟨agr_symm ha.1, ha.2, by omega⟩
      have p1 := t.pl.sz_pos
      have p2 := t.pr.sz_pos
      have j1 := fun μ => ih t.pl l' l x (n - 1) μ (by omega) agt.2.1 (by omega) (by omega) ho' ho hl' hl (by omega)
      have j2 := fun μ => ih y l l' t.pr (n - 1) μ (by omega) agt.2.2.1 (by omega) (by omega) ho ho' hl hl' (by omega)
      have o1t : ∀ μ, (gN fs g0 (n - 1)).callF "opened" [t.d, .str [102, 117, 110]] μ = .ok (Ki.f t.pl t.pr).d μ := fun μ => by rw [o1 t ht μ, op_f agt.1]
      have o1s : ∀ μ, (gN fs g0 (n - 1)).callF "opened" [(Ki.f x y).d, .str [102, 117, 110]] μ = .ok (Ki.f x y).d μ := fun μ => by rw [o1 (.f x y) (by simp only [Ki.h]; omega) μ]; rfl
      simp [Ki.isT, o1s, o1t, opp1, j1, j2, cast, Mt.d, oS]
    | p x y =>
      simp only [Ki.h, Ki.sz] at hs hn hN
      have h1 := pl_h1 t
      have h2 := pr_h1 t
      have agt : t.has .p = true ∧ x.agr t.pl = true ∧ y.agr t.pr = true ∧ t.pl.sz + t.pr.sz ≤ t.sz + 1 := by
        cases t <;> simp [Ki.agr] at ha <;> simp [Ki.has, Ki.pl, Ki.pr, Ki.sz]
        · exact ⟨by cases x <;> rfl, by cases y <;> rfl⟩
        · exact ⟨ha.1, ha.2, by omega⟩
      have p1 := t.pl.sz_pos
      have p2 := t.pr.sz_pos
      have j1 := fun μ => ih x l l' t.pl (n - 1) μ (by omega) agt.2.1 (by omega) (by omega) ho ho' hl hl' (by omega)
      have j2 := fun μ => ih y l l' t.pr (n - 1) μ (by omega) agt.2.2.1 (by omega) (by omega) ho ho' hl hl' (by omega)
      have o1t : ∀ μ, (gN fs g0 (n - 1)).callF "opened" [t.d, .str [112, 97, 105, 114]] μ = .ok (Ki.p t.pl t.pr).d μ := fun μ => by rw [o2 t ht μ, op_p agt.1]
      have o1s : ∀ μ, (gN fs g0 (n - 1)).callF "opened" [(Ki.p x y).d, .str [112, 97, 105, 114]] μ = .ok (Ki.p x y).d μ := fun μ => by rw [o2 (.p x y) (by simp only [Ki.h]; omega) μ]; rfl
      simp [Ki.isT, o1s, o1t, opp1, j1, j2, cast, Mt.d, oS]
    | _ => simp [Ki.isT, cast, Mt.d, Ki.d, oS, Bs.s]
theorem idt_ok (k : Ki) : k.idt.ok = true := by induction k <;> simp_all [Ki.idt, Mt.ok, okO]
theorem agr_rf (k : Ki) : k.agr k = true := by induction k <;> simp_all [Ki.agr]
theorem sp_idt [HasF fs g0 C.f_opposite] [HasF fs g0 C.f_opened] [HasF fs g0 C.f_cast_tree] [HasF fs g0 C.f_identity_tree] [GSub g0 "str" "tuple" false] [GSub g0 "tuple" "tuple" true] (k : Ki) (hk : k.h ≤ 60) (hn : k.h + 4 ≤ n) :
    (gN fs g0 n).callF "identity_tree" [k.d] μ = .ok k.idt.d μ := by
  apply eq_of_wp
  refine wp_callF (f := C.f_identity_tree) rfl rfl (by omega) ?_
  simp only [C.f_identity_tree, C.b_identity_tree, startE, List.map]
  have := sp_cast (fs := fs) (g0 := g0) _ k [120] [126, 120] k (n - 1) μ (Nat.le_refl _) (agr_rf k) hk hk (by decide) (by decide) (by decide) (by decide) (by omega)
  simp [this, cast_id]
/-! ### middles -/
@[simp] theorem wp_callv {g : G} {h : Option X} {ρ : Env} {P : D → Store → Prop} {E0 : X → Store → Prop} (i : Nat) (es : Es) : (E.den g h (.callv i es) ρ μ).Wp P E0 = (getV ρ i μ).Wp (fun d μ => (match d with
    | .cls c => (g.init c).isSome = true ∧ (Es.den g h es ρ μ).Wp (fun ds μ => (newD g c ds μ).Wp P E0) E0
    | _ => False)) E0 := by
  simp only [E.den, R.Wp_bind]
  refine congrArg (fun z => (getV ρ i μ).Wp z E0) ?_
  funext d μ
  cases d with
  | cls c => simp
  | _ => simp
theorem setIR_lst {g : G} {l : Nat} {ds : List D} (hl : μ[l]? = some (.lst ds)) (k : Int) (v : D) : setIR g (.obj l) (.int k) v μ = match ixN ds.length k with
    | some j => .ok .non (μ.set l (.lst (ds.set j v)))
    | none => .bad := by
  unfold setIR
  simp only [insOf_obj, hl, setID]
  cases ixN ds.length k <;> rfl
@[simp] theorem setIR_obj {g : G} (l : Nat) (k v : D) : setIR g (.obj l) k v μ = match μ[l]? with
    | some (.ins c _) => (match g.meth c "__setitem__" with
      | some key => if g.nsq c = true then g.callF key [.obj l, k, v] μ else .bad
      | none => .bad)
    | _ => (match setID (.obj l) k v μ with
      | some μ' => .ok .non μ'
      | none => .bad) := by
  unfold setIR
  simp only [insOf_obj]
  cases h : μ[l]? with
  | none => rfl
  | some o => cases o <;> rfl
@[simp] theorem ws_setI {g : G} {h : Option X} {ρ : Env} {k : Kt} (o i e : E) (r : Ss) : (Ss.den g h (.cons (.setI o i e) r) ρ μ).Wp k = (E.den g h e ρ μ).Wp (fun v μ => (E.den g h o ρ μ).Wp (fun d μ => (E.den g h i ρ μ).Wp (fun j μ => (setIR g d j v μ).Wp (fun _ μ => (Ss.den g h r ρ μ).Wp k) fun x μ => k.E x ρ μ) fun x μ => k.E x ρ μ) fun x μ => k.E x ρ μ) fun x μ => k.E x ρ μ := by
  simp only [Ss.den, St.den, SR.Wp_seq, R.Wp_st]
  refine R.Wp_congr fun _ _ => ?_
  rw [R.Wp_st]
  refine R.Wp_congr fun _ _ => ?_
  rw [R.Wp_st]
  refine R.Wp_congr fun _ _ => ?_
  rw [R.Wp_st]
  with_unfolding_all rfl
@[simp] theorem setID_obj (l : Nat) (k : Int) (v : D) : setID (.obj l) (.int k) v μ = match μ[l]? with
    | some (.lst ds) => (match ixN ds.length k with
      | some j => some (μ.set l (.lst (ds.set j v)))
      | none => none)
    | _ => none := (rfl)
def MiAt (μ : Store) (i : Nat) (s : Ki) (m : Mt) (t : Ki) : Prop := ∃ a b, μ[i]? = some (.ins "Middle" [("source", .obj a), ("tree", m.d), ("target", .obj b)]) ∧ KiAt μ a s ∧ KiAt μ b t
/-- it is a middle -/
structure Fit (a : Ki) (m : Mt) (b : Ki) : Prop where
  s : a.h ≤ 8
  t : b.h ≤ 8
  ht : m.ht ≤ 8
  ok : m.ok = true
  fit : m.fits a b = true
theorem Fit.dp {s t : Ki} {m : Mt} (h : Fit s m t) : m.dp ≤ 9 := by have := dp_ht m; have := h.ht; omega
theorem Fit.join {s t u : Ki} {m n : Mt} (h : Fit s m t) (h' : Fit t n u) : Fit s (m.join n) u :=
  ⟨h.s, h'.t, Nat.le_trans (ht_join _ m n (Nat.le_refl _)) (by have := h.ht; have := h'.ht; omega), ok_join _ m n (Nat.le_refl _) h.ok h'.ok, fits_join _ m n s t u (Nat.le_refl _) h.fit h'.fit⟩
theorem Fit.id {k : Ki} (h : k.h ≤ 8) : Fit k k.idt k := ⟨h, h, by rw [idt_ht]; exact h, idt_ok k, idt_fits k⟩
theorem MiAt.ex {μ μ' : Store} {i : Nat} {s t : Ki} {m : Mt} (h : MiAt μ i s m t) (e : Ex μ μ') : MiAt μ' i s m t := by
  obtain ⟨a, b, h1, h2, h3⟩ := h
  exact ⟨a, b, e.at h1, e.at h2, e.at h3⟩
section
variable [HasF fs g0 C.f_ground_of] [HasF fs g0 C.f_check_of] [HasF fs g0 C.f_has_ground] [HasF fs g0 C.f_opened] [HasF fs g0 C.f_fits_tree] [HasF fs g0 C.f_parts_of] [HasF fs g0 C.f_tree_height] [HasF fs g0 C.f_Middle___init__]
  [GSub g0 "str" "tuple" false] [GSub g0 "tuple" "tuple" true] [GInit g0 "Middle" "Middle.__init__"] [GCval g0 "Kind" "LIMIT" (.int 8)] [GFld g0 "Middle" "source"] [GFld g0 "Middle" "tree"] [GFld g0 "Middle" "target"] [GFld g0 "Kind" "tree"] [NProp g0 "Kind" "tree"] [NProp g0 "Middle" "source"] [NProp g0 "Middle" "tree"] [NProp g0 "Middle" "target"]
theorem sp_newMi {a b : Nat} {s t : Ki} {m : Mt} (ha : KiAt μ a s) (hb : KiAt μ b t) (h : Fit s m t) (hn : 14 ≤ n) :
    (newD (gN fs g0 n) "Middle" [.obj a, m.d, .obj b] μ).Wp (fun d μ' => d = .obj μ.length ∧ Ex μ μ' ∧ MiAt μ' μ.length s m t) noE := by
  have hd := h.dp
  have h1 := h.ht
  have h2 := h.s
  have h3 := h.t
  simp [newD_eq]
  refine wp_callF (f := C.f_Middle___init__) rfl rfl (by omega) ?_
  simp only [C.f_Middle___init__, C.b_Middle___init__, startE, List.map]
  simp
  refine (sp_tht m.dp m _ _ (Nat.le_refl _) (by omega) (by omega)).to ?_
  rintro d μ' ⟨rfl, ex⟩
  have : ¬ (8 : Int) < m.ht := by omega
  have e0 : μ'[μ.length]? = some (.ins "Middle" []) := ex.at (by simp)
  have fa : KiAt μ' a s := ((Ex.push _ _).trans ex).at ha
  have fb : KiAt μ' b t := ((Ex.push _ _).trans ex).at hb
  have fa' := fa
  have fb' := fb
  unfold KiAt at fa' fb'
  have ft := fun μ => sp_fits (fs := fs) (g0 := g0) m s t (n - 1) μ h.ok (by omega) (by omega) (by omega)
  simp [this, fa', fb', ft, h.fit, e0, putF]
  have l0 := at_lt e0
  have na : a ≠ μ.length := by have := at_lt ha; omega
  have nb : b ≠ μ.length := by have := at_lt hb; omega
  simp [List.getElem?_set, l0]
  refine ⟨((Ex.push _ _).trans ex).set (Nat.le_refl _) _, a, b, at_set l0 _, ?_, ?_⟩
  · unfold KiAt
    rw [List.getElem?_set_ne (Ne.symm na)]
    exact fa
  · unfold KiAt
    rw [List.getElem?_set_ne (Ne.symm nb)]
    exact fb
end
section
variable [HasF fs g0 C.f_ground_of] [HasF fs g0 C.f_check_of] [HasF fs g0 C.f_has_ground] [HasF fs g0 C.f_opened] [HasF fs g0 C.f_fits_tree] [HasF fs g0 C.f_parts_of] [HasF fs g0 C.f_tree_height] [HasF fs g0 C.f_Middle___init__]
  [GSub g0 "str" "tuple" false] [GSub g0 "tuple" "tuple" true] [GInit g0 "Middle" "Middle.__init__"] [GCval g0 "Kind" "LIMIT" (.int 8)] [GFld g0 "Middle" "source"] [GFld g0 "Middle" "tree"] [GFld g0 "Middle" "target"] [GFld g0 "Kind" "tree"] [NProp g0 "Kind" "tree"] [NProp g0 "Middle" "source"] [NProp g0 "Middle" "tree"] [NProp g0 "Middle" "target"]
theorem sp_idMi [HasF fs g0 C.f_opposite] [HasF fs g0 C.f_cast_tree] [HasF fs g0 C.f_identity_tree] [HasF fs g0 C.f_Middle_identity] {a : Nat} {k : Ki} (ha : KiAt μ a k) (hk : k.h ≤ 8) (hn : 16 ≤ n) :
    ((gN fs g0 n).callF "Middle.identity" [.cls "Middle", .obj a] μ).Wp (fun d μ' => d = .obj μ.length ∧ Ex μ μ' ∧ MiAt μ' μ.length k k.idt k) noE := by
  refine wp_callF (f := C.f_Middle_identity) rfl rfl (by omega) ?_
  simp only [C.f_Middle_identity, C.b_Middle_identity, startE, List.map]
  have h1 := fun μ => sp_idt (fs := fs) (g0 := g0) (n := n - 1) (μ := μ) k (by omega) (by omega)
  have ha' := ha
  unfold KiAt at ha'
  simp [ha', h1]
  exact sp_newMi ha ha (Fit.id hk) (by omega)
omit [HasF fs g0 C.f_ground_of] [HasF fs g0 C.f_check_of] [HasF fs g0 C.f_has_ground] [HasF fs g0 C.f_opened] [HasF fs g0 C.f_fits_tree] [HasF fs g0 C.f_parts_of] [HasF fs g0 C.f_tree_height] [HasF fs g0 C.f_Middle___init__] [GInit g0 "Middle" "Middle.__init__"] [GCval g0 "Kind" "LIMIT" (.int 8)] in
theorem sp_eqMi [HasF fs g0 C.f_Kind___eq__] [GMeth g0 "Kind" "__eq__" "Kind.__eq__"] [GSub g0 "Kind" "Kind" true] [GIns g0 "Kind"] [HasF fs g0 C.f_Middle___eq__] [GMeth g0 "Middle" "__eq__" "Middle.__eq__"] [GSub g0 "Middle" "Middle" true] [GIns g0 "Middle"] {i j : Nat} {s t s' t' : Ki} {m m' : Mt} (hi : MiAt μ i s m t) (hj : MiAt μ j s' m' t')
    (h : Fit s m t) (h' : Fit s' m' t') (hn : 2 ≤ n) : copG (gN fs g0 n) .eq (.obj i) (.obj j) μ = .ok (.bl (decide (s = s') && (decide (m = m') && decide (t = t')))) μ := by
  obtain ⟨a, b, i1, i2, i3⟩ := hi
  obtain ⟨a', b', j1, j2, j3⟩ := hj
  have b1 := h.s
  have b2 := h.t
  have b3 := h'.s
  have b4 := h'.t
  have b5 := h.dp
  have b6 := h'.dp
  have e : (gN fs g0 n).callF "Middle.__eq__" [.obj i, .obj j] μ = .ok (.bl (decide (s = s') && (decide (m = m') && decide (t = t')))) μ := by
    apply eq_of_wp
    refine wp_callF (f := C.f_Middle___eq__) rfl rfl (by omega) ?_
    simp only [C.f_Middle___eq__, C.b_Middle___eq__, startE, List.map]
    have k1 := ko_eq (fs := fs) (g0 := g0) (n := n - 1) i2 j2 (by omega) (by omega) (by omega)
    have k2 := ko_eq (fs := fs) (g0 := g0) (n := n - 1) i3 j3 (by omega) (by omega) (by omega)
    have k3 := tr_eq (fs := fs) (g0 := g0) (n := n - 1) (μ := μ) h.ok h'.ok (by omega) (by omega)
    simp [isi_ins j1, i1, j1, k1, k2, k3]
    by_cases q1 : s = s' <;> by_cases q2 : m = m' <;> simp [q1, q2, Bool.and_assoc]
  simp [copG, i1, j1, CO.isB, CO.dun, e]
theorem sp_shr [HasF fs g0 C.f_blamed_by] [HasF fs g0 C.f_failure] [HasF fs g0 C.f_join_trees] [HasF fs g0 C.f_Kind___eq__] [GMeth g0 "Kind" "__eq__" "Kind.__eq__"] [NMeth g0 "Kind" "__ne__"] [GDne g0 "Kind"] [GSub g0 "Kind" "Kind" true] [GIns g0 "Kind"] [HasF fs g0 C.f_Middle___rshift__] [GMeth g0 "Middle" "__rshift__" "Middle.__rshift__"] [GSub g0 "Middle" "Middle" true] [GIns g0 "Middle"] {i j : Nat} {s t u : Ki} {m m' : Mt} (hi : MiAt μ i s m t) (hj : MiAt μ j t m' u)
    (h : Fit s m t) (h' : Fit t m' u) (hn : 15 ≤ n) : (bopG (gN fs g0 n) .shr (.obj i) (.obj j) μ).Wp (fun d μ' => d = .obj μ.length ∧ Ex μ μ' ∧ MiAt μ' μ.length s (m.join m') u) noE := by
  obtain ⟨a, b, i1, i2, i3⟩ := hi
  obtain ⟨a', b', j1, j2, j3⟩ := hj
  have b1 := h.s
  have b2 := h.t
  have b4 := h'.t
  have b5 := h.dp
  have b6 := h'.dp
  have hc := Fit.join h h'
  simp [bopG, i1, j1, BO.dun]
  refine wp_callF (f := C.f_Middle___rshift__) rfl rfl (by omega) ?_
  simp only [C.f_Middle___rshift__, C.b_Middle___rshift__, startE, List.map]
  have k1 : copG (gN fs g0 (n - 1)) .ne (.obj b) (.obj a') μ = .ok (.bl false) μ := by
    have := ko_eq (fs := fs) (g0 := g0) (n := n - 1) i3 j2 (by omega) (by omega) (by omega)
    unfold KiAt at i3 j2
    simp [copG, i3, j2, CO.isB, CO.dun] at this ⊢
    cases hx : (gN fs g0 (n - 1)).callF "Kind.__eq__" [.obj b, .obj a'] μ with
    | ok d μ' =>
      rw [hx] at this
      cases d <;> simp [R.bind] at this ⊢
      simp [this]
    | err => rw [hx] at this; simp [R.bind] at this
    | bad => rw [hx] at this; simp [R.bind] at this
  have k2 := sp_join (fs := fs) (g0 := g0) _ m m' (n - 1) μ (Nat.le_refl _) h.ok h'.ok (by omega)
  simp [isi_ins j1, i1, j1, k1, k2]
  exact sp_newMi i2 j3 hc (by omega)
end
end
end Pn
end

section
set_option linter.all false
set_option autoImplicit false
set_option maxHeartbeats 4000000
set_option maxRecDepth 10000
/-! Plain Lean: drawn labels, drawn trees. -/
namespace Pn
open Py
section
variable {fs : List FD} {g0 : Gs} {n : Nat} {μ : Store}
theorem okS_app (a b : S) : okS (a ++ b) = (okS a && okS b) := by simp [okS]
theorem okS_rep (c : Nat) (k : Nat) (h : okS [c] = true) : okS (List.replicate k c) = true := by
  simp [okS] at h ⊢
  exact .inr h
/-- one letter of a text -/
theorem let_at (s : S) (h : okS s = true ∧ s.length ≤ line) {i : Int} (h0 : 0 ≤ i) (h1 : i < s.length) : ∃ c, idx (.str s) (.int i) μ = .ok (.str [c]) μ ∧ okS [c] = true := by
  obtain ⟨k, rfl⟩ := Int.eq_ofNat_of_zero_le h0
  have hk : k < s.length := by omega
  refine ⟨s[k], ?_, ?_⟩
  · have : atI s (k : Int) = some s[k] := atI_some (List.getElem?_eq_getElem hk)
    simp only [idx, this]
    rw [if_pos h.2]
  · have := h.1
    unfold okS at this ⊢
    rw [List.all_eq_true] at this
    simp only [List.all_cons, List.all_nil, Bool.and_true]
    exact this _ (List.getElem_mem hk)
theorem mulS (c : Nat) {i : Int} (h0 : 0 ≤ i) (h1 : i ≤ 1000) {g : G} : bopG g .mul (.str [c]) (.int i) μ = .ok (.str (List.replicate i.toNat c)) μ := by
  show bop .mul (.str [c]) (.int i) μ = _
  simp only [bop]
  rw [if_pos ⟨h0, h1, by simp⟩]
  simp
/-- a short text -/
def Nm (L : Nat) (d : D) : Prop := ∃ s : S, d = .str s ∧ okS s = true ∧ s.length ≤ L
theorem sp_name [HasF fs g0 C.f__law_draw] [HasF fs g0 C.f__law_name] (hn : 2 ≤ n) (hd : Dr μ) : ((gN fs g0 n).callF "_law_name" [.obj 0] μ).Wp (fun d μ' => Nm 20 d ∧ Fr μ μ') noE := by
  refine wp_callF (f := C.f__law_name) rfl rfl (by omega) ?_
  simp only [C.f__law_name, C.b__law_name, startE, List.map]
  simp
  refine (sp_draw (by omega) hd (by decide)).to ?_
  rintro d μ1 ⟨i, rfl, h1, h2, fr⟩
  simp
  by_cases hi : i < 2
  · simp [hi]
    refine (sp_draw (by omega) fr.dr (by decide)).to ?_
    rintro d μ2 ⟨j, rfl, j1, j2, fr2⟩
    obtain ⟨c, e, o⟩ := let_at (μ := μ2) [112, 113, 114, 115] (by decide) j1 j2
    simp [e]
    exact ⟨⟨_, rfl, o, by simp⟩, fr.trans fr2⟩
  · simp [hi]
    refine (sp_draw (by omega) fr.dr (by decide)).to ?_
    rintro d μ2 ⟨z, rfl, z1, z2, fr2⟩
    have f2 := fr.trans fr2
    simp
    by_cases h2 : i = 2
    · simp [h2, ws_for]
      refine (sp_draw (by omega) fr2.dr (by decide)).to ?_
      rintro d μ3 ⟨j, rfl, j1, j2, fr3⟩
      obtain ⟨c, e, o⟩ := let_at (μ := μ3) [97, 98, 99, 100, 101, 102, 103, 104, 105, 106, 107, 108, 109, 110, 111, 112, 113, 114, 115, 116, 117, 118, 119, 120, 121, 122, 48, 49, 50, 51, 52, 53, 54, 55, 56, 57] (by decide) j1 (by simp; omega)
      simp [e, ws_for]
      rw [range_ok (okR_of (by decide) (by decide)) (okR_of (by omega) (by omega))]
      simp [forD]
      refine wp_forP (fun k ρ μ' => ∃ (s : S) (x y w : Option D), ρ = [some (.obj 0), some (.str [97, 98, 99, 100, 101, 102, 103, 104, 105, 106, 107, 108, 109, 110, 111, 112, 113, 114, 115, 116, 117, 118, 119, 120, 121, 122, 48, 49, 50, 51, 52, 53, 54, 55, 56, 57]), x, y, none, some (.str s), w] ∧ okS s = true ∧ s.length ≤ 1 + k ∧ Fr μ μ') ⟨[c], _, _, _, rfl, o, by simp, f2.trans fr3⟩ ?_ ?_
      · rintro k d ρ μ4 hk ⟨s, x, y, w, rfl, os, ls, fr4⟩
        obtain ⟨hk1, rfl⟩ := rints_at hk
        simp
        refine (sp_draw (by omega) fr4.dr (by decide)).to ?_
        rintro d μ5 ⟨j, rfl, j1, j2, fr5⟩
        obtain ⟨c, e, o⟩ := let_at (μ := μ5) [97, 98, 99, 100, 101, 102, 103, 104, 105, 106, 107, 108, 109, 110, 111, 112, 113, 114, 115, 116, 117, 118, 119, 120, 121, 122, 48, 49, 50, 51, 52, 53, 54, 55, 56, 57] (by decide) j1 (by simp; omega)
        simp [e]
        rw [op_cat s [c] (by simp; omega)]
        simp
        exact ⟨by rw [okS_app, os, o]; rfl, by omega, fr4.trans fr5⟩
      · rintro ρ μ4 ⟨s, x, y, w, rfl, os, ls, fr4⟩
        rw [rints_len] at ls
        simp
        exact ⟨⟨s, rfl, os, by omega⟩, fr4⟩
    · simp [h2]
      refine (sp_draw (by omega) fr2.dr (by omega)).to ?_
      rintro d μ3 ⟨j, rfl, j1, j2, fr3⟩
      simp
      rw [mulS _ j1 (by omega)]
      simp
      refine (sp_draw (by omega) fr3.dr (by decide)).to ?_
      rintro d μ4 ⟨k, rfl, k1, k2, fr4⟩
      obtain ⟨c, e, o⟩ := let_at (μ := μ4) [97, 98, 99, 100, 101, 102, 103, 104, 105, 106, 107, 108, 109, 110, 111, 112, 113, 114, 115, 116, 117, 118, 119, 120, 121, 122, 48, 49, 50, 51, 52, 53, 54, 55, 56, 57] (by decide) k1 (by simp; omega)
      simp [e]
      rw [op_cat _ _ (by simp; omega)]
      simp
      rw [mulS _ (by omega) (by omega)]
      simp
      have hl : (List.replicate j.toNat 97 ++ [c]).length + (List.replicate (1 + z - j - 1).toNat 97).length ≤ 20 := by simp; omega
      have ho : okS (List.replicate j.toNat 97 ++ [c] ++ List.replicate (1 + z - j - 1).toNat 97) = true := by rw [okS_app, okS_app, okS_rep _ _ (by decide), okS_rep _ _ (by decide), o]; rfl
      have hl2 : (List.replicate j.toNat 97 ++ [c] ++ List.replicate (1 + z - j - 1).toNat 97).length ≤ 20 := by rw [List.length_append]; exact hl
      simp only [List.append_assoc, List.singleton_append] at ho hl2 hl
      have e3 : (1 + z - j - 1).toNat = (1 + z - j).toNat - 1 := by omega
      rw [e3] at ho hl2
      rw [op_cat _ _ (by simp at hl ⊢; omega)]
      simp
      exact ⟨⟨_, rfl, ho, hl2⟩, (f2.trans fr3).trans fr4⟩
theorem sp_label [HasF fs g0 C.f__law_draw] [HasF fs g0 C.f__law_name] [HasF fs g0 C.f__law_label] (hn : 3 ≤ n) (hd : Dr μ) : ((gN fs g0 n).callF "_law_label" [.obj 0] μ).Wp (fun d μ' => Nm 40 d ∧ Fr μ μ') noE := by
  refine wp_callF (f := C.f__law_label) rfl rfl (by omega) ?_
  simp only [C.f__law_label, C.b__law_label, startE, List.map]
  simp
  refine (sp_draw (by omega) hd (by decide)).to ?_
  rintro d μ1 ⟨i, rfl, h1, h2, fr⟩
  rw [mulS _ h1 (by omega)]
  simp
  refine (sp_name (by omega) fr.dr).to ?_
  rintro d μ2 ⟨⟨s, rfl, o, l⟩, fr2⟩
  rw [op_cat _ _ (by simp; omega)]
  simp
  exact ⟨⟨_, rfl, by rw [okS_app, okS_rep _ _ (by decide), o]; rfl, by simp; omega⟩, fr.trans fr2⟩
theorem Nm.oS {L : Nat} (hL : L ≤ 100) {d : D} (h : Nm L d) : ∃ s : S, d = .str s ∧ okO (some s) = true := by
  obtain ⟨s, rfl, o, l⟩ := h
  exact ⟨s, rfl, by simp [okO, o]; omega⟩
/-! ### grounds -/
def Ki.g : Ki → Gd
  | .f _ _ => .f
  | .p _ _ => .p
  | .b => .bs .b
  | .u => .bs .u
  | _ => .bs .i
theorem sp_lhas [HasF fs g0 C.f__law_has] [GSub g0 "str" "tuple" false] [GSub g0 "tuple" "tuple" true] (s : Ki) (g : Gd) (hs : s.h ≤ 60) (hn : 1 ≤ n) : (gN fs g0 n).callF "_law_has" [s.d, .str g.s] μ = .ok (.bl (s.has g)) μ := by
  apply eq_of_wp
  refine wp_callF (f := C.f__law_has) rfl rfl (by omega) ?_
  simp only [C.f__law_has, C.b__law_has, startE, List.map]
  have hq := fun (n : Nat) (μ : Store) => ki_q (fs := fs) (g0 := g0) (n := n) (μ := μ) s hs
  simp only [str_q] at hq
  cases s with
  | f l r =>
    have := gd_eq (fs := fs) (g0 := g0) (n := n - 1) (μ := μ) .f g
    simp only [show Gd.f.s = [102, 117, 110] from rfl] at this
    simp [Ki.isT, this, Ki.has]
    exact ⟨Eq.symm, Eq.symm⟩
  | p l r =>
    have := gd_eq (fs := fs) (g0 := g0) (n := n - 1) (μ := μ) .p g
    simp only [show Gd.p.s = [112, 97, 105, 114] from rfl] at this
    simp [Ki.isT, this, Ki.has]
    exact ⟨Eq.symm, Eq.symm⟩
  | q => simp [Ki.isT, hq, Ki.has]
  | i => simp [Ki.isT, hq, ki_gd .i g rfl (by simp)]
  | b => simp [Ki.isT, hq, ki_gd .b g rfl (by simp)]
  | u => simp [Ki.isT, hq, ki_gd .u g rfl (by simp)]
theorem sp_lopen [HasF fs g0 C.f__law_open] (s : Ki) (g : Gd) (hg : g = .f ∨ g = .p) (hs : s.h ≤ 60) (hn : 1 ≤ n) : (gN fs g0 n).callF "_law_open" [s.d, .str g.s] μ = .ok (s.op g).d μ := by
  have hq := fun (n : Nat) (μ : Store) => ki_q (fs := fs) (g0 := g0) (n := n) (μ := μ) s hs
  simp only [str_q] at hq
  apply eq_of_wp
  refine wp_callF (f := C.f__law_open) rfl rfl (by omega) ?_
  simp only [C.f__law_open, C.b__law_open, startE, List.map]
  by_cases h : s = .q
  · subst h
    simp [hq]
    rcases hg with rfl | rfl <;> rfl
  · simp [hq, h]
    cases s <;> first | exact absurd rfl h | rfl
theorem sp_lfail [HasF fs g0 C.f__law_failure] (g : Gd) {c bl : Option S} (hc : okO c = true) (hb : okO bl = true) (hn : 1 ≤ n) : (gN fs g0 n).callF "_law_failure" [.str g.s, oS c, oS bl] μ = .ok (fl g c bl).d μ := by
  apply eq_of_wp
  refine wp_callF (f := C.f__law_failure) rfl rfl (by omega) ?_
  simp only [C.f__law_failure, C.b__law_failure, startE, List.map]
  cases c with
  | none => simp [fl, Mt.d]
  | some c =>
    simp [oS_eq hc hb]
    by_cases h : some c = bl <;> simp [fl, h, Mt.d, oS]
/-- a tree that is drawn -/
def Tr (N : Nat) (s t : Ki) (d : D) : Prop := ∃ m : Mt, d = m.d ∧ m.ok = true ∧ m.fits s t = true ∧ m.ht ≤ N + 1
section
variable [HasF fs g0 C.f__law_draw] [HasF fs g0 C.f__law_name] [HasF fs g0 C.f__law_label]
theorem sp_ftree [HasF fs g0 C.f__law_failure] [HasF fs g0 C.f__law_fail_tree] (s t : Ki) (hs : s.h ≤ 60) (N : Nat) (hn : 4 ≤ n) (hd : Dr μ) : ((gN fs g0 n).callF "_law_fail_tree" [.obj 0, s.d] μ).Wp (fun d μ' => Tr N s t d ∧ (∃ m : Mt, d = m.d ∧ m.isF = true) ∧ Fr μ μ') noE := by
  refine wp_callF (f := C.f__law_fail_tree) rfl rfl (by omega) ?_
  simp only [C.f__law_fail_tree, C.b__law_fail_tree, startE, List.map]
  have hq := fun (μ : Store) => ki_ne (fs := fs) (g0 := g0) (n := n - 1) (μ := μ) s .q hs (by simp [Ki.h])
  simp
  refine (sp_label (by omega) hd).to ?_
  rintro d μ1 ⟨hm, fr⟩
  obtain ⟨b, rfl, ob⟩ := hm.oS (by decide)
  simp [hq]
  by_cases h : s = .q
  · simp [h]
    refine (sp_draw (by omega) fr.dr (by decide)).to ?_
    rintro d μ2 ⟨i, rfl, i1, i2, fr2⟩
    simp
    by_cases hi : i = 0
    · simp [hi]
      exact ⟨⟨.fail none (some b), rfl, by simpa [Mt.ok] using ob, by simp [Mt.fits], by simp [Mt.ht]⟩, ⟨.fail none (some b), rfl, rfl⟩, fr.trans fr2⟩
    · simp [hi]
      have f2 := fr2.trans (Fr.push fr2.dr (.lst [.str [105, 110, 116], .str [98, 111, 111, 108], .str [117, 110, 105, 116], .str [102, 117, 110], .str [112, 97, 105, 114]]))
      refine (sp_draw (by omega) f2.dr (by decide)).to ?_
      rintro d μ3 ⟨j, rfl, j1, j2, fr3⟩
      have h0 := fr3.at (show (μ2 ++ [MO.lst [D.str [105, 110, 116], .str [98, 111, 111, 108], .str [117, 110, 105, 116], .str [102, 117, 110], .str [112, 97, 105, 114]]])[μ2.length]? = some _ by simp; rfl) (by have := fr2.dr.pos; omega)
      obtain ⟨g, eg⟩ : ∃ g : Gd, atI [D.str [105, 110, 116], .str [98, 111, 111, 108], .str [117, 110, 105, 116], .str [102, 117, 110], .str [112, 97, 105, 114]] j = some (.str g.s) := by
        have : j = 0 ∨ j = 1 ∨ j = 2 ∨ j = 3 ∨ j = 4 := by omega
        rcases this with rfl | rfl | rfl | rfl | rfl
        · exact ⟨.bs .i, rfl⟩
        · exact ⟨.bs .b, rfl⟩
        · exact ⟨.bs .u, rfl⟩
        · exact ⟨.f, rfl⟩
        · exact ⟨.p, rfl⟩
      simp [h0, eg]
      refine (sp_label (by omega) fr3.dr).to ?_
      rintro d μ4 ⟨hm, fr4⟩
      obtain ⟨c, rfl, oc⟩ := hm.oS (by decide)
      have := sp_lfail (fs := fs) (g0 := g0) (n := n - 1) (μ := μ4) g oc ob (by omega)
      simp only [oS] at this
      simp [this]
      refine ⟨⟨_, rfl, fl_ok oc ob, fl_fits _ _ _ _ _ (.inr h), ?_⟩, ⟨_, rfl, fl_isF _ _ _⟩, ((fr.trans f2).trans fr3).trans fr4⟩
      have := fl_ht g (some c) (some b)
      cases g <;> simp at this <;> omega
  · simp [h]
    exact ⟨⟨.fail none (some b), rfl, by simpa [Mt.ok] using ob, by simp [Mt.fits], by simp [Mt.ht]⟩, ⟨.fail none (some b), rfl, rfl⟩, fr⟩
theorem wp_rt {r : SR} {N' : Env → Store → Prop} {T : D → Store → Prop} (h : r.Wp { N := fun _ _ => False, T := T }) : r.Wp { N := N', T := T } :=
  h.imp (fun _ _ z => z.elim) (fun _ _ z => z) (fun _ _ z => z.elim) (fun _ _ z => z.elim) (fun _ _ _ z => z.elim)
theorem has_g {s : Ki} (h : s ≠ .q) : s.has s.g = true := by cases s <;> first | exact absurd rfl h | simp [Ki.has, Ki.g]
theorem isT_h {s : Ki} (h : s.isT = true) : 1 ≤ s.h := by cases s <;> first | (cases h; done) | (simp [Ki.h] <;> omega)
theorem g_idx {s : Ki} (h : s.isT = true) : idx s.d (.int 0) μ = .ok (.str s.g.s) μ := by cases s <;> first | (cases h; done) | rfl
theorem g_str {s : Ki} (h : s ≠ .q) (h' : s.isT = false) : s.d = .str s.g.s := by cases s <;> first | (cases h'; done) | exact absurd rfl h | rfl
theorem op_h (s : Ki) (g : Gd) : (s.op g).pl.h ≤ s.h - 1 ∧ (s.op g).pr.h ≤ s.h - 1 := by
  cases s <;> cases g <;> simp [Ki.op, Ki.pl, Ki.pr, Ki.h] <;> omega
theorem sp_ltree [HasF fs g0 C.f__law_failure] [HasF fs g0 C.f__law_fail_tree] [HasF fs g0 C.f__law_has] [HasF fs g0 C.f__law_open] [HasF fs g0 C.f__law_tree] [GSub g0 "str" "tuple" false] [GSub g0 "tuple" "tuple" true] : ∀ (N : Nat) (s t : Ki) (h : Int) (n : Nat) (μ : Store), s.h ≤ N → t.h ≤ N → h ≤ N → N ≤ 50 → N + 6 ≤ n → Dr μ →
    ((gN fs g0 n).callF "_law_tree" [.obj 0, s.d, t.d, .int h] μ).Wp (fun d μ' => Tr N s t d ∧ Fr μ μ') noE := by
  intro N
  induction N using Nat.strongRecOn with
  | _ N ih0 =>
  intro s t h n μ hs ht hh hN hn hd
  have hqs := fun (n : Nat) (μ : Store) => ki_q (fs := fs) (g0 := g0) (n := n) (μ := μ) s (by omega)
  have hqt := fun (n : Nat) (μ : Store) => ki_q (fs := fs) (g0 := g0) (n := n) (μ := μ) t (by omega)
  simp only [str_q] at hqs hqt
  have e1 := fun (m : Mt) (μ : Store) => mt_eq (fs := fs) (g0 := g0) (n := n - 1) (μ := μ) m [102, 97, 105, 108] (by decide)
  refine wp_callF (f := C.f__law_tree) rfl rfl (by omega) ?_
  simp only [C.f__law_tree, C.b__law_tree, startE, List.map]
  generalize hR3 : Ss.cons (St.iff (E.not_ ((E.var 5).isi false ["tuple"])) _ _) _ = R3
  have rest3 : ∀ (K : Ki) (w : Int) (c : Option S) (μ1 : Store), Fr μ μ1 → K ≠ .q → s.has K.g = true → t.has K.g = true → (K.isT = true → 1 ≤ N) → okO c = true → okC c s = true →
      (Ss.den (gN fs g0 (n - 1)) none R3 [some (.obj 0), some s.d, some t.d, some (.int h), some (.int w), some K.d, some (oS c), none, none, none, none] μ1).Wp { N := fun _ _ => False, T := fun d μ' => Tr N s t d ∧ Fr μ μ' } := by
    intro K w c μ1 fr kq sg tg hT oc okc
    rw [← hR3]
    cases K with
    | q => exact absurd rfl kq
    | f x y =>
      have hN1 := hT rfl
      have o1 := fun μ => sp_lopen (fs := fs) (g0 := g0) (n := n - 1) (μ := μ) s .f (.inl rfl) (by omega) (by omega)
      have o2 := fun μ => sp_lopen (fs := fs) (g0 := g0) (n := n - 1) (μ := μ) t .f (.inl rfl) (by omega) (by omega)
      rw [op_f sg] at o1
      rw [op_f tg] at o2
      simp only [Gd.s] at o1 o2
      have h1 := pl_h1 s
      have h2 := pr_h1 s
      have h3 := pl_h1 t
      have h4 := pr_h1 t
      simp [Ki.isT, o1, o2]
      refine (ih0 (N - 1) (by omega) _ _ (h - 1) (n - 1) μ1 (by omega) (by omega) (by omega) (by omega) (by omega) fr.dr).to ?_
      rintro d μ2 ⟨⟨a, rfl, oa, fa, ha⟩, fr2⟩
      simp [e1, w_fail]
      by_cases F : a.isF = true
      · simp [F]
        exact ⟨⟨.fn1 c a, rfl, by simp [Mt.ok, oc, oa, F], by simp [Mt.fits, okc, sg, tg, fa, F, show s.has .f = true from sg, show t.has .f = true from tg], by simp only [Mt.ht]; omega⟩, fr.trans fr2⟩
      · simp only [Bool.not_eq_true] at F
        simp [F]
        refine (ih0 (N - 1) (by omega) _ _ (h - 1) (n - 1) μ2 (by omega) (by omega) (by omega) (by omega) (by omega) fr2.dr).to ?_
        rintro d μ3 ⟨⟨r, rfl, or, fr', hr⟩, fr3⟩
        simp
        exact ⟨⟨.fn c a r, rfl, by simp [Mt.ok, oc, oa, or], by simp [Mt.fits, okc, fa, F, fr', show s.has .f = true from sg, show t.has .f = true from tg], by simp only [Mt.ht]; omega⟩, (fr.trans fr2).trans fr3⟩
    | p x y =>
      have hN1 := hT rfl
      have o1 := fun μ => sp_lopen (fs := fs) (g0 := g0) (n := n - 1) (μ := μ) s .p (.inr rfl) (by omega) (by omega)
      have o2 := fun μ => sp_lopen (fs := fs) (g0 := g0) (n := n - 1) (μ := μ) t .p (.inr rfl) (by omega) (by omega)
      rw [op_p sg] at o1
      rw [op_p tg] at o2
      simp only [Gd.s] at o1 o2
      have h1 := pl_h1 s
      have h2 := pr_h1 s
      have h3 := pl_h1 t
      have h4 := pr_h1 t
      simp [Ki.isT, o1, o2]
      refine (ih0 (N - 1) (by omega) _ _ (h - 1) (n - 1) μ1 (by omega) (by omega) (by omega) (by omega) (by omega) fr.dr).to ?_
      rintro d μ2 ⟨⟨a, rfl, oa, fa, ha⟩, fr2⟩
      simp
      refine (ih0 (N - 1) (by omega) _ _ (h - 1) (n - 1) μ2 (by omega) (by omega) (by omega) (by omega) (by omega) fr2.dr).to ?_
      rintro d μ3 ⟨⟨r, rfl, or, fr', hr⟩, fr3⟩
      simp
      exact ⟨⟨.pr c a r, rfl, by simp [Mt.ok, oc, oa, or], by simp [Mt.fits, okc, fa, fr', show s.has .p = true from sg, show t.has .p = true from tg], by simp only [Mt.ht]; omega⟩, (fr.trans fr2).trans fr3⟩
    | i =>
      simp [Ki.isT]
      exact ⟨⟨.base .i c, rfl, oc, by simp [Mt.fits, okc, show s.has (.bs .i) = true from sg, show t.has (.bs .i) = true from tg], by simp [Mt.ht]⟩, fr⟩
    | b =>
      simp [Ki.isT]
      exact ⟨⟨.base .b c, rfl, oc, by simp [Mt.fits, okc, show s.has (.bs .b) = true from sg, show t.has (.bs .b) = true from tg], by simp [Mt.ht]⟩, fr⟩
    | u =>
      simp [Ki.isT]
      exact ⟨⟨.base .u c, rfl, oc, by simp [Mt.fits, okc, show s.has (.bs .u) = true from sg, show t.has (.bs .u) = true from tg], by simp [Mt.ht]⟩, fr⟩
  generalize hR2 : Ss.cons (St.set (Tg.name 6) (E.lit D.non)) _ = R2
  have rest2 : ∀ (K : Ki) (w : Int) (μ1 : Store), Fr μ μ1 → K ≠ .q → s.has K.g = true → t.has K.g = true → (K.isT = true → 1 ≤ N) →
      (Ss.den (gN fs g0 (n - 1)) none R2 [some (.obj 0), some s.d, some t.d, some (.int h), some (.int w), some K.d, none, none, none, none, none] μ1).Wp { N := fun _ _ => False, T := fun d μ' => Tr N s t d ∧ Fr μ μ' } := by
    intro K w μ1 fr kq sg tg hT
    rw [← hR2]
    simp [hqs]
    by_cases q : s = .q
    · simp [q]
      refine (sp_label (by omega) fr.dr).to ?_
      rintro d μ2 ⟨hm, fr2⟩
      obtain ⟨c, rfl, oc⟩ := hm.oS (by decide)
      have := rest3 K w (some c) μ2 (fr.trans fr2) kq sg tg hT oc (by simp [okC, q])
      simp [q, oS] at this ⊢
      exact this
    · simp [q]
      exact rest3 K w none μ1 fr kq sg tg hT rfl (by simp [okC, q])
  have hns := fun (μ : Store) => ki_ne (fs := fs) (g0 := g0) (n := n - 1) (μ := μ) s .q (by omega) (by simp [Ki.h])
  have hnt := fun (μ : Store) => ki_ne (fs := fs) (g0 := g0) (n := n - 1) (μ := μ) t .q (by omega) (by simp [Ki.h])
  have hl := fun (g : Gd) (μ : Store) => sp_lhas (fs := fs) (g0 := g0) (n := n - 1) (μ := μ) t g (by omega) (by omega)
  by_cases q : s = .q
  · simp [hqs, q]
    refine (sp_draw (by omega) hd (by decide)).to ?_
    rintro d μ1 ⟨w, rfl, w1, w2, fr⟩
    subst q
    simp [hns, hqs]
    by_cases w7 : w = 7
    · simp [w7]
      refine (sp_ftree .q t (by simp [Ki.h]) N (by omega) fr.dr).to ?_
      rintro d μ2 ⟨h1, _, fr2⟩
      exact ⟨h1, fr.trans fr2⟩
    · simp [w7, hqt]
      by_cases qt : t = .q
      · simp [qt]
        subst qt
        by_cases wl : w < 2
        · simp [wl]
          exact ⟨⟨.any, rfl, rfl, by simp [Mt.fits], by simp [Mt.ht]⟩, fr⟩
        · simp [wl]
          have bas : ((gN fs g0 (n - 1)).callF "_law_draw" [D.obj 0, D.int 3] (μ1 ++ [MO.lst [D.str [105, 110, 116], D.str [98, 111, 111, 108], D.str [117, 110, 105, 116]]])).Wp (fun y μ' => ∃ K : Ki, idx (.obj μ1.length) y μ' = .ok K.d μ' ∧ K.isT = false ∧ K ≠ .q ∧ Fr μ μ') noE := by
            have f2 := Fr.push fr.dr (.lst [.str [105, 110, 116], .str [98, 111, 111, 108], .str [117, 110, 105, 116]])
            refine (sp_draw (by omega) f2.dr (by decide)).to ?_
            rintro d μ3 ⟨j, rfl, j1, j2, fr3⟩
            have h0 := fr3.at (show (μ1 ++ [MO.lst [D.str [105, 110, 116], .str [98, 111, 111, 108], .str [117, 110, 105, 116]]])[μ1.length]? = some _ by simp; rfl) (by have := fr.dr.pos; omega)
            have : j = 0 ∨ j = 1 ∨ j = 2 := by omega
            rcases this with rfl | rfl | rfl
            · exact ⟨.i, by simp [h0, atI, ixN]; rfl, rfl, by simp, (fr.trans f2).trans fr3⟩
            · exact ⟨.b, by simp [h0, atI, ixN]; rfl, rfl, by simp, (fr.trans f2).trans fr3⟩
            · exact ⟨.u, by simp [h0, atI, ixN]; rfl, rfl, by simp, (fr.trans f2).trans fr3⟩
          have tup : ((gN fs g0 (n - 1)).callF "_law_draw" [D.obj 0, D.int 2] (μ1 ++ [MO.lst [(Ki.q.f Ki.q).d, (Ki.q.p Ki.q).d]])).Wp (fun y μ' => ∃ K : Ki, idx (.obj μ1.length) y μ' = .ok K.d μ' ∧ K ≠ .q ∧ Fr μ μ') noE := by
            have f2 := Fr.push fr.dr (.lst [(Ki.q.f Ki.q).d, (Ki.q.p Ki.q).d])
            refine (sp_draw (by omega) f2.dr (by decide)).to ?_
            rintro d μ3 ⟨j, rfl, j1, j2, fr3⟩
            have h0 := fr3.at (show (μ1 ++ [MO.lst [(Ki.q.f Ki.q).d, (Ki.q.p Ki.q).d]])[μ1.length]? = some _ by simp; rfl) (by have := fr.dr.pos; omega)
            have : j = 0 ∨ j = 1 := by omega
            rcases this with rfl | rfl
            · exact ⟨.f .q .q, by simp [h0, atI, ixN], by simp, (fr.trans f2).trans fr3⟩
            · exact ⟨.p .q .q, by simp [h0, atI, ixN], by simp, (fr.trans f2).trans fr3⟩
          by_cases wb : w < 5
          · simp [wb]
            refine bas.to ?_
            rintro d μ2 ⟨K, e, kt, kq, fr2⟩
            simp [e]
            exact wp_rt (rest2 K w μ2 fr2 kq rfl rfl (by simp [kt]))
          · by_cases hb : h ≤ 0
            · simp [wb, hb]
              refine bas.to ?_
              rintro d μ2 ⟨K, e, kt, kq, fr2⟩
              simp [e]
              exact wp_rt (rest2 K w μ2 fr2 kq rfl rfl (by simp [kt]))
            · simp [wb, hb]
              refine tup.to ?_
              rintro d μ2 ⟨K, e, kq, fr2⟩
              simp [e]
              exact wp_rt (rest2 K w μ2 fr2 kq rfl rfl (fun _ => by omega))
      · simp [qt]
        exact wp_rt (rest2 t w μ1 fr qt rfl (has_g qt) (fun z => Nat.le_trans (isT_h z) ht))
  · simp [hqs, q]
    refine (sp_draw (by omega) hd (by decide)).to ?_
    rintro d μ1 ⟨w, rfl, w1, w2, fr⟩
    have ff : ((gN fs g0 (n - 1)).callF "_law_fail_tree" [D.obj 0, s.d] μ1).Wp (fun d μ' => Tr N s t d ∧ Fr μ μ') noE := by
      refine (sp_ftree s t (by omega) N (by omega) fr.dr).to ?_
      rintro d μ2 ⟨h1, _, fr2⟩
      exact ⟨h1, fr.trans fr2⟩
    simp [hns, hnt, hqs, q]
    by_cases qt : t = .q
    · subst qt
      simp
      by_cases w7 : w = 7
      · simp [w7]
        exact ff
      · simp [w7]
        exact wp_rt (rest2 s w μ1 fr q (has_g q) rfl (fun z => Nat.le_trans (isT_h z) hs))
    · simp [qt]
      by_cases hT : s.isT = true
      · simp [hT, g_idx hT, hl]
        by_cases hh2 : t.has s.g = true
        · simp [hh2]
          by_cases w7 : w = 7
          · simp [w7]
            exact ff
          · simp [w7, hqs, q]
            exact wp_rt (rest2 s w μ1 fr q (has_g q) hh2 (fun z => Nat.le_trans (isT_h z) hs))
        · simp [hh2]
          exact ff
      · simp only [Bool.not_eq_true] at hT
        have hl' := fun μ => hl s.g μ
        rw [← g_str q hT] at hl'
        simp [hT, hl']
        by_cases hh2 : t.has s.g = true
        · simp [hh2]
          by_cases w7 : w = 7
          · simp [w7]
            exact ff
          · simp [w7, hqs, q]
            exact wp_rt (rest2 s w μ1 fr q (has_g q) hh2 (fun z => Nat.le_trans (isT_h z) hs))
        · simp [hh2]
          exact ff
theorem lf_any : D.tup [.str [97, 110, 121]] = Mt.any.d := (rfl)
theorem sp_nest [HasF fs g0 C.f__law_nest] (k : Nat) (hk : k ≤ 7) (hn : 4 ≤ n) (hd : Dr μ) : ((gN fs g0 n).callF "_law_nest" [.obj 0, .int k] μ).Wp (fun d μ' => (∃ m : Mt, d = m.d ∧ m.ok = true ∧ m.fits .q .q = true ∧ m.ht ≤ 8) ∧ Fr μ μ') noE := by
  have e1 := fun (m : Mt) (μ : Store) => mt_eq (fs := fs) (g0 := g0) (n := n - 1) (μ := μ) m [102, 97, 105, 108] (by decide)
  refine wp_callF (f := C.f__law_nest) rfl rfl (by omega) ?_
  simp only [C.f__law_nest, C.b__law_nest, startE, List.map]
  generalize hR : Ss.cons (St.for_ (Tg.name 4) _ _) _ = R
  have rest : ∀ (m : Mt) (l : D) (μ1 : Store), Fr μ μ1 → m.ok = true → m.fits .q .q = true → m.ht ≤ 1 →
      (Ss.den (gN fs g0 (n - 1)) none R [some (.obj 0), some (.int k), some l, some m.d, none, none, none] μ1).Wp { N := fun _ _ => False, T := fun d μ' => (∃ m : Mt, d = m.d ∧ m.ok = true ∧ m.fits .q .q = true ∧ m.ht ≤ 8) ∧ Fr μ μ' } := by
    intro m l μ1 fr om fm hm
    rw [← hR]
    simp [ws_for]
    rw [range_ok (okR_of (by decide) (by decide)) (okR_of (by omega) (by omega))]
    simp [forD]
    refine wp_forP (fun i ρ μ' => ∃ (m : Mt) (x y z : Option D), ρ = [some (.obj 0), some (.int k), some l, some m.d, x, y, z] ∧ m.ok = true ∧ m.fits .q .q = true ∧ m.ht ≤ 1 + i ∧ Fr μ μ') ⟨m, none, none, none, rfl, om, fm, by omega, fr⟩ ?_ ?_
    · rintro i d ρ μ2 hi ⟨m, x, y, z, rfl, om, fm, hm, fr2⟩
      obtain ⟨hi1, rfl⟩ := rints_at hi
      simp
      refine (sp_label (by omega) fr2.dr).to ?_
      rintro d μ3 ⟨hm', fr3⟩
      obtain ⟨c, rfl, oc⟩ := hm'.oS (by decide)
      simp
      refine (sp_draw (by omega) fr3.dr (by decide)).to ?_
      rintro d μ4 ⟨w, rfl, w1, w2, fr4⟩
      have f4 := (fr2.trans fr3).trans fr4
      have : w = 0 ∨ w = 1 ∨ w = 2 ∨ w = 3 := by omega
      rcases this with rfl | rfl | rfl | rfl
      · simp
        exact ⟨.pr (some c) m .any, rfl, by simp [Mt.ok, oc, om], by simp [Mt.fits, okC, Ki.has, Ki.pl, Ki.pr, fm], by simp [Mt.ht]; omega, f4⟩
      · simp
        exact ⟨.pr (some c) (.base .b (some [114])) m, rfl, by simp [Mt.ok, oc, om, show okO (some [114]) = true from by decide], by simp [Mt.fits, okC, Ki.has, Ki.pl, Ki.pr, fm], by simp [Mt.ht]; omega, f4⟩
      · simp
        exact ⟨.fn (some c) .any m, rfl, by simp [Mt.ok, oc, om], by simp [Mt.fits, okC, Ki.has, Ki.pl, Ki.pr, fm, Mt.isF], by simp [Mt.ht]; omega, f4⟩
      · simp [e1, w_fail]
        by_cases F : m.isF = true
        · simp [F]
          exact ⟨.fn1 (some c) m, rfl, by simp [Mt.ok, oc, om, F], by simp [Mt.fits, okC, Ki.has, Ki.pl, Ki.pr, fm, F], by simp [Mt.ht]; omega, f4⟩
        · simp [F]
          exact ⟨.fn (some c) m (.base .i (some [115])), rfl, by simp [Mt.ok, oc, om, show okO (some [115]) = true from by decide], by simp [Mt.fits, okC, Ki.has, Ki.pl, Ki.pr, fm, F], by simp [Mt.ht]; omega, f4⟩
    · rintro ρ μ2 ⟨m, x, y, z, rfl, om, fm, hm, fr2⟩
      rw [rints_len] at hm
      simp
      exact ⟨⟨m, rfl, om, fm, by omega⟩, fr2⟩
  simp
  generalize hL : [D.tup [D.str [97, 110, 121]], D.tup [D.str [98, 97, 115, 101], D.str [105, 110, 116], D.str [112]], _, _, _] = L
  have f2 := Fr.push hd (.lst L)
  refine (sp_draw (by omega) f2.dr (by decide)).to ?_
  rintro d μ3 ⟨j, rfl, j1, j2, fr3⟩
  have h0 := fr3.at (show (μ ++ [MO.lst L])[μ.length]? = some _ by simp; rfl) (by have := hd.pos; omega)
  obtain ⟨m, em, om, fm, hm⟩ : ∃ m : Mt, atI L j = some m.d ∧ m.ok = true ∧ m.fits .q .q = true ∧ m.ht ≤ 1 := by
    subst hL
    have : j = 0 ∨ j = 1 ∨ j = 2 ∨ j = 3 ∨ j = 4 := by omega
    rcases this with rfl | rfl | rfl | rfl | rfl
    · exact ⟨.any, rfl, by decide, by decide, by decide⟩
    · exact ⟨.base .i (some [112]), rfl, by decide, by decide, by decide⟩
    · exact ⟨.fail none (some [113]), rfl, by decide, by decide, by decide⟩
    · exact ⟨.fail (some (.p, [112])) (some [113]), rfl, by decide, by decide, by decide⟩
    · exact ⟨.fail (some (.bs .i, [112])) (some [126, 112]), rfl, by decide, by decide, by decide⟩
  simp [h0, em]
  exact wp_rt (rest m _ μ3 (f2.trans fr3) om fm hm)
end
end
end Pn
end

section
set_option linter.all false
set_option autoImplicit false
set_option maxHeartbeats 4000000
set_option maxRecDepth 10000
/-! Plain Lean: names and texts of labels, labels as objects. -/
namespace Pn.Lb
open Py Pn
section
variable {fs : List FD} {g0 : Gs} {n : Nat} {μ : Store}
theorem op_nin (c : Nat) (t : S) : copG (gN fs g0 n) .nin (.str [c]) (.str t) μ = .ok (.bl (!decide (c ∈ t))) μ := by
  rw [cop_own (by rfl)]
  simp [cop, inD]
theorem ov_str (s : S) : overD (.str s) μ = .ok (.items (s.map fun c => .str [c])) μ := (rfl)
theorem sp_consists [HasF fs g0 C.f_consists_of] (s t : S) (hn : 1 ≤ n) : (gN fs g0 n).callF "consists_of" [.str s, .str t] μ = .ok (.bl (s.all fun c => decide (c ∈ t))) μ := by
  apply eq_of_wp
  refine wp_callF (f := C.f_consists_of) rfl rfl (by omega) ?_
  simp only [C.f_consists_of, C.b_consists_of, startE, List.map]
  simp [ws_for, ov_str, forD]
  refine wp_forP (fun i ρ μ' => μ' = μ ∧ (∃ z, ρ = [some (.str s), some (.str t), z]) ∧ (s.take i).all (fun c => decide (c ∈ t)) = true) ⟨rfl, ⟨_, rfl⟩, by simp⟩ ?_ ?_
  · rintro i d ρ μ' hi ⟨rfl, ⟨z, rfl⟩, hA⟩
    obtain ⟨c, hc, rfl⟩ : ∃ c, s[i]? = some c ∧ d = .str [c] := by
      rw [List.getElem?_map] at hi
      cases hx : s[i]? with
      | none => rw [hx] at hi; cases hi
      | some k => rw [hx] at hi; cases hi; exact ⟨k, rfl, rfl⟩
    simp [op_nin]
    by_cases h : c ∈ t
    · simp [h]
      simp at hA
      rw [List.take_add_one, hc]
      simp [h]
      rintro x (hx | rfl)
      · exact hA x hx
      · exact h
    · simp [h]
      exact ⟨c, List.mem_of_getElem? hc, h⟩
  · rintro ρ μ' ⟨rfl, ⟨z, rfl⟩, hA⟩
    simp at hA ⊢
    exact hA
def AZ : S := [97, 98, 99, 100, 101, 102, 103, 104, 105, 106, 107, 108, 109, 110, 111, 112, 113, 114, 115, 116, 117, 118, 119, 120, 121, 122]
def D9 : S := [48, 49, 50, 51, 52, 53, 54, 55, 56, 57]
def isNm (s : S) : Bool := match s with
  | [] => false
  | c :: r => decide (r.length ≤ 7) && (decide (c ∈ AZ) && (c :: r).all fun c => decide (c ∈ AZ ++ D9))
theorem az_nin (c : Nat) {b : Bool} (h : decide (c ∈ AZ) = b) : copG (gN fs g0 n) .nin (.str [c]) (.str [97, 98, 99, 100, 101, 102, 103, 104, 105, 106, 107, 108, 109, 110, 111, 112, 113, 114, 115, 116, 117, 118, 119, 120, 121, 122]) μ = .ok (.bl (!b)) μ := by
  rw [← h]
  exact op_nin c AZ
theorem ad_nin (c : Nat) {b : Bool} (h : decide (c ∈ AZ ++ D9) = b) : copG (gN fs g0 n) .nin (.str [c]) (.str [97, 98, 99, 100, 101, 102, 103, 104, 105, 106, 107, 108, 109, 110, 111, 112, 113, 114, 115, 116, 117, 118, 119, 120, 121, 122, 48, 49, 50, 51, 52, 53, 54, 55, 56, 57]) μ = .ok (.bl (!b)) μ := by
  rw [← h]
  exact op_nin c (AZ ++ D9)
theorem isNm_c (c : Nat) (r : S) {b A : Bool} (h7 : r.length ≤ 7) (hb : decide (c ∈ AZ) = b) (hA : ((c :: r).all fun c => decide (c ∈ AZ ++ D9)) = A) : isNm (c :: r) = (b && A) := by
  show (decide (r.length ≤ 7) && (decide (c ∈ AZ) && (c :: r).all fun c => decide (c ∈ AZ ++ D9))) = _
  rw [hb, hA]
  simp [h7]
theorem isNm_l (c : Nat) (r : S) (h7 : ¬ r.length ≤ 7) : isNm (c :: r) = false := by
  unfold isNm
  simp [h7]
theorem sp_isnm [HasF fs g0 C.f_consists_of] [HasF fs g0 C.f_is_label_name] [GGlo g0 "LETTERS" (.str [97, 98, 99, 100, 101, 102, 103, 104, 105, 106, 107, 108, 109, 110, 111, 112, 113, 114, 115, 116, 117, 118, 119, 120, 121, 122])] [GGlo g0 "DIGITS" (.str [48, 49, 50, 51, 52, 53, 54, 55, 56, 57])] [hg8 : GGlo g0 "LONGEST_NAME" (.int 8)] (s : S) (hs : s.length ≤ 1000) (hn : 2 ≤ n) : (gN fs g0 n).callF "is_label_name" [.str s] μ = .ok (.bl (isNm s)) μ := by
  apply eq_of_wp
  refine wp_callF (f := C.f_is_label_name) rfl rfl (by omega) ?_
  simp only [C.f_is_label_name, C.b_is_label_name, startE, List.map]
  have hc := sp_consists (fs := fs) (g0 := g0) (n := n - 1) (μ := μ) s (AZ ++ D9) (by omega)
  have ha : bopG (gN fs g0 (n - 1)) .add (.str AZ) (.str D9) μ = .ok (.str (AZ ++ D9)) μ := op_cat _ _ (by decide)
  have hlen : bifG (gN fs g0 (n - 1)) "len" [.str s] μ = .ok (.int s.length) μ := bif_lenS s (by simp; omega)
  cases s with
  | nil => simp [hlen, cop, isNm]
  | cons c r =>
    have i0 : idx (.str (c :: r)) (.int 0) μ = .ok (.str [c]) μ := by
      simp only [idx]
      rw [if_pos (by simp at hs ⊢; omega), show atI (c :: r) 0 = some c from atI_some (k := 0) rfl]
    have hg : ∀ ρ, E.den (gN fs g0 (n - 1)) none (.glo "LONGEST_NAME") ρ μ = .ok (.int 8) μ := fun ρ => by
      have h8 : (gN fs g0 (n - 1)).glo "LONGEST_NAME" = some (.int 8) := hg8.eq
      simp only [E.den, h8]
    have h2 : 1 ≤ (r.length : Int) + 1 := by omega
    obtain ⟨b, hb⟩ : ∃ b, decide (c ∈ AZ) = b := ⟨_, rfl⟩
    obtain ⟨A, hA⟩ : ∃ A, ((c :: r).all fun c => decide (c ∈ AZ ++ D9)) = A := ⟨_, rfl⟩
    rw [hA] at hc
    simp only [AZ, D9, List.cons_append, List.nil_append] at ha hc
    by_cases h7 : r.length ≤ 7
    · have h7' : (r.length : Int) + 1 ≤ 8 := by omega
      rw [isNm_c c r h7 hb hA]
      simp [hlen, cop, i0, h2, hg, R.bind, h7', az_nin c hb, ha, hc]
      cases b <;> simp [ha, hc]
    · have h7' : ¬ (r.length : Int) + 1 ≤ 8 := by omega
      rw [isNm_l c r h7]
      simp [hlen, cop, i0, h2, hg, R.bind, h7']

def rmv (s : S) : S := if pre [126] s = true then s.drop 1 else s
theorem az_at {i : Int} (h0 : 0 ≤ i) (h1 : i < 26) : ∃ c, idx (.str (AZ ++ D9)) (.int i) μ = .ok (.str [c]) μ ∧ c ∈ AZ := by
  obtain ⟨k, rfl⟩ := Int.eq_ofNat_of_zero_le h0
  have hk : k < AZ.length := by simp [AZ]; omega
  refine ⟨AZ[k], ?_, List.getElem_mem hk⟩
  have : atI (AZ ++ D9) (k : Int) = some AZ[k] := atI_some (by rw [List.getElem?_append_left hk]; exact List.getElem?_eq_getElem hk)
  simp only [idx, this]
  rw [if_pos (by decide)]
theorem ad_at {i : Int} (h0 : 0 ≤ i) (h1 : i < 36) : ∃ c, idx (.str (AZ ++ D9)) (.int i) μ = .ok (.str [c]) μ ∧ c ∈ AZ ++ D9 := by
  obtain ⟨k, rfl⟩ := Int.eq_ofNat_of_zero_le h0
  have hk : k < (AZ ++ D9).length := by simp [AZ, D9]; omega
  refine ⟨(AZ ++ D9)[k], ?_, List.getElem_mem hk⟩
  have : atI (AZ ++ D9) (k : Int) = some (AZ ++ D9)[k] := atI_some (List.getElem?_eq_getElem hk)
  simp only [idx, this]
  rw [if_pos (by decide)]
theorem isNm_mk (c : Nat) (r : S) (h7 : r.length ≤ 7) (hc : c ∈ AZ) (hr : ∀ x ∈ r, x ∈ AZ ++ D9) : isNm (c :: r) = true := by
  rw [isNm_c c r h7 (decide_eq_true hc) rfl]
  simp only [Bool.true_and, List.all_eq_true, decide_eq_true_eq]
  intro x hx
  rcases List.mem_cons.mp hx with rfl | h
  · exact List.mem_append_left _ hc
  · exact hr x h
theorem ok_AD : ∀ x ∈ AZ ++ D9, x < 1114112 ∧ x ≠ 126 := by decide
theorem isNm_ok {s : S} (h : isNm s = true) : okS s = true ∧ 1 ≤ s.length ∧ s.length ≤ 8 ∧ pre [126] s = false ∧ rmv s = s := by
  cases s with
  | nil => cases h
  | cons c r =>
    by_cases h7 : r.length ≤ 7
    · rw [isNm_c c r h7 rfl rfl] at h
      simp only [Bool.and_eq_true, List.all_eq_true, decide_eq_true_eq] at h
      have hp : pre [126] (c :: r) = false := by
        have := (ok_AD c (h.2 c (by simp))).2
        simp [pre]
        omega
      refine ⟨?_, by simp, by simp; omega, hp, by simp [rmv, hp]⟩
      unfold okS
      simp only [List.all_eq_true, decide_eq_true_eq]
      exact fun x hx => (ok_AD x (h.2 x hx)).1
    · rw [isNm_l c r h7] at h
      cases h
theorem sp_nm [HasF fs g0 C.f__law_draw] [HasF fs g0 C.f__law_name] (hn : 2 ≤ n) (hd : Dr μ) : ((gN fs g0 n).callF "_law_name" [.obj 0] μ).Wp (fun d μ' => (∃ s, d = .str s ∧ isNm s = true) ∧ Fr μ μ') noE := by
  refine wp_callF (f := C.f__law_name) rfl rfl (by omega) ?_
  simp only [C.f__law_name, C.b__law_name, startE, List.map]
  have lit : [97, 98, 99, 100, 101, 102, 103, 104, 105, 106, 107, 108, 109, 110, 111, 112, 113, 114, 115, 116, 117, 118, 119, 120, 121, 122, 48, 49, 50, 51, 52, 53, 54, 55, 56, 57] = AZ ++ D9 := by rfl
  rw [lit]
  generalize hL : AZ ++ D9 = L
  simp
  refine (sp_draw (by omega) hd (by decide)).to ?_
  rintro d μ1 ⟨i, rfl, h1, h2, fr⟩
  simp
  by_cases hi : i < 2
  · simp [hi]
    refine (sp_draw (by omega) fr.dr (by decide)).to ?_
    rintro d μ2 ⟨j, rfl, j1, j2, fr2⟩
    have : j = 0 ∨ j = 1 ∨ j = 2 ∨ j = 3 := by omega
    rcases this with rfl | rfl | rfl | rfl <;> simp [idx, atI, ixN] <;> exact ⟨by decide, fr.trans fr2⟩
  · simp [hi]
    refine (sp_draw (by omega) fr.dr (by decide)).to ?_
    rintro d μ2 ⟨z, rfl, z1, z2, fr2⟩
    have f2 := fr.trans fr2
    simp
    by_cases h2 : i = 2
    · simp [h2, ws_for]
      refine (sp_draw (by omega) fr2.dr (by decide)).to ?_
      rintro d μ3 ⟨j, rfl, j1, j2, fr3⟩
      obtain ⟨c, e, o⟩ := az_at (μ := μ3) j1 j2
      rw [hL] at e
      simp [e, ws_for]
      rw [range_ok (okR_of (by decide) (by decide)) (okR_of (by omega) (by omega))]
      simp [forD]
      refine wp_forP (fun k ρ μ' => ∃ (s : S) (x y w : Option D), ρ = [some (.obj 0), some (.str L), x, y, none, some (.str (c :: s)), w] ∧ (∀ x ∈ s, x ∈ AZ ++ D9) ∧ s.length ≤ k ∧ Fr μ μ') ⟨[], _, _, _, rfl, by simp, by simp, f2.trans fr3⟩ ?_ ?_
      · rintro k d ρ μ4 hk ⟨s, x, y, w, rfl, os, ls, fr4⟩
        obtain ⟨hk1, rfl⟩ := rints_at hk
        simp
        refine (sp_draw (by omega) fr4.dr (by decide)).to ?_
        rintro d μ5 ⟨j, rfl, j1, j2, fr5⟩
        obtain ⟨c', e', o'⟩ := ad_at (μ := μ5) j1 j2
        rw [hL] at e'
        simp [e']
        rw [op_cat (c :: s) [c'] (by simp; omega)]
        simp
        refine ⟨?_, by omega, fr4.trans fr5⟩
        rintro x (h | rfl)
        · have := os x h
          simpa using this
        · simpa using o'
      · rintro ρ μ4 ⟨s, x, y, w, rfl, os, ls, fr4⟩
        rw [rints_len] at ls
        simp
        exact ⟨isNm_mk c s (by omega) o os, fr4⟩
    · simp [h2]
      refine (sp_draw (by omega) fr2.dr (by omega)).to ?_
      rintro d μ3 ⟨j, rfl, j1, j2, fr3⟩
      simp
      rw [mulS _ j1 (by omega)]
      simp
      refine (sp_draw (by omega) fr3.dr (by decide)).to ?_
      rintro d μ4 ⟨k, rfl, k1, k2, fr4⟩
      obtain ⟨c, e, o⟩ := az_at (μ := μ4) k1 k2
      rw [hL] at e
      simp [e]
      rw [op_cat _ _ (by simp; omega)]
      simp
      rw [mulS _ (by omega) (by omega)]
      simp
      have e3 : (1 + z - j - 1).toNat = (1 + z - j).toNat - 1 := by omega
      rw [op_cat _ _ (by simp; omega)]
      simp
      refine ⟨?_, (f2.trans fr3).trans fr4⟩
      have az : ∀ m, ∀ x ∈ List.replicate m 97, x ∈ AZ ++ D9 := by
        intro m x hx
        rw [(List.mem_replicate.mp hx).2]
        decide
      have oc : c ∈ AZ ++ D9 := List.mem_append_left _ o
      cases hj : j.toNat with
      | zero =>
        simp only [List.replicate_zero, List.nil_append]
        exact isNm_mk c _ (by simp; omega) o (az _)
      | succ m =>
        rw [List.replicate_succ, List.cons_append]
        refine isNm_mk 97 _ (by simp; omega) (by decide) ?_
        intro x hx
        rcases List.mem_append.mp hx with h | h
        · exact az _ x h
        · rcases List.mem_cons.mp h with rfl | h
          · exact oc
          · exact az _ x h
end
end Pn.Lb
end

section
set_option linter.all false
set_option autoImplicit false
set_option maxHeartbeats 4000000
set_option maxRecDepth 10000
/-! Plain Lean: whom a cast can blame. -/
namespace Pn
open Py
def Mt.lbs : Mt → List S
  | .base _ c => c.toList
  | .fn c x y => c.toList ++ (x.lbs ++ y.lbs)
  | .pr c x y => c.toList ++ (x.lbs ++ y.lbs)
  | .fn1 c x => c.toList ++ x.lbs
  | _ => []
/-- no fail node -/
def Mt.nf : Mt → Bool
  | .fail _ _ => false
  | .fn1 _ _ => false
  | .fn _ x y => x.nf && y.nf
  | .pr _ x y => x.nf && y.nf
  | _ => true
theorem lbs_cast (N : Nat) : ∀ (s t : Ki) (l l' : S), s.sz + t.sz ≤ N → s.agr t = true → l ≠ l' →
    ((l ∈ (cast s l l' t).lbs ↔ s.pos t = false) ∧ (l' ∈ (cast s l l' t).lbs ↔ s.neg t = false)) ∧ (cast s l l' t).nf = true ∧ ∀ x ∈ (cast s l l' t).lbs, x = l ∨ x = l' := by
  induction N with
  | zero => intro s t l l' h; have := s.sz_pos; omega
  | succ N ih =>
    intro s t l l' hN ha hl
    have hl' := Ne.symm hl
    cases s with
    | q =>
      cases t with
      | f x y =>
        simp only [Ki.sz] at hN
        have j1 := ih x .q l' l (by simp only [Ki.sz]; omega) (by cases x <;> rfl) hl'
        have j2 := ih .q y l l' (by simp only [Ki.sz]; omega) (by cases y <;> rfl) hl
        simp only [Ki.pos_q, Ki.q_neg] at j1 j2
        simp [cast, Mt.lbs, Mt.nf, Ki.pos, Ki.neg, j1.1.1, j2.1.2, j1.2.1, j2.2.1, hl']
        rintro z (h | h)
        · exact (j1.2.2 z h).symm
        · exact j2.2.2 z h
      | p x y =>
        simp only [Ki.sz] at hN
        have j1 := ih .q x l l' (by simp only [Ki.sz]; omega) (by cases x <;> rfl) hl
        have j2 := ih .q y l l' (by simp only [Ki.sz]; omega) (by cases y <;> rfl) hl
        simp only [Ki.q_neg] at j1 j2
        simp [cast, Mt.lbs, Mt.nf, Ki.pos, Ki.neg, j1.1.2, j2.1.2, j1.2.1, j2.2.1, hl']
        rintro z (h | h)
        · exact j1.2.2 z h
        · exact j2.2.2 z h
      | _ => simp [cast, Mt.lbs, Mt.nf, Ki.pos, Ki.neg, hl']
    | f x y =>
      cases t with
      | f z w =>
        simp only [Ki.sz] at hN
        simp [Ki.agr] at ha
        have j1 := ih z x l' l (by omega) (agr_symm ha.1) hl'
        have j2 := ih y w l l' (by omega) ha.2 hl
        simp only [cast, Mt.lbs, Mt.nf, Ki.pl, Ki.pr, Option.toList_none, List.nil_append, List.mem_append, j1.1.1, j1.1.2, j2.1.1, j2.1.2, j1.2.1, j2.2.1, Ki.pos, Ki.neg, Bool.and_eq_false_iff, true_and, Bool.and_self]
        rintro v (h | h)
        · exact (j1.2.2 v h).symm
        · exact j2.2.2 v h
      | q =>
        simp only [Ki.sz] at hN
        have j1 := ih .q x l' l (by simp only [Ki.sz]; omega) (by cases x <;> rfl) hl'
        have j2 := ih y .q l l' (by simp only [Ki.sz]; omega) (by cases y <;> rfl) hl
        simp only [cast, Mt.lbs, Mt.nf, Ki.pl, Ki.pr, Option.toList_none, List.nil_append, List.mem_append, j1.1.1, j1.1.2, j2.1.1, j2.1.2, j1.2.1, j2.2.1, Ki.pos, Ki.neg, Ki.pos_q, Ki.q_neg, Bool.and_eq_false_iff, true_and, Bool.and_self]
        refine ⟨by simp, ?_⟩
        rintro v (h | h)
        · exact (j1.2.2 v h).symm
        · exact j2.2.2 v h
      | _ => simp [Ki.agr] at ha
    | p x y =>
      cases t with
      | p z w =>
        simp only [Ki.sz] at hN
        simp [Ki.agr] at ha
        have j1 := ih x z l l' (by omega) ha.1 hl
        have j2 := ih y w l l' (by omega) ha.2 hl
        simp only [cast, Mt.lbs, Mt.nf, Ki.pl, Ki.pr, Option.toList_none, List.nil_append, List.mem_append, j1.1.1, j1.1.2, j2.1.1, j2.1.2, j1.2.1, j2.2.1, Ki.pos, Ki.neg, Bool.and_eq_false_iff, true_and, Bool.and_self]
        rintro v (h | h)
        · exact j1.2.2 v h
        · exact j2.2.2 v h
      | q =>
        simp only [Ki.sz] at hN
        have j1 := ih x .q l l' (by simp only [Ki.sz]; omega) (by cases x <;> rfl) hl
        have j2 := ih y .q l l' (by simp only [Ki.sz]; omega) (by cases y <;> rfl) hl
        simp only [cast, Mt.lbs, Mt.nf, Ki.pl, Ki.pr, Option.toList_none, List.nil_append, List.mem_append, j1.1.1, j1.1.2, j2.1.1, j2.1.2, j1.2.1, j2.2.1, Ki.pos, Ki.neg, Ki.pos_q, Ki.q_neg, Bool.and_eq_false_iff, true_and, Bool.and_self]
        refine ⟨by simp, ?_⟩
        rintro v (h | h)
        · exact j1.2.2 v h
        · exact j2.2.2 v h
      | _ => simp [Ki.agr] at ha
    | _ => cases t <;> simp [Ki.agr] at ha <;> simp [cast, Mt.lbs, Mt.nf, Ki.pos, Ki.neg]
end Pn
end

section
set_option linter.all false
set_option autoImplicit false
set_option maxHeartbeats 4000000
set_option maxRecDepth 10000
/-! Plain Lean: trees of middles that need not fit; data that need not be alike. -/
namespace Pn
open Py Pn.Lb
/-- labels are short texts -/
def Mt.okl : Mt → Bool
  | .any => true
  | .base _ c => okO c
  | .fail q bl => (match q with | none => true | some (_, l) => okO (some l)) && okO bl
  | .fn c x y => okO c && (x.okl && y.okl)
  | .fn1 c x => okO c && x.okl
  | .pr c x y => okO c && (x.okl && y.okl)
theorem ok_okl (m : Mt) (h : m.ok = true) : m.okl = true := by
  induction m with
  | fn c x y a b | pr c x y a b =>
    simp only [Mt.ok, Bool.and_eq_true] at h
    simp [Mt.okl, h.1, a h.2.1, b h.2.2]
  | fn1 c x a =>
    simp only [Mt.ok, Bool.and_eq_true] at h
    simp [Mt.okl, h.1, a h.2.1]
  | fail q bl => exact h
  | _ => first | rfl | exact h
section
variable {fs : List FD} {g0 : Gs} {n : Nat} {μ : Store}
theorem mt_deepL (m : Mt) : ∀ k, m.okl = true → m.dp + 1 ≤ k → D.deep k m.d := by
  induction m with
  | any => intro k _ hk; obtain ⟨k, rfl⟩ : ∃ j, k = j + 1 := ⟨k - 1, by simp [Mt.dp] at hk; omega⟩
           simp only [Mt.d, D.deep, D.deeps]
           exact ⟨by simp, str_deep (by decide) k, trivial⟩
  | base g c =>
    intro k h hk; obtain ⟨k, rfl⟩ : ∃ j, k = j + 1 := ⟨k - 1, by simp [Mt.dp] at hk; omega⟩
    simp only [Mt.d, D.deep, D.deeps]
    exact ⟨by simp, str_deep (by decide) k, str_deep (by cases g <;> decide) k, oS_deep h _, trivial⟩
  | fail q bl =>
    intro k h hk; obtain ⟨k, rfl⟩ : ∃ j, k = j + 2 := ⟨k - 2, by simp [Mt.dp] at hk; omega⟩
    cases q with
    | none =>
      simp [Mt.okl] at h
      simp only [Mt.d, D.deep, D.deeps]
      exact ⟨by simp, str_deep (by decide) (k+1), by simp [D.deep], oS_deep h (k+1), trivial⟩
    | some q =>
      simp [Mt.okl] at h
      have h1 := oS_deep h.1 k
      simp only [oS] at h1
      simp only [Mt.d, D.deep, D.deeps]
      exact ⟨by simp, str_deep (by decide) (k+1), ⟨by simp, str_deep q.1.s_ok k, h1, trivial⟩, oS_deep h.2 (k+1), trivial⟩
  | fn c x y hx hy | pr c x y hx hy =>
    intro k h hk; obtain ⟨k, rfl⟩ : ∃ j, k = j + 1 := ⟨k - 1, by simp [Mt.dp] at hk; omega⟩
    simp [Mt.okl] at h
    simp [Mt.dp] at hk
    simp only [Mt.d, D.deep, D.deeps]
    exact ⟨by simp, str_deep (by decide) k, oS_deep h.1 _, hx _ h.2.1 (by omega), hy _ h.2.2 (by omega), trivial⟩
  | fn1 c x hx =>
    intro k h hk; obtain ⟨k, rfl⟩ : ∃ j, k = j + 1 := ⟨k - 1, by simp [Mt.dp] at hk; omega⟩
    simp [Mt.okl] at h
    simp [Mt.dp] at hk
    simp only [Mt.d, D.deep, D.deeps]
    exact ⟨by simp, str_deep (by decide) k, oS_deep h.1 _, hx _ h.2 (by omega), by cases k <;> simp [D.deep], trivial⟩
theorem sp_fitsL [HasF fs g0 C.f_ground_of] [HasF fs g0 C.f_check_of] [HasF fs g0 C.f_has_ground] [HasF fs g0 C.f_opened] [HasF fs g0 C.f_fits_tree] [GSub g0 "str" "tuple" false] [GSub g0 "tuple" "tuple" true] (m : Mt) : ∀ (s t : Ki) (k : Nat) (μ : Store), m.okl = true → s.h ≤ 60 → t.h ≤ 60 → m.dp + 3 ≤ k →
    (gN fs g0 k).callF "fits_tree" [m.d, s.d, t.d] μ = .ok (.bl (m.fits s t)) μ := by
  have pre : ∀ (m : Mt) (s t : Ki) (k : Nat) (μ : Store), m.okl = true → s.h ≤ 60 → t.h ≤ 60 → m.dp + 3 ≤ k →
      (∀ x, x = m.d → (∀ c a r, m = .fn c a r → ∀ s t μ, s.h ≤ 60 → t.h ≤ 60 → (gN fs g0 (k - 1)).callF "fits_tree" [a.d, s.d, t.d] μ = .ok (.bl (a.fits s t)) μ ∧ (gN fs g0 (k - 1)).callF "fits_tree" [r.d, s.d, t.d] μ = .ok (.bl (r.fits s t)) μ) →
        (∀ c a r, m = .pr c a r → ∀ s t μ, s.h ≤ 60 → t.h ≤ 60 → (gN fs g0 (k - 1)).callF "fits_tree" [a.d, s.d, t.d] μ = .ok (.bl (a.fits s t)) μ ∧ (gN fs g0 (k - 1)).callF "fits_tree" [r.d, s.d, t.d] μ = .ok (.bl (r.fits s t)) μ) →
        (∀ c a, m = .fn1 c a → ∀ s t μ, s.h ≤ 60 → t.h ≤ 60 → (gN fs g0 (k - 1)).callF "fits_tree" [a.d, s.d, t.d] μ = .ok (.bl (a.fits s t)) μ) →
        (gN fs g0 k).callF "fits_tree" [x, s.d, t.d] μ = .ok (.bl (m.fits s t)) μ) := by
    rintro m s t k μ hm hs ht hk x rfl hF hP hF1
    have e0 := fun (m : Mt) (μ : Store) => mt_eq (fs := fs) (g0 := g0) (n := k - 1) (μ := μ) m [97, 110, 121] (by decide)
    have e1 := fun (m : Mt) (μ : Store) => mt_eq (fs := fs) (g0 := g0) (n := k - 1) (μ := μ) m [102, 97, 105, 108] (by decide)
    have e2 := fun (m : Mt) (μ : Store) => mt_eq (fs := fs) (g0 := g0) (n := k - 1) (μ := μ) m [98, 97, 115, 101] (by decide)
    have e3 := fun (m : Mt) (μ : Store) => mt_eq (fs := fs) (g0 := g0) (n := k - 1) (μ := μ) m [112, 97, 105, 114] (by decide)
    have hqs := fun (n : Nat) (μ : Store) => ki_q (fs := fs) (g0 := g0) (n := n) (μ := μ) s hs
    have hqt := fun (n : Nat) (μ : Store) => ki_q (fs := fs) (g0 := g0) (n := n) (μ := μ) t ht
    simp only [str_q] at hqs hqt
    apply eq_of_wp
    refine wp_callF (f := C.f_fits_tree) rfl rfl (by omega) ?_
    simp only [C.f_fits_tree, C.b_fits_tree, startE, List.map]
    simp [e0, e1, w_any, w_fail]
    rcases isC_or m with rfl | ⟨q, bl, rfl⟩ | cm
    · simp [hqs, hqt, Mt.fits]
      by_cases h : s = .q <;> simp [h]
    · have : (Mt.fail q bl).isF = true := rfl
      simp [this, e1, w_fail]
      cases q with
      | none => simp [Mt.d, atI, ixN, Mt.fits]
      | some q =>
        obtain ⟨g, l⟩ := q
        simp [Mt.okl] at hm
        have hne := fun (μ : Store) => oS_ne (fs := fs) (g0 := g0) (n := k - 1) (μ := μ) (x := some l) (y := bl) hm.1 hm.2
        simp only [show oS (some l) = D.str l from rfl] at hne
        simp [Mt.d, atI, ixN, Mt.fits, hqs, hne]
        by_cases h : s = .q <;> simp [h]
    · have nm : m ≠ .any := by rintro rfl; cases cm
      have fm : m.isF = false := by cases m <;> first | rfl | cases cm
      have g1 := fun (μ : Store) => sp_ground (fs := fs) (g0 := g0) (n := k - 1) (μ := μ) cm (by omega)
      have g2 := fun (μ : Store) => sp_check (fs := fs) (g0 := g0) (n := k - 1) (μ := μ) cm (by omega)
      have h1 := fun (μ : Store) => sp_has (fs := fs) (g0 := g0) (n := k - 1) (μ := μ) s m.gd hs (by omega)
      have h2 := fun (μ : Store) => sp_has (fs := fs) (g0 := g0) (n := k - 1) (μ := μ) t m.gd ht (by omega)
      have hpls := Nat.le_trans (pl_h s) hs
      have hprs := Nat.le_trans (pr_h s) hs
      have hplt := Nat.le_trans (pl_h t) ht
      have hprt := Nat.le_trans (pr_h t) ht
      have hb : ∀ x y : Bool, (x == y) = !(x != y) := by decide
      simp [nm, fm, g1, g2, e1, w_fail, hqs]
      cases m <;> first | (cases cm; done) | skip
      case base g c =>
        simp only [Mt.ck, Mt.gd] at *
        have hf : (Mt.base g c).fits s t = (okC c s && (s.has (.bs g) && t.has (.bs g))) := by simp [Mt.fits]
        rw [hf]
        unfold okC
        by_cases hc : (decide (c = none) != decide (s = .q)) = true
        · have hc' : ¬ (c = none ↔ s = .q) := by simpa [bne_iff_ne] using hc
          simp [hc, hc', h1, h2, e2, w_base]
          cases s.has (.bs g) <;> cases t.has (.bs g) <;> simp
        · have hc' : (c = none ↔ s = .q) := by simpa [bne_iff_ne] using hc
          simp [hc, hc']
      case pr c a r =>
        simp only [Mt.ck, Mt.gd] at *
        have hf : (Mt.pr c a r).fits s t = (okC c s && ((s.has .p && t.has .p) && (a.fits s.pl t.pl && r.fits s.pr t.pr))) := by simp [Mt.fits]
        rw [hf]
        unfold okC
        have o1 := fun (μ : Store) => sp_opened (fs := fs) (g0 := g0) (n := k - 1) (μ := μ) s .p (.inr rfl) hs (by omega)
        have o2 := fun (μ : Store) => sp_opened (fs := fs) (g0 := g0) (n := k - 1) (μ := μ) t .p (.inr rfl) ht (by omega)
        have i1 := fun (μ : Store) => (hP c a r rfl s.pl t.pl μ hpls hplt).1
        have i2 := fun (μ : Store) => (hP c a r rfl s.pr t.pr μ hprs hprt).2
        by_cases hc : (decide (c = none) != decide (s = .q)) = true
        · have hc' : ¬ (c = none ↔ s = .q) := by simpa [bne_iff_ne] using hc
          cases hs1 : s.has .p with
          | false => simp [hc, hc', h1, h2, hs1]
          | true =>
            cases ht1 : t.has .p with
            | false => simp [hc, hc', h1, h2, hs1, ht1]
            | true =>
              rw [op_p hs1] at o1
              rw [op_p ht1] at o2
              simp [hc, hc', h1, h2, hs1, ht1, e2, w_base, e3, w_pair, o1, o2, i1, i2]
              cases a.fits s.pl t.pl <;> simp
        · have hc' : (c = none ↔ s = .q) := by simpa [bne_iff_ne] using hc
          simp [hc, hc']
      case fn c a r =>
        simp only [Mt.ck, Mt.gd] at *
        have hf : (Mt.fn c a r).fits s t = (okC c s && ((s.has .f && t.has .f) && (a.fits t.pl s.pl && (!a.isF && r.fits s.pr t.pr)))) := by simp [Mt.fits]
        rw [hf]
        unfold okC
        have o1 := fun (μ : Store) => sp_opened (fs := fs) (g0 := g0) (n := k - 1) (μ := μ) s .f (.inl rfl) hs (by omega)
        have o2 := fun (μ : Store) => sp_opened (fs := fs) (g0 := g0) (n := k - 1) (μ := μ) t .f (.inl rfl) ht (by omega)
        have i1 := fun (μ : Store) => (hF c a r rfl t.pl s.pl μ hplt hpls).1
        have i2 := fun (μ : Store) => (hF c a r rfl s.pr t.pr μ hprs hprt).2
        have ra : isNon r.d = false ∧ isAble r.d = true := by cases r <;> exact ⟨rfl, rfl⟩
        by_cases hc : (decide (c = none) != decide (s = .q)) = true
        · have hc' : ¬ (c = none ↔ s = .q) := by simpa [bne_iff_ne] using hc
          cases hs1 : s.has .f with
          | false => simp [hc, hc', h1, h2, hs1]
          | true =>
            cases ht1 : t.has .f with
            | false => simp [hc, hc', h1, h2, hs1, ht1]
            | true =>
              rw [op_f hs1] at o1
              rw [op_f ht1] at o2
              simp [hc, hc', h1, h2, hs1, ht1, e2, w_base, e3, w_pair, o1, o2, i1]
              cases a.fits t.pl s.pl <;> cases hf2 : a.isF <;> simp [i2, e1, w_fail, hf2, ra, hc']
        · have hc' : (c = none ↔ s = .q) := by simpa [bne_iff_ne] using hc
          simp [hc, hc']
      case fn1 c a =>
        simp only [Mt.ck, Mt.gd] at *
        have hf : (Mt.fn1 c a).fits s t = (okC c s && ((s.has .f && t.has .f) && (a.fits t.pl s.pl && a.isF))) := by simp [Mt.fits]
        rw [hf]
        unfold okC
        have o1 := fun (μ : Store) => sp_opened (fs := fs) (g0 := g0) (n := k - 1) (μ := μ) s .f (.inl rfl) hs (by omega)
        have o2 := fun (μ : Store) => sp_opened (fs := fs) (g0 := g0) (n := k - 1) (μ := μ) t .f (.inl rfl) ht (by omega)
        have i1 := fun (μ : Store) => (hF1 c a rfl t.pl s.pl μ hplt hpls)
        by_cases hc : (decide (c = none) != decide (s = .q)) = true
        · have hc' : ¬ (c = none ↔ s = .q) := by simpa [bne_iff_ne] using hc
          cases hs1 : s.has .f with
          | false => simp [hc, hc', h1, h2, hs1]
          | true =>
            cases ht1 : t.has .f with
            | false => simp [hc, hc', h1, h2, hs1, ht1]
            | true =>
              rw [op_f hs1] at o1
              rw [op_f ht1] at o2
              simp [hc, hc', h1, h2, hs1, ht1, e2, w_base, e3, w_pair, o1, o2, i1]
              cases a.fits t.pl s.pl <;> cases hf2 : a.isF <;> simp [e1, w_fail, hf2, hc']
        · have hc' : (c = none ↔ s = .q) := by simpa [bne_iff_ne] using hc
          simp [hc, hc']
  induction m with
  | fn c a r ia ir =>
    intro s t k μ hm hs ht hk
    simp only [Mt.okl, Bool.and_eq_true] at hm
    simp only [Mt.dp] at hk
    refine pre _ s t k μ (by simp [Mt.okl, hm]) hs ht (by simp only [Mt.dp]; omega) _ rfl ?_ (by rintro _ _ _ ⟨⟩) (by rintro _ _ ⟨⟩)
    rintro _ _ _ ⟨⟩ s t μ hs ht
    exact ⟨ia s t (k - 1) μ hm.2.1 hs ht (by omega), ir s t (k - 1) μ hm.2.2 hs ht (by omega)⟩
  | pr c a r ia ir =>
    intro s t k μ hm hs ht hk
    simp only [Mt.okl, Bool.and_eq_true] at hm
    simp only [Mt.dp] at hk
    refine pre _ s t k μ (by simp [Mt.okl, hm]) hs ht (by simp only [Mt.dp]; omega) _ rfl (by rintro _ _ _ ⟨⟩) ?_ (by rintro _ _ ⟨⟩)
    rintro _ _ _ ⟨⟩ s t μ hs ht
    exact ⟨ia s t (k - 1) μ hm.2.1 hs ht (by omega), ir s t (k - 1) μ hm.2.2 hs ht (by omega)⟩
  | fn1 c a ia =>
    intro s t k μ hm hs ht hk
    simp only [Mt.okl, Bool.and_eq_true] at hm
    simp only [Mt.dp] at hk
    refine pre _ s t k μ (by simp [Mt.okl, hm]) hs ht (by simp only [Mt.dp]; omega) _ rfl (by rintro _ _ _ ⟨⟩) (by rintro _ _ _ ⟨⟩) ?_
    rintro _ _ ⟨⟩ s t μ hs ht
    exact ia s t (k - 1) μ hm.2 hs ht (by omega)
  | _ =>
    intro s t k μ hm hs ht hk
    exact pre _ s t k μ hm hs ht hk _ rfl (by rintro _ _ _ ⟨⟩) (by rintro _ _ _ ⟨⟩) (by rintro _ _ ⟨⟩)
/-! ### data that need not be alike -/
/-- texts, lacks and tuples of them, of a depth -/
def sp3 : Nat → D → Prop
  | _, .non => True
  | _, .str s => okS s = true ∧ s.length ≤ line
  | 0, _ => False
  | n + 1, .tup ds => ds.length ≤ 1000 ∧ ∀ d ∈ ds, sp3 n d
  | _, _ => False
theorem sp3_up : ∀ (k : Nat) (d : D), sp3 k d → sp3 (k + 1) d
  | _, .non, _ => by unfold sp3; trivial
  | _, .str s, h => by unfold sp3 at h ⊢; exact h
  | 0, .tup ds, h => by unfold sp3 at h; exact h.elim
  | k + 1, .tup ds, h => by
    unfold sp3 at h ⊢
    exact ⟨h.1, fun d m => sp3_up k d (h.2 d m)⟩
  | 0, .bl _, h => by unfold sp3 at h; exact h.elim
  | k + 1, .bl _, h => by unfold sp3 at h; exact h.elim
  | 0, .int _, h => by unfold sp3 at h; exact h.elim
  | k + 1, .int _, h => by unfold sp3 at h; exact h.elim
  | 0, .obj _, h => by unfold sp3 at h; exact h.elim
  | k + 1, .obj _, h => by unfold sp3 at h; exact h.elim
  | 0, .cls _, h => by unfold sp3 at h; exact h.elim
  | k + 1, .cls _, h => by unfold sp3 at h; exact h.elim
  | 0, .ty _, h => by unfold sp3 at h; exact h.elim
  | k + 1, .ty _, h => by unfold sp3 at h; exact h.elim
  | 0, .fz _, h => by unfold sp3 at h; exact h.elim
  | k + 1, .fz _, h => by unfold sp3 at h; exact h.elim
  | 0, .opq, h => by unfold sp3 at h; exact h.elim
  | k + 1, .opq, h => by unfold sp3 at h; exact h.elim
theorem sp3_le {k m : Nat} {d : D} (h : sp3 k d) (i : k ≤ m) : sp3 m d := by
  induction i with
  | refl => exact h
  | step _ ih => exact sp3_up _ _ ih
theorem sp3_or {k : Nat} {d : D} (h : sp3 k d) : d = .non ∨ (∃ s, d = .str s ∧ okS s = true ∧ s.length ≤ line) ∨ ∃ j ds, k = j + 1 ∧ d = .tup ds ∧ ds.length ≤ 1000 ∧ ∀ d ∈ ds, sp3 j d := by
  cases d with
  | non => exact .inl rfl
  | str s => unfold sp3 at h; exact .inr (.inl ⟨s, rfl, h⟩)
  | tup ds => cases k with
    | zero => unfold sp3 at h; exact h.elim
    | succ k => unfold sp3 at h; exact .inr (.inr ⟨k, ds, rfl, rfl, h⟩)
  | _ => cases k <;> (unfold sp3 at h; exact h.elim)
theorem eqvs_all : ∀ {a b : List D}, a.length = b.length → (∀ (i : Nat) (x y : D), a[i]? = some x → b[i]? = some y → D.eqv x y = true) → D.eqvs a b = true
  | [], [], _, _ => rfl
  | [], _ :: _, h, _ => by simp at h
  | _ :: _, [], h, _ => by simp at h
  | x :: a, y :: b, h, e => by
    rw [eqvs_cons, e 0 x y rfl rfl, eqvs_all (a := a) (b := b) (by simpa using h) fun i x y h1 h2 => e (i + 1) x y (by simpa using h1) (by simpa using h2)]
    rfl
theorem eqvs_one : ∀ {a b : List D} {i : Nat} {x y : D}, a[i]? = some x → b[i]? = some y → D.eqv x y = false → D.eqvs a b = false
  | [], _, i, x, y, h, _, _ => by simp at h
  | _ :: _, [], i, x, y, _, h, _ => by simp at h
  | x0 :: a, y0 :: b, 0, x, y, h1, h2, e => by
    simp at h1 h2
    rw [eqvs_cons, h1, h2, e]
    rfl
  | x0 :: a, y0 :: b, i + 1, x, y, h1, h2, e => by
    rw [eqvs_cons, eqvs_one (i := i) (by simpa using h1) (by simpa using h2) e]
    simp
theorem eqvs_len : ∀ {a b : List D}, a.length ≠ b.length → D.eqvs a b = false
  | [], [], h => absurd rfl h
  | [], _ :: _, _ => rfl
  | _ :: _, [], _ => rfl
  | x :: a, y :: b, h => by
    rw [eqvs_cons, eqvs_len (a := a) (b := b) (by simpa using h)]
    simp
theorem law_same2 (hf : Has fs g0 C.f__law_same) (b : Bt g0) : ∀ (n k : Nat) (x y : D) (μ : Store), k < n → k ≤ 60 → sp3 k x → sp3 k y → (callN fs g0 n "_law_same" [x, y] μ).Wp (fun v μ' => v = .bl (D.eqv x y) ∧ μ' = μ) noE := by
  intro n
  induction n with
  | zero => intro k x y μ h; omega
  | succ n ih =>
    intro k x y μ h h60 hx hy
    refine hf.wp (as := [x, y]) rfl ?_
    simp only [C.f__law_same, C.b__law_same, startE, List.map]
    rcases sp3_or hx with rfl | ⟨s, rfl, o1, o2⟩ | ⟨j, ds, rfl, rfl, l1, hds⟩
    · rcases sp3_or hy with rfl | ⟨t, rfl, o3, o4⟩ | ⟨j, es, rfl, rfl, l2, hes⟩
      · simp [b.isi_non, bCl, subT, isAble, isNon, D.eqv]
      · simp [b.isi_non, b.isi_str, bCl, subT, isAble, isNon, D.eqv]
      · simp [b.isi_non, b.isi_tup, bCl, subT, isAble, isNon, D.eqv]
    · rcases sp3_or hy with rfl | ⟨t, rfl, o3, o4⟩ | ⟨j, es, rfl, rfl, l2, hes⟩
      · simp [b.isi_non, b.isi_str, bCl, subT, isAble, isNon, D.eqv]
      · have e := fun μ => eq_word (fs := fs) (g0 := g0) (n := n) (μ := μ) s t ⟨o1, o2⟩ ⟨o3, o4⟩
        simp [b.isi_str, bCl, subT, isAble, isNon, eqv_str, e]
      · simp [b.isi_str, b.isi_tup, bCl, subT, isAble, isNon, D.eqv]
    · rcases sp3_or hy with rfl | ⟨t, rfl, o3, o4⟩ | ⟨j', es, e0, rfl, l2, hes⟩
      · simp [b.isi_non, b.isi_tup, bCl, subT, isAble, isNon, D.eqv]
      · simp [b.isi_str, b.isi_tup, bCl, subT, isAble, isNon, D.eqv]
      · have : j' = j := by omega
        subst this
        simp [b.isi_tup, bCl, subT, isAble, isNon, eqv_tup]
        by_cases hl : ds.length = es.length
        · simp [hl, ws_for]
          rw [range_ok (okR_of (by decide) (by decide)) (okR_of (by omega) (by omega))]
          simp [forD]
          refine wp_forP (fun i ρ μ' => μ' = μ ∧ (∃ c, ρ = [some (.tup ds), some (.tup es), c]) ∧ ∀ j x y, j < i → ds[j]? = some x → es[j]? = some y → D.eqv x y = true) ⟨rfl, ⟨none, rfl⟩, by intro j x y h; omega⟩ ?_ ?_
          · rintro i d ρ μ' hi ⟨rfl, ⟨c, rfl⟩, hall⟩
            obtain ⟨hi1, rfl⟩ := rints_at hi
            have hlt : i < es.length := by simpa using hi1
            have g1 : ds[i]? = some (ds[i]'(by omega)) := List.getElem?_eq_getElem _
            have g2 : es[i]? = some es[i] := List.getElem?_eq_getElem hlt
            generalize ds[i]'(by omega) = u at g1
            generalize es[i] = v at g2
            have a1 : atI ds (i : Int) = some u := by rw [atI_nat]; exact g1
            have a2 : atI es (i : Int) = some v := by rw [atI_nat]; exact g2
            simp [a1, a2]
            rw [hf.callK (key := "_law_same") (as := [u, v]) rfl rfl]
            refine (ih j' u v μ' (by omega) (by omega) (hds u (List.mem_of_getElem? g1)) (hes v (List.mem_of_getElem? g2))).to fun w μ'' hv => ?_
            obtain ⟨rfl, rfl⟩ := hv
            cases he : D.eqv u v with
            | true =>
              simp
              intro j x y hj h1 h2
              rcases Nat.lt_succ_iff_lt_or_eq.mp hj with hj | rfl
              · exact hall j x y hj h1 h2
              · rw [g1] at h1; rw [g2] at h2
                cases h1; cases h2
                exact he
            | false =>
              simp [eqv_tup, eqvs_one g1 g2 he]
          · rintro ρ μ' ⟨rfl, ⟨c, rfl⟩, hall⟩
            rw [rints_len] at hall
            simp
            rw [eqv_tup]
            refine (eqvs_all hl fun i x y h1 h2 => hall i x y ?_ h1 h2)
            have := (List.getElem?_eq_some_iff.mp h2).1
            simpa using this
        · have hl' : ¬ ((ds.length : Int) = es.length) := by omega
          simp [hl, hl', eqvs_len hl]
theorem sp_same2 [hf : HasF fs g0 C.f__law_same] [b : BtF g0] {k : Nat} {x y : D} (hn : k < n) (hk : k ≤ 60) (hx : sp3 k x) (hy : sp3 k y) : (gN fs g0 n).callF "_law_same" [x, y] μ = .ok (.bl (D.eqv x y)) μ := by
  rw [hf.has.callK (key := "_law_same") rfl rfl]
  obtain ⟨a, μ', h1, h2, h3⟩ := (law_same2 hf.has b.bt n k x y μ hn hk hx hy).get
  rw [h1, h2, h3]
theorem sp3_str {s : S} (h : okS s = true ∧ s.length ≤ line) (k : Nat) : sp3 k (.str s) := by cases k <;> (unfold sp3; exact h)
theorem sp3_non (k : Nat) : sp3 k .non := by cases k <;> (unfold sp3; trivial)
theorem sp3_oS {c : Option S} (h : okO c = true) (k : Nat) : sp3 k (oS c) := by
  cases c with
  | none => exact sp3_non k
  | some s =>
    simp [okO] at h
    exact sp3_str ⟨h.1, by simp [line]; omega⟩ k
theorem sp3_tup {k : Nat} {ds : List D} (hl : ds.length ≤ 1000) (h : ∀ d ∈ ds, sp3 k d) : sp3 (k + 1) (.tup ds) := by unfold sp3; exact ⟨hl, h⟩
theorem ki_sp3 (k : Ki) : ∀ n, k.h ≤ n → sp3 n k.d := by
  induction k with
  | f a b x y | p a b x y =>
    intro n h
    simp only [Ki.h] at h
    obtain ⟨n, rfl⟩ : ∃ j, n = j + 1 := ⟨n - 1, by omega⟩
    simp only [Ki.d]
    refine sp3_tup (by simp) ?_
    intro d hd
    simp only [List.mem_cons, List.not_mem_nil, or_false] at hd
    rcases hd with rfl | rfl | rfl
    · exact sp3_str (by decide) n
    · exact x n (by omega)
    · exact y n (by omega)
  | _ => intro n h; exact sp3_str (by decide) n
theorem mt_sp3 (m : Mt) : ∀ k, m.okl = true → m.dp + 1 ≤ k → sp3 k m.d := by
  induction m with
  | any => intro k _ hk; obtain ⟨k, rfl⟩ : ∃ j, k = j + 1 := ⟨k - 1, by simp [Mt.dp] at hk; omega⟩
           simp only [Mt.d]
           refine sp3_tup (by simp) ?_
           intro d hd
           simp only [List.mem_cons, List.not_mem_nil, or_false] at hd
           subst hd
           exact sp3_str (by decide) k
  | base g c =>
    intro k h hk; obtain ⟨k, rfl⟩ : ∃ j, k = j + 1 := ⟨k - 1, by simp [Mt.dp] at hk; omega⟩
    simp only [Mt.d]
    refine sp3_tup (by simp) ?_
    intro d hd
    simp only [List.mem_cons, List.not_mem_nil, or_false] at hd
    rcases hd with rfl | rfl | rfl
    · exact sp3_str (by decide) k
    · exact sp3_str (by cases g <;> decide) k
    · exact sp3_oS h k
  | fail q bl =>
    intro k h hk; obtain ⟨k, rfl⟩ : ∃ j, k = j + 2 := ⟨k - 2, by simp [Mt.dp] at hk; omega⟩
    simp only [Mt.d]
    refine sp3_tup (by simp) ?_
    intro d hd
    simp only [List.mem_cons, List.not_mem_nil, or_false] at hd
    cases q with
    | none =>
      simp [Mt.okl] at h
      rcases hd with rfl | rfl | rfl
      · exact sp3_str (by decide) _
      · exact sp3_non _
      · exact sp3_oS h _
    | some q =>
      simp [Mt.okl] at h
      rcases hd with rfl | rfl | rfl
      · exact sp3_str (by decide) _
      · refine sp3_tup (by simp) ?_
        intro d hd
        simp only [List.mem_cons, List.not_mem_nil, or_false] at hd
        rcases hd with rfl | rfl
        · exact sp3_str q.1.s_ok k
        · exact sp3_oS (c := some q.2) h.1 k
      · exact sp3_oS h.2 _
  | fn c x y hx hy | pr c x y hx hy =>
    intro k h hk; obtain ⟨k, rfl⟩ : ∃ j, k = j + 1 := ⟨k - 1, by simp [Mt.dp] at hk; omega⟩
    simp [Mt.okl] at h
    simp [Mt.dp] at hk
    simp only [Mt.d]
    refine sp3_tup (by simp) ?_
    intro d hd
    simp only [List.mem_cons, List.not_mem_nil, or_false] at hd
    rcases hd with rfl | rfl | rfl | rfl
    · exact sp3_str (by decide) k
    · exact sp3_oS h.1 k
    · exact hx k h.2.1 (by omega)
    · exact hy k h.2.2 (by omega)
  | fn1 c x hx =>
    intro k h hk; obtain ⟨k, rfl⟩ : ∃ j, k = j + 1 := ⟨k - 1, by simp [Mt.dp] at hk; omega⟩
    simp [Mt.okl] at h
    simp [Mt.dp] at hk
    simp only [Mt.d]
    refine sp3_tup (by simp) ?_
    intro d hd
    simp only [List.mem_cons, List.not_mem_nil, or_false] at hd
    rcases hd with rfl | rfl | rfl | rfl
    · exact sp3_str (by decide) k
    · exact sp3_oS h.1 k
    · exact hx k h.2 (by omega)
    · exact sp3_non k
theorem mt_ht_dp (m : Mt) : m.ht ≤ m.dp := by
  induction m with
  | fail q b => rcases q with _ | ⟨g | _ | _, l⟩ <;> simp [Mt.dp, Mt.ht]
  | _ => simp [Mt.dp, Mt.ht] <;> omega
section
variable [HasF fs g0 C.f_ground_of] [HasF fs g0 C.f_check_of] [HasF fs g0 C.f_has_ground] [HasF fs g0 C.f_opened] [HasF fs g0 C.f_fits_tree] [HasF fs g0 C.f_parts_of] [HasF fs g0 C.f_tree_height] [HasF fs g0 C.f_Middle___init__] [GExn g0 "TooLarge"] [GExn g0 "BadMiddle"]
  [GSub g0 "str" "tuple" false] [GSub g0 "tuple" "tuple" true] [GInit g0 "Middle" "Middle.__init__"] [GCval g0 "Kind" "LIMIT" (.int 8)] [GFld g0 "Middle" "source"] [GFld g0 "Middle" "tree"] [GFld g0 "Middle" "target"] [GFld g0 "Kind" "tree"] [NProp g0 "Kind" "tree"] [NProp g0 "Middle" "source"] [NProp g0 "Middle" "tree"] [NProp g0 "Middle" "target"]
/-- a middle made or refused -/
theorem sp_newMiG {a b : Nat} {s t : Ki} {m : Mt} (ha : KiAt μ a s) (hb : KiAt μ b t) (hs : s.h ≤ 60) (ht : t.h ≤ 60) (ok : m.okl = true) (hd : m.dp ≤ 20) (hn : 30 ≤ n) :
    (newD (gN fs g0 n) "Middle" [.obj a, m.d, .obj b] μ).Wp (fun d μ' => (m.ht ≤ 8 ∧ m.fits s t = true) ∧ d = .obj μ.length ∧ Ex μ μ' ∧ MiAt μ' μ.length s m t)
      (fun x μ' => Ex μ μ' ∧ (8 < m.ht ∧ x = ⟨"TooLarge", []⟩ ∨ (m.ht ≤ 8 ∧ m.fits s t = false) ∧ x = ⟨"BadMiddle", []⟩)) := by
  have hh := mt_ht_dp m
  simp [newD_eq]
  refine wp_callF (f := C.f_Middle___init__) rfl rfl (by omega) ?_
  simp only [C.f_Middle___init__, C.b_Middle___init__, startE, List.map]
  simp
  refine (sp_tht m.dp m _ _ (Nat.le_refl _) (by omega) (by omega)).to ?_
  rintro d μ' ⟨rfl, ex⟩
  by_cases h8 : 8 < m.ht
  · have : (8 : Int) < m.ht := by omega
    have h8' : ¬ (m.ht ≤ 8) := by omega
    simp [this, h8, h8', isNon]
    exact (Ex.push _ _).trans ex
  have : ¬ (8 : Int) < m.ht := by omega
  have h8' : m.ht ≤ 8 := by omega
  have e0 : μ'[μ.length]? = some (.ins "Middle" []) := ex.at (by simp)
  have fa : KiAt μ' a s := ((Ex.push _ _).trans ex).at ha
  have fb : KiAt μ' b t := ((Ex.push _ _).trans ex).at hb
  have fa' := fa
  have fb' := fb
  unfold KiAt at fa' fb'
  have ft := fun μ => sp_fitsL (fs := fs) (g0 := g0) m s t (n - 1) μ ok hs ht (by omega)
  cases hf : m.fits s t with
  | false =>
    simp [this, fa', fb', ft, hf, h8, h8', isNon]
    exact (Ex.push _ _).trans ex
  | true =>
    simp [this, fa', fb', ft, hf, h8', e0, putF, isNon]
    have l0 := at_lt e0
    have na : a ≠ μ.length := by have := at_lt ha; omega
    have nb : b ≠ μ.length := by have := at_lt hb; omega
    simp [List.getElem?_set, l0]
    refine ⟨((Ex.push _ _).trans ex).set (Nat.le_refl _) _, a, b, at_set l0 _, ?_, ?_⟩
    · unfold KiAt
      rw [List.getElem?_set_ne (Ne.symm na)]
      exact fa
    · unfold KiAt
      rw [List.getElem?_set_ne (Ne.symm nb)]
      exact fb
end
/-! ### drawn trees, whose fail nodes tell a label -/
/-- labels are short texts; a fail node tells one -/
def Mt.okb : Mt → Bool
  | .any => true
  | .base _ c => okO c
  | .fail q bl => (match q with | none => true | some (_, l) => okO (some l)) && (okO bl && bl.isSome)
  | .fn c x y => okO c && (x.okb && y.okb)
  | .fn1 c x => okO c && x.okb
  | .pr c x y => okO c && (x.okb && y.okb)
theorem okb_okl (m : Mt) (h : m.okb = true) : m.okl = true := by
  induction m with
  | fn c x y a b | pr c x y a b =>
    simp only [Mt.okb, Bool.and_eq_true] at h
    simp [Mt.okl, h.1, a h.2.1, b h.2.2]
  | fn1 c x a =>
    simp only [Mt.okb, Bool.and_eq_true] at h
    simp [Mt.okl, h.1, a h.2]
  | fail q bl =>
    simp only [Mt.okb, Bool.and_eq_true] at h
    simp only [Mt.okl, Bool.and_eq_true]
    exact ⟨h.1, h.2.1⟩
  | _ => first | rfl | exact h
theorem okb_ok (m : Mt) : ∀ s t : Ki, m.okb = true → m.fits s t = true → m.ok = true := by
  induction m with
  | fn c x y a b =>
    intro s t h f
    simp only [Mt.okb, Bool.and_eq_true] at h
    simp only [Mt.fits, Bool.and_eq_true] at f
    simp [Mt.ok, h.1, a _ _ h.2.1 f.2.2.1, b _ _ h.2.2 f.2.2.2.2]
  | pr c x y a b =>
    intro s t h f
    simp only [Mt.okb, Bool.and_eq_true] at h
    simp only [Mt.fits, Bool.and_eq_true] at f
    simp [Mt.ok, h.1, a _ _ h.2.1 f.2.2.1, b _ _ h.2.2 f.2.2.2]
  | fn1 c x a =>
    intro s t h f
    simp only [Mt.okb, Bool.and_eq_true] at h
    simp only [Mt.fits, Bool.and_eq_true] at f
    simp [Mt.ok, h.1, a _ _ h.2 f.2.2.1, f.2.2.2]
  | fail q bl =>
    intro s t h f
    simp only [Mt.okb, Bool.and_eq_true] at h
    simp only [Mt.ok, Bool.and_eq_true]
    exact ⟨h.1, h.2.1⟩
  | _ => intro s t h f; first | rfl | exact h
theorem fl_okb {g : Gd} {c : Option S} {b : S} (h1 : okO c = true) (h2 : okO (some b) = true) : (fl g c (some b)).okb = true := by
  unfold fl
  cases c with
  | none => simpa [Mt.okb] using h2
  | some c => by_cases h : some c = some b <;> simp [h, Mt.okb, h1, h2]
/-- a tree that is drawn -/
def TrB (N : Nat) (s t : Ki) (d : D) : Prop := ∃ m : Mt, d = m.d ∧ m.okb = true ∧ m.fits s t = true ∧ m.ht ≤ N + 1
section
variable [HasF fs g0 C.f__law_draw] [HasF fs g0 C.f__law_name] [HasF fs g0 C.f__law_label]
theorem sp_ftreeB [HasF fs g0 C.f__law_failure] [HasF fs g0 C.f__law_fail_tree] (s t : Ki) (hs : s.h ≤ 60) (N : Nat) (hn : 4 ≤ n) (hd : Dr μ) : ((gN fs g0 n).callF "_law_fail_tree" [.obj 0, s.d] μ).Wp (fun d μ' => TrB N s t d ∧ (∃ m : Mt, d = m.d ∧ m.isF = true) ∧ Fr μ μ') noE := by
  refine wp_callF (f := C.f__law_fail_tree) rfl rfl (by omega) ?_
  simp only [C.f__law_fail_tree, C.b__law_fail_tree, startE, List.map]
  have hq := fun (μ : Store) => ki_ne (fs := fs) (g0 := g0) (n := n - 1) (μ := μ) s .q hs (by simp [Ki.h])
  simp
  refine (sp_label (by omega) hd).to ?_
  rintro d μ1 ⟨hm, fr⟩
  obtain ⟨b, rfl, ob⟩ := hm.oS (by decide)
  simp [hq]
  by_cases h : s = .q
  · simp [h]
    refine (sp_draw (by omega) fr.dr (by decide)).to ?_
    rintro d μ2 ⟨i, rfl, i1, i2, fr2⟩
    simp
    by_cases hi : i = 0
    · simp [hi]
      exact ⟨⟨.fail none (some b), rfl, by simpa [Mt.okb] using ob, by simp [Mt.fits], by simp [Mt.ht]⟩, ⟨.fail none (some b), rfl, rfl⟩, fr.trans fr2⟩
    · simp [hi]
      have f2 := fr2.trans (Fr.push fr2.dr (.lst [.str [105, 110, 116], .str [98, 111, 111, 108], .str [117, 110, 105, 116], .str [102, 117, 110], .str [112, 97, 105, 114]]))
      refine (sp_draw (by omega) f2.dr (by decide)).to ?_
      rintro d μ3 ⟨j, rfl, j1, j2, fr3⟩
      have h0 := fr3.at (show (μ2 ++ [MO.lst [D.str [105, 110, 116], .str [98, 111, 111, 108], .str [117, 110, 105, 116], .str [102, 117, 110], .str [112, 97, 105, 114]]])[μ2.length]? = some _ by simp; rfl) (by have := fr2.dr.pos; omega)
      obtain ⟨g, eg⟩ : ∃ g : Gd, atI [D.str [105, 110, 116], .str [98, 111, 111, 108], .str [117, 110, 105, 116], .str [102, 117, 110], .str [112, 97, 105, 114]] j = some (.str g.s) := by
        have : j = 0 ∨ j = 1 ∨ j = 2 ∨ j = 3 ∨ j = 4 := by omega
        rcases this with rfl | rfl | rfl | rfl | rfl
        · exact ⟨.bs .i, rfl⟩
        · exact ⟨.bs .b, rfl⟩
        · exact ⟨.bs .u, rfl⟩
        · exact ⟨.f, rfl⟩
        · exact ⟨.p, rfl⟩
      simp [h0, eg]
      refine (sp_label (by omega) fr3.dr).to ?_
      rintro d μ4 ⟨hm, fr4⟩
      obtain ⟨c, rfl, oc⟩ := hm.oS (by decide)
      have := sp_lfail (fs := fs) (g0 := g0) (n := n - 1) (μ := μ4) g oc ob (by omega)
      simp only [oS] at this
      simp [this]
      refine ⟨⟨_, rfl, fl_okb oc ob, fl_fits _ _ _ _ _ (.inr h), ?_⟩, ⟨_, rfl, fl_isF _ _ _⟩, ((fr.trans f2).trans fr3).trans fr4⟩
      have := fl_ht g (some c) (some b)
      cases g <;> simp at this <;> omega
  · simp [h]
    exact ⟨⟨.fail none (some b), rfl, by simpa [Mt.okb] using ob, by simp [Mt.fits], by simp [Mt.ht]⟩, ⟨.fail none (some b), rfl, rfl⟩, fr⟩
theorem sp_ltreeB [HasF fs g0 C.f__law_failure] [HasF fs g0 C.f__law_fail_tree] [HasF fs g0 C.f__law_has] [HasF fs g0 C.f__law_open] [HasF fs g0 C.f__law_tree] [GSub g0 "str" "tuple" false] [GSub g0 "tuple" "tuple" true] : ∀ (N : Nat) (s t : Ki) (h : Int) (n : Nat) (μ : Store), s.h ≤ N → t.h ≤ N → h ≤ N → N ≤ 50 → N + 6 ≤ n → Dr μ →
    ((gN fs g0 n).callF "_law_tree" [.obj 0, s.d, t.d, .int h] μ).Wp (fun d μ' => TrB N s t d ∧ Fr μ μ') noE := by
  intro N
  induction N using Nat.strongRecOn with
  | _ N ih0 =>
  intro s t h n μ hs ht hh hN hn hd
  have hqs := fun (n : Nat) (μ : Store) => ki_q (fs := fs) (g0 := g0) (n := n) (μ := μ) s (by omega)
  have hqt := fun (n : Nat) (μ : Store) => ki_q (fs := fs) (g0 := g0) (n := n) (μ := μ) t (by omega)
  simp only [str_q] at hqs hqt
  have e1 := fun (m : Mt) (μ : Store) => mt_eq (fs := fs) (g0 := g0) (n := n - 1) (μ := μ) m [102, 97, 105, 108] (by decide)
  refine wp_callF (f := C.f__law_tree) rfl rfl (by omega) ?_
  simp only [C.f__law_tree, C.b__law_tree, startE, List.map]
  generalize hR3 : Ss.cons (St.iff (E.not_ ((E.var 5).isi false ["tuple"])) _ _) _ = R3
  have rest3 : ∀ (K : Ki) (w : Int) (c : Option S) (μ1 : Store), Fr μ μ1 → K ≠ .q → s.has K.g = true → t.has K.g = true → (K.isT = true → 1 ≤ N) → okO c = true → okC c s = true →
      (Ss.den (gN fs g0 (n - 1)) none R3 [some (.obj 0), some s.d, some t.d, some (.int h), some (.int w), some K.d, some (oS c), none, none, none, none] μ1).Wp { N := fun _ _ => False, T := fun d μ' => TrB N s t d ∧ Fr μ μ' } := by
    intro K w c μ1 fr kq sg tg hT oc okc
    rw [← hR3]
    cases K with
    | q => exact absurd rfl kq
    | f x y =>
      have hN1 := hT rfl
      have o1 := fun μ => sp_lopen (fs := fs) (g0 := g0) (n := n - 1) (μ := μ) s .f (.inl rfl) (by omega) (by omega)
      have o2 := fun μ => sp_lopen (fs := fs) (g0 := g0) (n := n - 1) (μ := μ) t .f (.inl rfl) (by omega) (by omega)
      rw [op_f sg] at o1
      rw [op_f tg] at o2
      simp only [Gd.s] at o1 o2
      have h1 := pl_h1 s
      have h2 := pr_h1 s
      have h3 := pl_h1 t
      have h4 := pr_h1 t
      simp [Ki.isT, o1, o2]
      refine (ih0 (N - 1) (by omega) _ _ (h - 1) (n - 1) μ1 (by omega) (by omega) (by omega) (by omega) (by omega) fr.dr).to ?_
      rintro d μ2 ⟨⟨a, rfl, oa, fa, ha⟩, fr2⟩
      simp [e1, w_fail]
      by_cases F : a.isF = true
      · simp [F]
        exact ⟨⟨.fn1 c a, rfl, by simp [Mt.okb, oc, oa, F], by simp [Mt.fits, okc, sg, tg, fa, F, show s.has .f = true from sg, show t.has .f = true from tg], by simp only [Mt.ht]; omega⟩, fr.trans fr2⟩
      · simp only [Bool.not_eq_true] at F
        simp [F]
        refine (ih0 (N - 1) (by omega) _ _ (h - 1) (n - 1) μ2 (by omega) (by omega) (by omega) (by omega) (by omega) fr2.dr).to ?_
        rintro d μ3 ⟨⟨r, rfl, or, fr', hr⟩, fr3⟩
        simp
        exact ⟨⟨.fn c a r, rfl, by simp [Mt.okb, oc, oa, or], by simp [Mt.fits, okc, fa, F, fr', show s.has .f = true from sg, show t.has .f = true from tg], by simp only [Mt.ht]; omega⟩, (fr.trans fr2).trans fr3⟩
    | p x y =>
      have hN1 := hT rfl
      have o1 := fun μ => sp_lopen (fs := fs) (g0 := g0) (n := n - 1) (μ := μ) s .p (.inr rfl) (by omega) (by omega)
      have o2 := fun μ => sp_lopen (fs := fs) (g0 := g0) (n := n - 1) (μ := μ) t .p (.inr rfl) (by omega) (by omega)
      rw [op_p sg] at o1
      rw [op_p tg] at o2
      simp only [Gd.s] at o1 o2
      have h1 := pl_h1 s
      have h2 := pr_h1 s
      have h3 := pl_h1 t
      have h4 := pr_h1 t
      simp [Ki.isT, o1, o2]
      refine (ih0 (N - 1) (by omega) _ _ (h - 1) (n - 1) μ1 (by omega) (by omega) (by omega) (by omega) (by omega) fr.dr).to ?_
      rintro d μ2 ⟨⟨a, rfl, oa, fa, ha⟩, fr2⟩
      simp
      refine (ih0 (N - 1) (by omega) _ _ (h - 1) (n - 1) μ2 (by omega) (by omega) (by omega) (by omega) (by omega) fr2.dr).to ?_
      rintro d μ3 ⟨⟨r, rfl, or, fr', hr⟩, fr3⟩
      simp
      exact ⟨⟨.pr c a r, rfl, by simp [Mt.okb, oc, oa, or], by simp [Mt.fits, okc, fa, fr', show s.has .p = true from sg, show t.has .p = true from tg], by simp only [Mt.ht]; omega⟩, (fr.trans fr2).trans fr3⟩
    | i =>
      simp [Ki.isT]
      exact ⟨⟨.base .i c, rfl, oc, by simp [Mt.fits, okc, show s.has (.bs .i) = true from sg, show t.has (.bs .i) = true from tg], by simp [Mt.ht]⟩, fr⟩
    | b =>
      simp [Ki.isT]
      exact ⟨⟨.base .b c, rfl, oc, by simp [Mt.fits, okc, show s.has (.bs .b) = true from sg, show t.has (.bs .b) = true from tg], by simp [Mt.ht]⟩, fr⟩
    | u =>
      simp [Ki.isT]
      exact ⟨⟨.base .u c, rfl, oc, by simp [Mt.fits, okc, show s.has (.bs .u) = true from sg, show t.has (.bs .u) = true from tg], by simp [Mt.ht]⟩, fr⟩
  generalize hR2 : Ss.cons (St.set (Tg.name 6) (E.lit D.non)) _ = R2
  have rest2 : ∀ (K : Ki) (w : Int) (μ1 : Store), Fr μ μ1 → K ≠ .q → s.has K.g = true → t.has K.g = true → (K.isT = true → 1 ≤ N) →
      (Ss.den (gN fs g0 (n - 1)) none R2 [some (.obj 0), some s.d, some t.d, some (.int h), some (.int w), some K.d, none, none, none, none, none] μ1).Wp { N := fun _ _ => False, T := fun d μ' => TrB N s t d ∧ Fr μ μ' } := by
    intro K w μ1 fr kq sg tg hT
    rw [← hR2]
    simp [hqs]
    by_cases q : s = .q
    · simp [q]
      refine (sp_label (by omega) fr.dr).to ?_
      rintro d μ2 ⟨hm, fr2⟩
      obtain ⟨c, rfl, oc⟩ := hm.oS (by decide)
      have := rest3 K w (some c) μ2 (fr.trans fr2) kq sg tg hT oc (by simp [okC, q])
      simp [q, oS] at this ⊢
      exact this
    · simp [q]
      exact rest3 K w none μ1 fr kq sg tg hT rfl (by simp [okC, q])
  have hns := fun (μ : Store) => ki_ne (fs := fs) (g0 := g0) (n := n - 1) (μ := μ) s .q (by omega) (by simp [Ki.h])
  have hnt := fun (μ : Store) => ki_ne (fs := fs) (g0 := g0) (n := n - 1) (μ := μ) t .q (by omega) (by simp [Ki.h])
  have hl := fun (g : Gd) (μ : Store) => sp_lhas (fs := fs) (g0 := g0) (n := n - 1) (μ := μ) t g (by omega) (by omega)
  by_cases q : s = .q
  · simp [hqs, q]
    refine (sp_draw (by omega) hd (by decide)).to ?_
    rintro d μ1 ⟨w, rfl, w1, w2, fr⟩
    subst q
    simp [hns, hqs]
    by_cases w7 : w = 7
    · simp [w7]
      refine (sp_ftreeB .q t (by simp [Ki.h]) N (by omega) fr.dr).to ?_
      rintro d μ2 ⟨h1, _, fr2⟩
      exact ⟨h1, fr.trans fr2⟩
    · simp [w7, hqt]
      by_cases qt : t = .q
      · simp [qt]
        subst qt
        by_cases wl : w < 2
        · simp [wl]
          exact ⟨⟨.any, rfl, rfl, by simp [Mt.fits], by simp [Mt.ht]⟩, fr⟩
        · simp [wl]
          have bas : ((gN fs g0 (n - 1)).callF "_law_draw" [D.obj 0, D.int 3] (μ1 ++ [MO.lst [D.str [105, 110, 116], D.str [98, 111, 111, 108], D.str [117, 110, 105, 116]]])).Wp (fun y μ' => ∃ K : Ki, idx (.obj μ1.length) y μ' = .ok K.d μ' ∧ K.isT = false ∧ K ≠ .q ∧ Fr μ μ') noE := by
            have f2 := Fr.push fr.dr (.lst [.str [105, 110, 116], .str [98, 111, 111, 108], .str [117, 110, 105, 116]])
            refine (sp_draw (by omega) f2.dr (by decide)).to ?_
            rintro d μ3 ⟨j, rfl, j1, j2, fr3⟩
            have h0 := fr3.at (show (μ1 ++ [MO.lst [D.str [105, 110, 116], .str [98, 111, 111, 108], .str [117, 110, 105, 116]]])[μ1.length]? = some _ by simp; rfl) (by have := fr.dr.pos; omega)
            have : j = 0 ∨ j = 1 ∨ j = 2 := by omega
            rcases this with rfl | rfl | rfl
            · exact ⟨.i, by simp [h0, atI, ixN]; rfl, rfl, by simp, (fr.trans f2).trans fr3⟩
            · exact ⟨.b, by simp [h0, atI, ixN]; rfl, rfl, by simp, (fr.trans f2).trans fr3⟩
            · exact ⟨.u, by simp [h0, atI, ixN]; rfl, rfl, by simp, (fr.trans f2).trans fr3⟩
          have tup : ((gN fs g0 (n - 1)).callF "_law_draw" [D.obj 0, D.int 2] (μ1 ++ [MO.lst [(Ki.q.f Ki.q).d, (Ki.q.p Ki.q).d]])).Wp (fun y μ' => ∃ K : Ki, idx (.obj μ1.length) y μ' = .ok K.d μ' ∧ K ≠ .q ∧ Fr μ μ') noE := by
            have f2 := Fr.push fr.dr (.lst [(Ki.q.f Ki.q).d, (Ki.q.p Ki.q).d])
            refine (sp_draw (by omega) f2.dr (by decide)).to ?_
            rintro d μ3 ⟨j, rfl, j1, j2, fr3⟩
            have h0 := fr3.at (show (μ1 ++ [MO.lst [(Ki.q.f Ki.q).d, (Ki.q.p Ki.q).d]])[μ1.length]? = some _ by simp; rfl) (by have := fr.dr.pos; omega)
            have : j = 0 ∨ j = 1 := by omega
            rcases this with rfl | rfl
            · exact ⟨.f .q .q, by simp [h0, atI, ixN], by simp, (fr.trans f2).trans fr3⟩
            · exact ⟨.p .q .q, by simp [h0, atI, ixN], by simp, (fr.trans f2).trans fr3⟩
          by_cases wb : w < 5
          · simp [wb]
            refine bas.to ?_
            rintro d μ2 ⟨K, e, kt, kq, fr2⟩
            simp [e]
            exact wp_rt (rest2 K w μ2 fr2 kq rfl rfl (by simp [kt]))
          · by_cases hb : h ≤ 0
            · simp [wb, hb]
              refine bas.to ?_
              rintro d μ2 ⟨K, e, kt, kq, fr2⟩
              simp [e]
              exact wp_rt (rest2 K w μ2 fr2 kq rfl rfl (by simp [kt]))
            · simp [wb, hb]
              refine tup.to ?_
              rintro d μ2 ⟨K, e, kq, fr2⟩
              simp [e]
              exact wp_rt (rest2 K w μ2 fr2 kq rfl rfl (fun _ => by omega))
      · simp [qt]
        exact wp_rt (rest2 t w μ1 fr qt rfl (has_g qt) (fun z => Nat.le_trans (isT_h z) ht))
  · simp [hqs, q]
    refine (sp_draw (by omega) hd (by decide)).to ?_
    rintro d μ1 ⟨w, rfl, w1, w2, fr⟩
    have ff : ((gN fs g0 (n - 1)).callF "_law_fail_tree" [D.obj 0, s.d] μ1).Wp (fun d μ' => TrB N s t d ∧ Fr μ μ') noE := by
      refine (sp_ftreeB s t (by omega) N (by omega) fr.dr).to ?_
      rintro d μ2 ⟨h1, _, fr2⟩
      exact ⟨h1, fr.trans fr2⟩
    simp [hns, hnt, hqs, q]
    by_cases qt : t = .q
    · subst qt
      simp
      by_cases w7 : w = 7
      · simp [w7]
        exact ff
      · simp [w7]
        exact wp_rt (rest2 s w μ1 fr q (has_g q) rfl (fun z => Nat.le_trans (isT_h z) hs))
    · simp [qt]
      by_cases hT : s.isT = true
      · simp [hT, g_idx hT, hl]
        by_cases hh2 : t.has s.g = true
        · simp [hh2]
          by_cases w7 : w = 7
          · simp [w7]
            exact ff
          · simp [w7, hqs, q]
            exact wp_rt (rest2 s w μ1 fr q (has_g q) hh2 (fun z => Nat.le_trans (isT_h z) hs))
        · simp [hh2]
          exact ff
      · simp only [Bool.not_eq_true] at hT
        have hl' := fun μ => hl s.g μ
        rw [← g_str q hT] at hl'
        simp [hT, hl']
        by_cases hh2 : t.has s.g = true
        · simp [hh2]
          by_cases w7 : w = 7
          · simp [w7]
            exact ff
          · simp [w7, hqs, q]
            exact wp_rt (rest2 s w μ1 fr q (has_g q) hh2 (fun z => Nat.le_trans (isT_h z) hs))
        · simp [hh2]
          exact ff
theorem sp_nestB [HasF fs g0 C.f__law_nest] (k : Nat) (hk : k ≤ 10) (hn : 4 ≤ n) (hd : Dr μ) : ((gN fs g0 n).callF "_law_nest" [.obj 0, .int k] μ).Wp (fun d μ' => (∃ m : Mt, d = m.d ∧ m.okb = true ∧ m.fits .q .q = true ∧ m.ht ≤ 11) ∧ Fr μ μ') noE := by
  have e1 := fun (m : Mt) (μ : Store) => mt_eq (fs := fs) (g0 := g0) (n := n - 1) (μ := μ) m [102, 97, 105, 108] (by decide)
  refine wp_callF (f := C.f__law_nest) rfl rfl (by omega) ?_
  simp only [C.f__law_nest, C.b__law_nest, startE, List.map]
  generalize hR : Ss.cons (St.for_ (Tg.name 4) _ _) _ = R
  have rest : ∀ (m : Mt) (l : D) (μ1 : Store), Fr μ μ1 → m.okb = true → m.fits .q .q = true → m.ht ≤ 1 →
      (Ss.den (gN fs g0 (n - 1)) none R [some (.obj 0), some (.int k), some l, some m.d, none, none, none] μ1).Wp { N := fun _ _ => False, T := fun d μ' => (∃ m : Mt, d = m.d ∧ m.okb = true ∧ m.fits .q .q = true ∧ m.ht ≤ 11) ∧ Fr μ μ' } := by
    intro m l μ1 fr om fm hm
    rw [← hR]
    simp [ws_for]
    rw [range_ok (okR_of (by decide) (by decide)) (okR_of (by omega) (by omega))]
    simp [forD]
    refine wp_forP (fun i ρ μ' => ∃ (m : Mt) (x y z : Option D), ρ = [some (.obj 0), some (.int k), some l, some m.d, x, y, z] ∧ m.okb = true ∧ m.fits .q .q = true ∧ m.ht ≤ 1 + i ∧ Fr μ μ') ⟨m, none, none, none, rfl, om, fm, by omega, fr⟩ ?_ ?_
    · rintro i d ρ μ2 hi ⟨m, x, y, z, rfl, om, fm, hm, fr2⟩
      obtain ⟨hi1, rfl⟩ := rints_at hi
      simp
      refine (sp_label (by omega) fr2.dr).to ?_
      rintro d μ3 ⟨hm', fr3⟩
      obtain ⟨c, rfl, oc⟩ := hm'.oS (by decide)
      simp
      refine (sp_draw (by omega) fr3.dr (by decide)).to ?_
      rintro d μ4 ⟨w, rfl, w1, w2, fr4⟩
      have f4 := (fr2.trans fr3).trans fr4
      have : w = 0 ∨ w = 1 ∨ w = 2 ∨ w = 3 := by omega
      rcases this with rfl | rfl | rfl | rfl
      · simp
        exact ⟨.pr (some c) m .any, rfl, by simp [Mt.okb, oc, om], by simp [Mt.fits, okC, Ki.has, Ki.pl, Ki.pr, fm], by simp [Mt.ht]; omega, f4⟩
      · simp
        exact ⟨.pr (some c) (.base .b (some [114])) m, rfl, by simp [Mt.okb, oc, om, show okO (some [114]) = true from by decide], by simp [Mt.fits, okC, Ki.has, Ki.pl, Ki.pr, fm], by simp [Mt.ht]; omega, f4⟩
      · simp
        exact ⟨.fn (some c) .any m, rfl, by simp [Mt.okb, oc, om], by simp [Mt.fits, okC, Ki.has, Ki.pl, Ki.pr, fm, Mt.isF], by simp [Mt.ht]; omega, f4⟩
      · simp [e1, w_fail]
        by_cases F : m.isF = true
        · simp [F]
          exact ⟨.fn1 (some c) m, rfl, by simp [Mt.okb, oc, om, F], by simp [Mt.fits, okC, Ki.has, Ki.pl, Ki.pr, fm, F], by simp [Mt.ht]; omega, f4⟩
        · simp [F]
          exact ⟨.fn (some c) m (.base .i (some [115])), rfl, by simp [Mt.okb, oc, om, show okO (some [115]) = true from by decide], by simp [Mt.fits, okC, Ki.has, Ki.pl, Ki.pr, fm, F], by simp [Mt.ht]; omega, f4⟩
    · rintro ρ μ2 ⟨m, x, y, z, rfl, om, fm, hm, fr2⟩
      rw [rints_len] at hm
      simp
      exact ⟨⟨m, rfl, om, fm, by omega⟩, fr2⟩
  simp
  generalize hL : [D.tup [D.str [97, 110, 121]], D.tup [D.str [98, 97, 115, 101], D.str [105, 110, 116], D.str [112]], _, _, _] = L
  have f2 := Fr.push hd (.lst L)
  refine (sp_draw (by omega) f2.dr (by decide)).to ?_
  rintro d μ3 ⟨j, rfl, j1, j2, fr3⟩
  have h0 := fr3.at (show (μ ++ [MO.lst L])[μ.length]? = some _ by simp; rfl) (by have := hd.pos; omega)
  obtain ⟨m, em, om, fm, hm⟩ : ∃ m : Mt, atI L j = some m.d ∧ m.okb = true ∧ m.fits .q .q = true ∧ m.ht ≤ 1 := by
    subst hL
    have : j = 0 ∨ j = 1 ∨ j = 2 ∨ j = 3 ∨ j = 4 := by omega
    rcases this with rfl | rfl | rfl | rfl | rfl
    · exact ⟨.any, rfl, by decide, by decide, by decide⟩
    · exact ⟨.base .i (some [112]), rfl, by decide, by decide, by decide⟩
    · exact ⟨.fail none (some [113]), rfl, by decide, by decide, by decide⟩
    · exact ⟨.fail (some (.p, [112])) (some [113]), rfl, by decide, by decide, by decide⟩
    · exact ⟨.fail (some (.bs .i, [112])) (some [126, 112]), rfl, by decide, by decide, by decide⟩
  simp [h0, em]
  exact wp_rt (rest m _ μ3 (f2.trans fr3) om fm hm)
end
end
end Pn
end

section
set_option linter.all false
set_option autoImplicit false
set_option maxRecDepth 10000
/-! The law's text as tables (printed by gen.py). -/
namespace Pn.K28
open Py Pn
instance : GNf pt.g "Kind" "NoneType" := ⟨rfl⟩
instance : GNf pt.g "Kind" "bool" := ⟨rfl⟩
instance : GNf pt.g "Kind" "int" := ⟨rfl⟩
instance : GNf pt.g "Kind" "str" := ⟨rfl⟩
instance : GNf pt.g "Kind" "tuple" := ⟨rfl⟩
instance : GNf pt.g "Kind" "list" := ⟨rfl⟩
instance : GNf pt.g "Kind" "Kind" := ⟨rfl⟩
instance : GNf pt.g "Kind" "Middle" := ⟨rfl⟩
instance : GNf pt.g "Middle" "NoneType" := ⟨rfl⟩
instance : GNf pt.g "Middle" "bool" := ⟨rfl⟩
instance : GNf pt.g "Middle" "int" := ⟨rfl⟩
instance : GNf pt.g "Middle" "str" := ⟨rfl⟩
instance : GNf pt.g "Middle" "tuple" := ⟨rfl⟩
instance : GNf pt.g "Middle" "list" := ⟨rfl⟩
instance : GNf pt.g "Middle" "Kind" := ⟨rfl⟩
instance : GNf pt.g "Middle" "Middle" := ⟨rfl⟩
instance : GDne pt.g "Kind" := ⟨rfl⟩
instance : NMeth pt.g "Kind" "__ne__" := ⟨rfl⟩
instance : GDne pt.g "Middle" := ⟨rfl⟩
instance : NMeth pt.g "Middle" "__ne__" := ⟨rfl⟩
instance : HasF pt.fds pt.g C.f_kind_height := ⟨rfl, rfl, rfl⟩
instance : HasF pt.fds pt.g C.f_has_ground := ⟨rfl, rfl, rfl⟩
instance : HasF pt.fds pt.g C.f_opened := ⟨rfl, rfl, rfl⟩
instance : HasF pt.fds pt.g C.f_ground_of := ⟨rfl, rfl, rfl⟩
instance : HasF pt.fds pt.g C.f_check_of := ⟨rfl, rfl, rfl⟩
instance : HasF pt.fds pt.g C.f_parts_of := ⟨rfl, rfl, rfl⟩
instance : HasF pt.fds pt.g C.f_tree_height := ⟨rfl, rfl, rfl⟩
instance : HasF pt.fds pt.g C.f_fits_tree := ⟨rfl, rfl, rfl⟩
instance : HasF pt.fds pt.g C.f__law_draws := ⟨rfl, rfl, rfl⟩
instance : HasF pt.fds pt.g C.f__law_draw := ⟨rfl, rfl, rfl⟩
instance : HasF pt.fds pt.g C.f__law_name := ⟨rfl, rfl, rfl⟩
instance : HasF pt.fds pt.g C.f__law_label := ⟨rfl, rfl, rfl⟩
instance : HasF pt.fds pt.g C.f__law_same := ⟨rfl, rfl, rfl⟩
instance : HasF pt.fds pt.g C.f__law_kind := ⟨rfl, rfl, rfl⟩
instance : HasF pt.fds pt.g C.f__law_agreeing := ⟨rfl, rfl, rfl⟩
instance : HasF pt.fds pt.g C.f__law_has := ⟨rfl, rfl, rfl⟩
instance : HasF pt.fds pt.g C.f__law_open := ⟨rfl, rfl, rfl⟩
instance : HasF pt.fds pt.g C.f__law_ground := ⟨rfl, rfl, rfl⟩
instance : HasF pt.fds pt.g C.f__law_check := ⟨rfl, rfl, rfl⟩
instance : HasF pt.fds pt.g C.f__law_failure := ⟨rfl, rfl, rfl⟩
instance : HasF pt.fds pt.g C.f__law_parts := ⟨rfl, rfl, rfl⟩
instance : HasF pt.fds pt.g C.f__law_tree_high := ⟨rfl, rfl, rfl⟩
instance : HasF pt.fds pt.g C.f__law_fail_tree := ⟨rfl, rfl, rfl⟩
instance : HasF pt.fds pt.g C.f__law_tree := ⟨rfl, rfl, rfl⟩
instance : HasF pt.fds pt.g C.f__law_is_middle := ⟨rfl, rfl, rfl⟩
instance : HasF pt.fds pt.g C.f__law_tree_fits := ⟨rfl, rfl, rfl⟩
instance : HasF pt.fds pt.g C.f__law_nest := ⟨rfl, rfl, rfl⟩
instance : HasF pt.fds pt.g f__law_spoilt := ⟨rfl, rfl, rfl⟩
instance : HasF pt.fds pt.g f__law_due := ⟨rfl, rfl, rfl⟩
instance : HasF pt.fds pt.g f__law_asked := ⟨rfl, rfl, rfl⟩
instance : HasF pt.fds pt.g f__law_questions := ⟨rfl, rfl, rfl⟩
instance : HasF pt.fds pt.g f__law_equality_due := ⟨rfl, rfl, rfl⟩
instance : HasF pt.fds pt.g f_law := ⟨rfl, rfl, rfl⟩
instance : HasF pt.fds pt.g C.f_Kind___init__ := ⟨rfl, rfl, rfl⟩
instance : HasF pt.fds pt.g C.f_Kind___eq__ := ⟨rfl, rfl, rfl⟩
instance : HasF pt.fds pt.g C.f_Middle___init__ := ⟨rfl, rfl, rfl⟩
instance : HasF pt.fds pt.g C.f_Middle___eq__ := ⟨rfl, rfl, rfl⟩
instance : GIns pt.g "Kind" := ⟨rfl⟩
instance : GInit pt.g "Kind" "Kind.__init__" := ⟨rfl⟩
instance : GMeth pt.g "Kind" "__eq__" "Kind.__eq__" := ⟨rfl⟩
instance : GCon pt.g "Kind" "LIMIT" (.int 8) := ⟨rfl⟩
instance : GCval pt.g "Kind" "LIMIT" (.int 8) := ⟨rfl⟩
instance : GFld pt.g "Kind" "tree" := ⟨rfl⟩
instance : NProp pt.g "Kind" "tree" := ⟨rfl⟩
instance : NProp pt.g "Kind" "LIMIT" := ⟨rfl⟩
instance : GIns pt.g "Middle" := ⟨rfl⟩
instance : GInit pt.g "Middle" "Middle.__init__" := ⟨rfl⟩
instance : GMeth pt.g "Middle" "__eq__" "Middle.__eq__" := ⟨rfl⟩
instance : GFld pt.g "Middle" "source" := ⟨rfl⟩
instance : GFld pt.g "Middle" "target" := ⟨rfl⟩
instance : GFld pt.g "Middle" "tree" := ⟨rfl⟩
instance : NProp pt.g "Middle" "source" := ⟨rfl⟩
instance : NProp pt.g "Middle" "target" := ⟨rfl⟩
instance : NProp pt.g "Middle" "tree" := ⟨rfl⟩
instance : GGlo pt.g "Kind" (.cls "Kind") := ⟨rfl⟩
instance : GGlo pt.g "Middle" (.cls "Middle") := ⟨rfl⟩
instance : GSub pt.g "NoneType" "Kind" false := ⟨rfl⟩
instance : GSub pt.g "NoneType" "Middle" false := ⟨rfl⟩
instance : GSub pt.g "NoneType" "bool" false := ⟨rfl⟩
instance : GSub pt.g "NoneType" "int" false := ⟨rfl⟩
instance : GSub pt.g "NoneType" "list" false := ⟨rfl⟩
instance : GSub pt.g "NoneType" "str" false := ⟨rfl⟩
instance : GSub pt.g "NoneType" "tuple" false := ⟨rfl⟩
instance : GSub pt.g "bool" "Kind" false := ⟨rfl⟩
instance : GSub pt.g "bool" "Middle" false := ⟨rfl⟩
instance : GSub pt.g "bool" "bool" true := ⟨rfl⟩
instance : GSub pt.g "bool" "int" true := ⟨rfl⟩
instance : GSub pt.g "bool" "list" false := ⟨rfl⟩
instance : GSub pt.g "bool" "str" false := ⟨rfl⟩
instance : GSub pt.g "bool" "tuple" false := ⟨rfl⟩
instance : GSub pt.g "int" "Kind" false := ⟨rfl⟩
instance : GSub pt.g "int" "Middle" false := ⟨rfl⟩
instance : GSub pt.g "int" "bool" false := ⟨rfl⟩
instance : GSub pt.g "int" "int" true := ⟨rfl⟩
instance : GSub pt.g "int" "list" false := ⟨rfl⟩
instance : GSub pt.g "int" "str" false := ⟨rfl⟩
instance : GSub pt.g "int" "tuple" false := ⟨rfl⟩
instance : GSub pt.g "str" "Kind" false := ⟨rfl⟩
instance : GSub pt.g "str" "Middle" false := ⟨rfl⟩
instance : GSub pt.g "str" "bool" false := ⟨rfl⟩
instance : GSub pt.g "str" "int" false := ⟨rfl⟩
instance : GSub pt.g "str" "list" false := ⟨rfl⟩
instance : GSub pt.g "str" "str" true := ⟨rfl⟩
instance : GSub pt.g "str" "tuple" false := ⟨rfl⟩
instance : GSub pt.g "tuple" "Kind" false := ⟨rfl⟩
instance : GSub pt.g "tuple" "Middle" false := ⟨rfl⟩
instance : GSub pt.g "tuple" "bool" false := ⟨rfl⟩
instance : GSub pt.g "tuple" "int" false := ⟨rfl⟩
instance : GSub pt.g "tuple" "list" false := ⟨rfl⟩
instance : GSub pt.g "tuple" "str" false := ⟨rfl⟩
instance : GSub pt.g "tuple" "tuple" true := ⟨rfl⟩
instance : GSub pt.g "list" "Kind" false := ⟨rfl⟩
instance : GSub pt.g "list" "Middle" false := ⟨rfl⟩
instance : GSub pt.g "list" "bool" false := ⟨rfl⟩
instance : GSub pt.g "list" "int" false := ⟨rfl⟩
instance : GSub pt.g "list" "list" true := ⟨rfl⟩
instance : GSub pt.g "list" "str" false := ⟨rfl⟩
instance : GSub pt.g "list" "tuple" false := ⟨rfl⟩
instance : GSub pt.g "Middle" "Kind" false := ⟨rfl⟩
instance : GSub pt.g "Middle" "Middle" true := ⟨rfl⟩
instance : GSub pt.g "Middle" "bool" false := ⟨rfl⟩
instance : GSub pt.g "Middle" "int" false := ⟨rfl⟩
instance : GSub pt.g "Middle" "list" false := ⟨rfl⟩
instance : GSub pt.g "Middle" "str" false := ⟨rfl⟩
instance : GSub pt.g "Middle" "tuple" false := ⟨rfl⟩
instance : GSub pt.g "Kind" "Kind" true := ⟨rfl⟩
instance : GSub pt.g "Kind" "Middle" false := ⟨rfl⟩
instance : GSub pt.g "Kind" "bool" false := ⟨rfl⟩
instance : GSub pt.g "Kind" "int" false := ⟨rfl⟩
instance : GSub pt.g "Kind" "list" false := ⟨rfl⟩
instance : GSub pt.g "Kind" "str" false := ⟨rfl⟩
instance : GSub pt.g "Kind" "tuple" false := ⟨rfl⟩
instance : GSub pt.g "CastsError" "BadMiddle" false := ⟨rfl⟩
instance : GSub pt.g "CastsError" "TooLarge" false := ⟨rfl⟩
instance : GSub pt.g "TooLarge" "BadMiddle" false := ⟨rfl⟩
instance : GSub pt.g "TooLarge" "TooLarge" true := ⟨rfl⟩
instance : GSub pt.g "BadMiddle" "BadMiddle" true := ⟨rfl⟩
instance : GSub pt.g "BadMiddle" "TooLarge" false := ⟨rfl⟩
instance : GExm pt.g "CastsError" "CastsError" true := ⟨rfl⟩
instance : GExm pt.g "TooLarge" "CastsError" true := ⟨rfl⟩
instance : GExm pt.g "BadMiddle" "CastsError" true := ⟨rfl⟩
instance : GExn pt.g "CastsError" := ⟨rfl⟩
instance : GExn pt.g "TooLarge" := ⟨rfl⟩
instance : GExn pt.g "BadMiddle" := ⟨rfl⟩
instance : GWf pt.g := ⟨rfl⟩
instance : BtF pt.g := ⟨⟨fun t c ht hc => Gs.bt_of (by decide +kernel) t c ht hc⟩⟩
end Pn.K28
end

section
set_option linter.all false
set_option autoImplicit false
set_option maxHeartbeats 4000000
set_option maxRecDepth 10000
namespace Pn.K28
open Py Pn Pn.Lb
variable {n : Nat} {μ : Store}
theorem sp_lparts (m : Mt) (hn : 1 ≤ n) : ((gN pt.fds pt.g n).callF "_law_parts" [m.d] μ).Wp (fun d μ' => ∃ o, d = .obj o ∧ Ex μ μ' ∧ μ'[o]? = some (.lst (m.kids.map Mt.d)) ∧ μ.length ≤ o) noE := by
  have e2 := fun (m : Mt) (μ : Store) => mt_ne (fs := pt.fds) (g0 := pt.g) (n := n - 1) (μ := μ) m [102, 117, 110] (by decide)
  have e3 := fun (m : Mt) (μ : Store) => mt_ne (fs := pt.fds) (g0 := pt.g) (n := n - 1) (μ := μ) m [112, 97, 105, 114] (by decide)
  refine wp_callF (f := C.f__law_parts) rfl rfl (by omega) ?_
  simp only [C.f__law_parts, C.b__law_parts, startE, List.map]
  simp [e2, e3, w_fun, w_pair]
  cases m with
  | fn c x y | pr c x y =>
    simp
    refine wp_compL (ds := [x.d, y.d]) (fun i acc μ' => acc = ([x, y].take i).map Mt.d ∧ Ex (μ ++ [.lst [x.d, y.d]]) μ' ∧ μ'[μ.length + 1]? = some (.lst acc)) (by simp) ?_ ⟨rfl, Ex.push _ _, by simp⟩ ?_ ?_
    · rintro i acc μ' ⟨_, ex, _⟩
      exact ex.at (by simp)
    · rintro i d acc μ' hi ⟨rfl, ex, h1⟩
      have : i = 0 ∨ i = 1 := by have := (List.getElem?_eq_some_iff.mp hi).1; simp at this; omega
      rcases this with rfl | rfl
      · simp at hi
        subst hi
        simp at h1
        simp [h1]
        exact ⟨ex.set (by simp) _, at_set (at_lt h1) _⟩
      · simp at hi
        subst hi
        simp at h1
        simp [h1]
        exact ⟨ex.set (by simp) _, at_set (at_lt h1) _⟩
    · rintro acc μ' ⟨rfl, ex, h1⟩
      simp at h1 ⊢
      exact ⟨(Ex.push _ _).trans ex, by simpa [Mt.kids] using h1⟩
  | fn1 c x =>
    simp
    refine wp_compL (ds := [x.d, .non]) (fun i acc μ' => acc = ([x].take i).map Mt.d ∧ Ex (μ ++ [.lst [x.d, .non]]) μ' ∧ μ'[μ.length + 1]? = some (.lst acc)) (by simp) ?_ ⟨rfl, Ex.push _ _, by simp⟩ ?_ ?_
    · rintro i acc μ' ⟨_, ex, _⟩
      exact ex.at (by simp)
    · rintro i d acc μ' hi ⟨rfl, ex, h1⟩
      have : i = 0 ∨ i = 1 := by have := (List.getElem?_eq_some_iff.mp hi).1; simp at this; omega
      rcases this with rfl | rfl
      · simp at hi
        subst hi
        simp at h1
        simp [h1]
        exact ⟨ex.set (by simp) _, at_set (at_lt h1) _⟩
      · simp at hi
        subst hi
        simp at h1
        simp [h1]
        exact ex
    · rintro acc μ' ⟨rfl, ex, h1⟩
      simp at h1 ⊢
      exact ⟨(Ex.push _ _).trans ex, by simpa [Mt.kids] using h1⟩
  | _ =>
    simp [Mt.kids]
    exact Ex.push _ _
/-- heights by the law -/
theorem sp_high : ∀ (N : Nat) (m : Mt) (n : Nat) (μ : Store), m.dp ≤ N → m.ht ≤ 1000 → m.dp + 2 ≤ n → ((gN pt.fds pt.g n).callF "_law_tree_high" [m.d] μ).Wp (fun d μ' => d = .int m.ht ∧ Ex μ μ') noE := by
  intro N
  induction N with
  | zero => intro m n μ h; have : 1 ≤ m.dp := by cases m <;> simp [Mt.dp]
            omega
  | succ N ih =>
    intro m n μ hN hh hn
    have e1 := fun (m : Mt) (μ : Store) => mt_eq (fs := pt.fds) (g0 := pt.g) (n := n - 1) (μ := μ) m [102, 97, 105, 108] (by decide)
    refine wp_callF (f := C.f__law_tree_high) rfl rfl (by omega) ?_
    simp only [C.f__law_tree_high, C.b__law_tree_high, startE, List.map]
    generalize hR : Ss.cons (St.for_ _ _ _) _ = R
    have rest : (Ss.den (gN pt.fds pt.g (n - 1)) none R [some m.d, some (.int m.hb), none, none] μ).Wp { N := fun _ _ => False, T := fun d μ' => d = .int m.ht ∧ Ex μ μ' } := by
      rw [← hR]
      simp [ws_for]
      refine (sp_lparts m (by omega)).to ?_
      rintro d μ2 ⟨o, rfl, ex2, h2, _⟩
      simp [h2]
      refine wp_forL (ds := m.kids.map Mt.d) (fun i ρ μ' => Ex μ2 μ' ∧ ∃ x y, ρ = [some m.d, some (.int ((m.kids.take i).foldl (fun a k => max a (1 + k.ht)) m.hb : Nat)), x, y]) ?_ ⟨Ex.refl _, none, none, by simp⟩ ?_ ?_
      · rintro i ρ μ' ⟨ex, _⟩
        simp [ex.at h2]
      · rintro i d ρ μ3 hi ⟨ex3, x, y, rfl⟩
        obtain ⟨k, hk, rfl⟩ : ∃ k, m.kids[i]? = some k ∧ d = k.d := by
          rw [List.getElem?_map] at hi
          cases hx : m.kids[i]? with
          | none => rw [hx] at hi; cases hi
          | some k => rw [hx] at hi; cases hi; exact ⟨k, rfl, rfl⟩
        have hd := kid_dp (List.mem_of_getElem? hk)
        have hht : k.ht ≤ 1000 := by
          have hm := List.mem_of_getElem? hk
          cases m <;> simp [Mt.kids] at hm <;> simp only [Mt.ht] at hh
          · rcases hm with rfl | rfl <;> omega
          · subst hm; omega
          · rcases hm with rfl | rfl <;> omega
        simp
        refine (ih k (n - 1) μ3 (by omega) hht (by omega)).to ?_
        rintro d μ4 ⟨rfl, ex4⟩
        simp
        have et : (m.kids.take (i + 1)).foldl (fun a k => max a (1 + k.ht)) m.hb = max ((m.kids.take i).foldl (fun a k => max a (1 + k.ht)) m.hb) (1 + k.ht) := by
          rw [List.take_add_one, hk]
          simp
        rw [et]
        generalize (m.kids.take i).foldl (fun a k => max a (1 + k.ht)) m.hb = A
        by_cases hc : (A : Int) < 1 + (k.ht : Int)
        · simp [hc]
          exact ⟨ex3.trans ex4, by omega⟩
        · simp [hc]
          exact ⟨ex3.trans ex4, by omega⟩
      · rintro ρ μ3 ⟨ex3, x, y, rfl⟩
        simp
        refine ⟨?_, ex2.trans ex3⟩
        have := ht_kids m
        rw [this]
    simp [e1, w_fail]
    cases m with
    | fail q bl =>
      cases q with
      | none =>
        simp [Mt.isF, Mt.d, atI, ixN]
        exact wp_rt rest
      | some q =>
        obtain ⟨g, l⟩ := q
        simp [Mt.isF, Mt.d, atI, ixN, gd_in]
        rcases g with g | _ | _
        · simp
          exact wp_rt rest
        · simp
          exact wp_rt rest
        · simp
          exact wp_rt rest
    | _ =>
      simp [Mt.isF]
      exact wp_rt rest
theorem sp_lgr {m : Mt} (h : m.isC = true) (hn : 1 ≤ n) : (gN pt.fds pt.g n).callF "_law_ground" [m.d] μ = .ok (.str m.gd.s) μ := by
  apply eq_of_wp
  refine wp_callF (f := C.f__law_ground) rfl rfl (by omega) ?_
  simp only [C.f__law_ground, C.b__law_ground, startE, List.map]
  simp [mt_eq m [98, 97, 115, 101] (by decide)]
  cases m <;> first | (cases h; done) | simp [Mt.w, Mt.gd, Mt.d, atI, ixN, Gd.s]
theorem sp_lck {m : Mt} (h : m.isC = true) (hn : 1 ≤ n) : (gN pt.fds pt.g n).callF "_law_check" [m.d] μ = .ok (oS m.ck) μ := by
  apply eq_of_wp
  refine wp_callF (f := C.f__law_check) rfl rfl (by omega) ?_
  simp only [C.f__law_check, C.b__law_check, startE, List.map]
  simp [mt_eq m [98, 97, 115, 101] (by decide)]
  cases m <;> first | (cases h; done) | simp [Mt.w, Mt.ck, Mt.d, atI, ixN]
theorem sp_lfits (m : Mt) : ∀ (s t : Ki) (k : Nat) (μ : Store), m.okl = true → s.h ≤ 60 → t.h ≤ 60 → m.dp + 3 ≤ k →
    (gN pt.fds pt.g k).callF "_law_tree_fits" [m.d, s.d, t.d] μ = .ok (.bl (m.fits s t)) μ := by
  have pre : ∀ (m : Mt) (s t : Ki) (k : Nat) (μ : Store), m.okl = true → s.h ≤ 60 → t.h ≤ 60 → m.dp + 3 ≤ k →
      (∀ x, x = m.d → (∀ c a r, m = .fn c a r → ∀ s t μ, s.h ≤ 60 → t.h ≤ 60 → (gN pt.fds pt.g (k - 1)).callF "_law_tree_fits" [a.d, s.d, t.d] μ = .ok (.bl (a.fits s t)) μ ∧ (gN pt.fds pt.g (k - 1)).callF "_law_tree_fits" [r.d, s.d, t.d] μ = .ok (.bl (r.fits s t)) μ) →
        (∀ c a r, m = .pr c a r → ∀ s t μ, s.h ≤ 60 → t.h ≤ 60 → (gN pt.fds pt.g (k - 1)).callF "_law_tree_fits" [a.d, s.d, t.d] μ = .ok (.bl (a.fits s t)) μ ∧ (gN pt.fds pt.g (k - 1)).callF "_law_tree_fits" [r.d, s.d, t.d] μ = .ok (.bl (r.fits s t)) μ) →
        (∀ c a, m = .fn1 c a → ∀ s t μ, s.h ≤ 60 → t.h ≤ 60 → (gN pt.fds pt.g (k - 1)).callF "_law_tree_fits" [a.d, s.d, t.d] μ = .ok (.bl (a.fits s t)) μ) →
        (gN pt.fds pt.g k).callF "_law_tree_fits" [x, s.d, t.d] μ = .ok (.bl (m.fits s t)) μ) := by
    rintro m s t k μ hm hs ht hk x rfl hF hP hF1
    have e0 := fun (m : Mt) (μ : Store) => mt_eq (fs := pt.fds) (g0 := pt.g) (n := k - 1) (μ := μ) m [97, 110, 121] (by decide)
    have e1 := fun (m : Mt) (μ : Store) => mt_eq (fs := pt.fds) (g0 := pt.g) (n := k - 1) (μ := μ) m [102, 97, 105, 108] (by decide)
    have e2 := fun (m : Mt) (μ : Store) => mt_eq (fs := pt.fds) (g0 := pt.g) (n := k - 1) (μ := μ) m [98, 97, 115, 101] (by decide)
    have e3 := fun (m : Mt) (μ : Store) => mt_eq (fs := pt.fds) (g0 := pt.g) (n := k - 1) (μ := μ) m [112, 97, 105, 114] (by decide)
    have hqs := fun (n : Nat) (μ : Store) => ki_q (fs := pt.fds) (g0 := pt.g) (n := n) (μ := μ) s hs
    have hqt := fun (n : Nat) (μ : Store) => ki_q (fs := pt.fds) (g0 := pt.g) (n := n) (μ := μ) t ht
    simp only [str_q] at hqs hqt
    apply eq_of_wp
    refine wp_callF (f := C.f__law_tree_fits) rfl rfl (by omega) ?_
    simp only [C.f__law_tree_fits, C.b__law_tree_fits, startE, List.map]
    simp [e0, e1, w_any, w_fail]
    rcases isC_or m with rfl | ⟨q, bl, rfl⟩ | cm
    · simp [hqs, hqt, Mt.fits]
      by_cases h : s = .q <;> simp [h]
    · have : (Mt.fail q bl).isF = true := rfl
      simp [this, e1, w_fail]
      cases q with
      | none => simp [Mt.d, atI, ixN, Mt.fits]
      | some q =>
        obtain ⟨g, l⟩ := q
        simp [Mt.okl] at hm
        have hne := fun (μ : Store) => oS_ne (fs := pt.fds) (g0 := pt.g) (n := k - 1) (μ := μ) (x := some l) (y := bl) hm.1 hm.2
        simp only [show oS (some l) = D.str l from rfl] at hne
        simp [Mt.d, atI, ixN, Mt.fits, hqs, hne]
        by_cases h : s = .q <;> simp [h]
    · have nm : m ≠ .any := by rintro rfl; cases cm
      have fm : m.isF = false := by cases m <;> first | rfl | cases cm
      have g1 := fun (μ : Store) => sp_lgr (n := k - 1) (μ := μ) cm (by omega)
      have g2 := fun (μ : Store) => sp_lck (n := k - 1) (μ := μ) cm (by omega)
      have h1 := fun (μ : Store) => sp_lhas (fs := pt.fds) (g0 := pt.g) (n := k - 1) (μ := μ) s m.gd hs (by omega)
      have h2 := fun (μ : Store) => sp_lhas (fs := pt.fds) (g0 := pt.g) (n := k - 1) (μ := μ) t m.gd ht (by omega)
      have hpls := Nat.le_trans (pl_h s) hs
      have hprs := Nat.le_trans (pr_h s) hs
      have hplt := Nat.le_trans (pl_h t) ht
      have hprt := Nat.le_trans (pr_h t) ht
      have hb : ∀ x y : Bool, (x == y) = !(x != y) := by decide
      simp [nm, fm, g1, g2, e1, w_fail, hqs]
      cases m <;> first | (cases cm; done) | skip
      case base g c =>
        simp only [Mt.ck, Mt.gd] at *
        have hf : (Mt.base g c).fits s t = (okC c s && (s.has (.bs g) && t.has (.bs g))) := by simp [Mt.fits]
        rw [hf]
        unfold okC
        by_cases hc : (decide (c = none) != decide (s = .q)) = true
        · have hc' : ¬ (c = none ↔ s = .q) := by simpa [bne_iff_ne] using hc
          simp [hc, hc', h1, h2, e2, w_base]
          cases s.has (.bs g) <;> cases t.has (.bs g) <;> simp
        · have hc' : (c = none ↔ s = .q) := by simpa [bne_iff_ne] using hc
          simp [hc, hc']
      case pr c a r =>
        simp only [Mt.ck, Mt.gd] at *
        have hf : (Mt.pr c a r).fits s t = (okC c s && ((s.has .p && t.has .p) && (a.fits s.pl t.pl && r.fits s.pr t.pr))) := by simp [Mt.fits]
        rw [hf]
        unfold okC
        have o1 := fun (μ : Store) => sp_lopen (fs := pt.fds) (g0 := pt.g) (n := k - 1) (μ := μ) s .p (.inr rfl) hs (by omega)
        have o2 := fun (μ : Store) => sp_lopen (fs := pt.fds) (g0 := pt.g) (n := k - 1) (μ := μ) t .p (.inr rfl) ht (by omega)
        have i1 := fun (μ : Store) => (hP c a r rfl s.pl t.pl μ hpls hplt).1
        have i2 := fun (μ : Store) => (hP c a r rfl s.pr t.pr μ hprs hprt).2
        by_cases hc : (decide (c = none) != decide (s = .q)) = true
        · have hc' : ¬ (c = none ↔ s = .q) := by simpa [bne_iff_ne] using hc
          cases hs1 : s.has .p with
          | false => simp [hc, hc', h1, h2, hs1]
          | true =>
            cases ht1 : t.has .p with
            | false => simp [hc, hc', h1, h2, hs1, ht1]
            | true =>
              rw [op_p hs1] at o1
              rw [op_p ht1] at o2
              simp [hc, hc', h1, h2, hs1, ht1, e2, w_base, e3, w_pair, o1, o2, i1, i2]
              cases a.fits s.pl t.pl <;> simp
        · have hc' : (c = none ↔ s = .q) := by simpa [bne_iff_ne] using hc
          simp [hc, hc']
      case fn c a r =>
        simp only [Mt.ck, Mt.gd] at *
        have hf : (Mt.fn c a r).fits s t = (okC c s && ((s.has .f && t.has .f) && (a.fits t.pl s.pl && (!a.isF && r.fits s.pr t.pr)))) := by simp [Mt.fits]
        rw [hf]
        unfold okC
        have o1 := fun (μ : Store) => sp_lopen (fs := pt.fds) (g0 := pt.g) (n := k - 1) (μ := μ) s .f (.inl rfl) hs (by omega)
        have o2 := fun (μ : Store) => sp_lopen (fs := pt.fds) (g0 := pt.g) (n := k - 1) (μ := μ) t .f (.inl rfl) ht (by omega)
        have i1 := fun (μ : Store) => (hF c a r rfl t.pl s.pl μ hplt hpls).1
        have i2 := fun (μ : Store) => (hF c a r rfl s.pr t.pr μ hprs hprt).2
        have ra : isNon r.d = false ∧ isAble r.d = true := by cases r <;> exact ⟨rfl, rfl⟩
        by_cases hc : (decide (c = none) != decide (s = .q)) = true
        · have hc' : ¬ (c = none ↔ s = .q) := by simpa [bne_iff_ne] using hc
          cases hs1 : s.has .f with
          | false => simp [hc, hc', h1, h2, hs1]
          | true =>
            cases ht1 : t.has .f with
            | false => simp [hc, hc', h1, h2, hs1, ht1]
            | true =>
              rw [op_f hs1] at o1
              rw [op_f ht1] at o2
              simp [hc, hc', h1, h2, hs1, ht1, e2, w_base, e3, w_pair, o1, o2, i1]
              cases a.fits t.pl s.pl <;> cases hf2 : a.isF <;> simp [i2, e1, w_fail, hf2, ra, hc']
        · have hc' : (c = none ↔ s = .q) := by simpa [bne_iff_ne] using hc
          simp [hc, hc']
      case fn1 c a =>
        simp only [Mt.ck, Mt.gd] at *
        have hf : (Mt.fn1 c a).fits s t = (okC c s && ((s.has .f && t.has .f) && (a.fits t.pl s.pl && a.isF))) := by simp [Mt.fits]
        rw [hf]
        unfold okC
        have o1 := fun (μ : Store) => sp_lopen (fs := pt.fds) (g0 := pt.g) (n := k - 1) (μ := μ) s .f (.inl rfl) hs (by omega)
        have o2 := fun (μ : Store) => sp_lopen (fs := pt.fds) (g0 := pt.g) (n := k - 1) (μ := μ) t .f (.inl rfl) ht (by omega)
        have i1 := fun (μ : Store) => (hF1 c a rfl t.pl s.pl μ hplt hpls)
        by_cases hc : (decide (c = none) != decide (s = .q)) = true
        · have hc' : ¬ (c = none ↔ s = .q) := by simpa [bne_iff_ne] using hc
          cases hs1 : s.has .f with
          | false => simp [hc, hc', h1, h2, hs1]
          | true =>
            cases ht1 : t.has .f with
            | false => simp [hc, hc', h1, h2, hs1, ht1]
            | true =>
              rw [op_f hs1] at o1
              rw [op_f ht1] at o2
              simp [hc, hc', h1, h2, hs1, ht1, e2, w_base, e3, w_pair, o1, o2, i1]
              cases a.fits t.pl s.pl <;> cases hf2 : a.isF <;> simp [e1, w_fail, hf2, hc']
        · have hc' : (c = none ↔ s = .q) := by simpa [bne_iff_ne] using hc
          simp [hc, hc']
  induction m with
  | fn c a r ia ir =>
    intro s t k μ hm hs ht hk
    simp only [Mt.okl, Bool.and_eq_true] at hm
    simp only [Mt.dp] at hk
    refine pre _ s t k μ (by simp [Mt.okl, hm]) hs ht (by simp only [Mt.dp]; omega) _ rfl ?_ (by rintro _ _ _ ⟨⟩) (by rintro _ _ ⟨⟩)
    rintro _ _ _ ⟨⟩ s t μ hs ht
    exact ⟨ia s t (k - 1) μ hm.2.1 hs ht (by omega), ir s t (k - 1) μ hm.2.2 hs ht (by omega)⟩
  | pr c a r ia ir =>
    intro s t k μ hm hs ht hk
    simp only [Mt.okl, Bool.and_eq_true] at hm
    simp only [Mt.dp] at hk
    refine pre _ s t k μ (by simp [Mt.okl, hm]) hs ht (by simp only [Mt.dp]; omega) _ rfl (by rintro _ _ _ ⟨⟩) ?_ (by rintro _ _ ⟨⟩)
    rintro _ _ _ ⟨⟩ s t μ hs ht
    exact ⟨ia s t (k - 1) μ hm.2.1 hs ht (by omega), ir s t (k - 1) μ hm.2.2 hs ht (by omega)⟩
  | fn1 c a ia =>
    intro s t k μ hm hs ht hk
    simp only [Mt.okl, Bool.and_eq_true] at hm
    simp only [Mt.dp] at hk
    refine pre _ s t k μ (by simp [Mt.okl, hm]) hs ht (by simp only [Mt.dp]; omega) _ rfl (by rintro _ _ _ ⟨⟩) (by rintro _ _ _ ⟨⟩) ?_
    rintro _ _ ⟨⟩ s t μ hs ht
    exact ia s t (k - 1) μ hm.2 hs ht (by omega)
  | _ =>
    intro s t k μ hm hs ht hk
    exact pre _ s t k μ hm hs ht hk _ rfl (by rintro _ _ _ ⟨⟩) (by rintro _ _ _ ⟨⟩) (by rintro _ _ ⟨⟩)
/-! ### due and asked -/
def tooL : S := [116, 111, 111, 32, 108, 97, 114, 103, 101]
def noFt : S := [110, 111, 32, 102, 105, 116]
def madeS : S := [109, 97, 100, 101]
def due (s : Ki) (m : Mt) (t : Ki) : S := if 8 < m.ht then tooL else if m.fits s t = false then noFt else madeS
theorem sp_due (s t : Ki) (m : Mt) (hs : s.h ≤ 60) (ht : t.h ≤ 60) (ok : m.okl = true) (hd : m.dp ≤ 20) (hn : 40 ≤ n) : ((gN pt.fds pt.g n).callF "_law_due" [s.d, m.d, t.d] μ).Wp (fun d μ' => d = .str (due s m t) ∧ Ex μ μ') noE := by
  have hh := mt_ht_dp m
  refine wp_callF (f := f__law_due) rfl rfl (by omega) ?_
  simp only [f__law_due, b__law_due, startE, List.map]
  simp
  refine (sp_high m.dp m _ _ (Nat.le_refl _) (by omega) (by omega)).to ?_
  rintro d μ' ⟨rfl, ex⟩
  simp
  by_cases h8 : 8 < m.ht
  · have : (8 : Int) < m.ht := by omega
    simp [this, due, h8, tooL]
    exact ex
  · have : ¬ (8 : Int) < m.ht := by omega
    have ft := fun μ => sp_lfits m s t (n - 1) μ ok hs ht (by omega)
    simp [this, ft]
    cases hf : m.fits s t with
    | false =>
      simp [due, h8, hf, noFt]
      exact ex
    | true =>
      simp [due, h8, hf, madeS]
      exact ex
theorem sp_newK (k : Ki) (hk : k.h ≤ 8) (hn : 2 ≤ n) : (newD (gN pt.fds pt.g n) "Kind" [k.d] μ).Wp (fun d μ' => d = .obj μ.length ∧ Ex μ μ' ∧ KiAt μ' μ.length k) noE :=
  (sp_newKind hn k (by omega)).imp (fun d μ' h => h.2) (fun x μ' h => by have := h.1; omega)
theorem sp_ismi {i : Nat} {s t : Ki} {m : Mt} (hi : MiAt μ i s m t) (h1 : s.h ≤ 8) (h2 : t.h ≤ 8) (ok : m.okl = true) (h3 : m.dp ≤ 20) (hn : 40 ≤ n) : (gN pt.fds pt.g n).callF "_law_is_middle" [.obj i, s.d, m.d, t.d] μ = .ok (.bl true) μ := by
  obtain ⟨a, b, i1, i2, i3⟩ := hi
  have s1 := sp_same (fs := pt.fds) (g0 := pt.g) (n := n - 1) (μ := μ) (k := 10) (by omega) (by omega) (s.deep 10 (by omega))
  have s2 := sp_same (fs := pt.fds) (g0 := pt.g) (n := n - 1) (μ := μ) (k := 10) (by omega) (by omega) (t.deep 10 (by omega))
  have s3 := sp_same (fs := pt.fds) (g0 := pt.g) (n := n - 1) (μ := μ) (k := 25) (by omega) (by omega) (mt_deepL m 25 ok (by omega))
  apply eq_of_wp
  refine wp_callF (f := C.f__law_is_middle) rfl rfl (by omega) ?_
  simp only [C.f__law_is_middle, C.b__law_is_middle, startE, List.map]
  have j1 := isi_ins (fs := pt.fds) (g0 := pt.g) (n := n - 1) (c := "Middle") i1
  have j2 := isi_ins (fs := pt.fds) (g0 := pt.g) (n := n - 1) (c := "Kind") i2
  have j3 := isi_ins (fs := pt.fds) (g0 := pt.g) (n := n - 1) (c := "Kind") i3
  unfold KiAt at i2 i3
  simp [i1, i2, i3, j1, j2, j3, s1, s2, s3]
theorem sp_asked (s t : Ki) (m : Mt) (hs : s.h ≤ 8) (ht : t.h ≤ 8) (ok : m.okl = true) (hd : m.dp ≤ 20) (hn : 50 ≤ n) : ((gN pt.fds pt.g n).callF "_law_asked" [s.d, m.d, t.d] μ).Wp (fun d μ' => d = .str (due s m t) ∧ Ex μ μ') noE := by
  refine wp_callF (f := f__law_asked) rfl rfl (by omega) ?_
  simp only [f__law_asked, b__law_asked, startE, List.map]
  rw [ws_try]
  generalize hZ : Ss.cons (St.iff (E.not_ (E.call "_law_is_middle" _)) _ _) _ = Z
  have a1 : anySub (gN pt.fds pt.g (n - 1)).cold "TooLarge" ["TooLarge"] = some true := by simp [anySub]
  have a2 : anySub (gN pt.fds pt.g (n - 1)).cold "TooLarge" ["BadMiddle"] = some false := by simp [anySub]
  have a3 : anySub (gN pt.fds pt.g (n - 1)).cold "BadMiddle" ["BadMiddle"] = some true := by simp [anySub]
  have a4 : anySub (gN pt.fds pt.g (n - 1)).cold "BadMiddle" ["TooLarge"] = some false := by simp [anySub]
  simp
  refine (sp_newK s hs (by omega)).to ?_
  rintro d μ1 ⟨rfl, ex1, k1⟩
  simp
  refine (sp_newK t ht (by omega)).to ?_
  rintro d μ2 ⟨rfl, ex2, k2⟩
  simp
  refine (sp_newMiG (ex2.at k1) k2 (by omega) (by omega) ok hd (by omega)).imp ?_ ?_
  · rintro d μ3 ⟨⟨q1, q2⟩, rfl, ex3, m3⟩
    have is := sp_ismi (n := n - 1) m3 hs ht ok hd (by omega)
    have h8 : ¬ 8 < m.ht := by omega
    rw [← hZ]
    simp [is, due, h8, q2, madeS]
    exact (ex1.trans ex2).trans ex3
  · rintro x μ3 ⟨ex3, (⟨q, rfl⟩ | ⟨⟨q1, q2⟩, rfl⟩)⟩
    · simp [seen, a1, a2, due, q, tooL]
      exact (ex1.trans ex2).trans ex3
    · have h8 : ¬ 8 < m.ht := by omega
      simp [seen, a3, a4, due, h8, q2, noFt]
      exact (ex1.trans ex2).trans ex3
/-! ### spoilt trees -/
def Sp (N : Nat) (d : D) : Prop := ∃ m : Mt, d = m.d ∧ m.okb = true ∧ m.dp ≤ N
theorem gds : ∀ j : Int, 0 ≤ j → j < 5 → ∃ g : Gd, atI [D.str [105, 110, 116], .str [98, 111, 111, 108], .str [117, 110, 105, 116], .str [102, 117, 110], .str [112, 97, 105, 114]] j = some (.str g.s) := by
  intro j j1 j2
  have : j = 0 ∨ j = 1 ∨ j = 2 ∨ j = 3 ∨ j = 4 := by omega
  rcases this with rfl | rfl | rfl | rfl | rfl
  · exact ⟨.bs .i, rfl⟩
  · exact ⟨.bs .b, rfl⟩
  · exact ⟨.bs .u, rfl⟩
  · exact ⟨.f, rfl⟩
  · exact ⟨.p, rfl⟩
theorem bss : ∀ j : Int, 0 ≤ j → j < 3 → ∃ g : Bs, atI [D.str [105, 110, 116], .str [98, 111, 111, 108], .str [117, 110, 105, 116]] j = some (.str g.s) := by
  intro j j1 j2
  have : j = 0 ∨ j = 1 ∨ j = 2 := by omega
  rcases this with rfl | rfl | rfl
  · exact ⟨.i, rfl⟩
  · exact ⟨.b, rfl⟩
  · exact ⟨.u, rfl⟩
@[simp] theorem bs_1 (g : Bs) (c : Option S) : idx (Mt.base g c).d (.int 1) μ = .ok (.str g.s) μ := by simp [Mt.d, atI, ixN]
@[simp] theorem bs_2 (g : Bs) (c : Option S) : idx (Mt.base g c).d (.int 2) μ = .ok (oS c) μ := by simp [Mt.d, atI, ixN]
@[simp] theorem fn_1 (c : Option S) (x y : Mt) : idx (Mt.fn c x y).d (.int 1) μ = .ok (oS c) μ := by simp [Mt.d, atI, ixN]
@[simp] theorem pr_1 (c : Option S) (x y : Mt) : idx (Mt.pr c x y).d (.int 1) μ = .ok (oS c) μ := by simp [Mt.d, atI, ixN]
@[simp] theorem fn1_1 (c : Option S) (x : Mt) : idx (Mt.fn1 c x).d (.int 1) μ = .ok (oS c) μ := by simp [Mt.d, atI, ixN]
@[simp] theorem fl_2 (q : Option (Gd × S)) (bl : Option S) : idx (Mt.fail q bl).d (.int 2) μ = .ok (oS bl) μ := by simp [Mt.d, atI, ixN]
theorem dp1 (m : Mt) : 1 ≤ m.dp := by cases m <;> simp [Mt.dp]
theorem sp_spoilt : ∀ (N : Nat) (m : Mt) (n : Nat) (μ : Store), m.dp ≤ N → N + 6 ≤ n → m.okb = true → Dr μ → ((gN pt.fds pt.g n).callF "_law_spoilt" [.obj 0, m.d] μ).Wp (fun d μ' => Sp (m.dp + 1) d ∧ Fr μ μ') noE := by
  intro N
  induction N with
  | zero => intro m n μ h; have := dp1 m; omega
  | succ N ih =>
    intro m n μ hN hn ok hd
    have hm1 := dp1 m
    have e0 := fun (m : Mt) (μ : Store) => mt_ne (fs := pt.fds) (g0 := pt.g) (n := n - 1) (μ := μ) m [97, 110, 121] (by decide)
    have e1 := fun (m : Mt) (μ : Store) => mt_eq (fs := pt.fds) (g0 := pt.g) (n := n - 1) (μ := μ) m [102, 97, 105, 108] (by decide)
    have e2 := fun (m : Mt) (μ : Store) => mt_eq (fs := pt.fds) (g0 := pt.g) (n := n - 1) (μ := μ) m [98, 97, 115, 101] (by decide)
    have e3 := fun (m : Mt) (μ : Store) => mt_eq (fs := pt.fds) (g0 := pt.g) (n := n - 1) (μ := μ) m [112, 97, 105, 114] (by decide)
    have e4 := fun (m : Mt) (μ : Store) => mt_eq (fs := pt.fds) (g0 := pt.g) (n := n - 1) (μ := μ) m [102, 117, 110] (by decide)
    refine wp_callF (f := f__law_spoilt) rfl rfl (by omega) ?_
    simp only [f__law_spoilt, b__law_spoilt, startE, List.map]
    generalize hO : Ss.cons (St.set (Tg.name 5) _) _ = O
    generalize hZ : Ss.cons (St.set (Tg.name 3) _) _ = Z
    have restO : ∀ (o : D) (w l z7 : Option D) (lb : S) (μ1 : Store), Fr μ μ1 → okO (some lb) = true →
        (Ss.den (gN pt.fds pt.g (n - 1)) none O [some (.obj 0), some m.d, some o, w, some (.str lb), none, none, z7] μ1).Wp { N := fun _ _ => False, T := fun d μ' => Sp (m.dp + 1) d ∧ Fr μ μ' } := by
      intro o w l z7 lb μ1 fr ol
      rw [← hO]
      simp
      generalize hL : [D.tup [D.str [97, 110, 121]], D.tup [D.str [98, 97, 115, 101], D.str [98, 111, 111, 108], D.non], _, _, _] = L
      have f2 := fr.trans (Fr.push fr.dr (.lst L))
      refine (sp_draw (by omega) f2.dr (by decide)).to ?_
      rintro d μ3 ⟨j, rfl, j1, j2, fr3⟩
      have h0 := fr3.at (show (μ1 ++ [MO.lst L])[μ1.length]? = some _ by simp; rfl) (by have := fr.dr.pos; omega)
      obtain ⟨m', em, om, hm⟩ : ∃ m : Mt, atI L j = some m.d ∧ m.okb = true ∧ m.dp ≤ 2 := by
        subst hL
        have : j = 0 ∨ j = 1 ∨ j = 2 ∨ j = 3 ∨ j = 4 := by omega
        rcases this with rfl | rfl | rfl | rfl | rfl
        · exact ⟨.any, rfl, by decide, by decide⟩
        · exact ⟨.base .b none, rfl, by decide, by decide⟩
        · exact ⟨.base .u (some lb), rfl, by simpa [Mt.okb] using ol, by simp [Mt.dp]⟩
        · exact ⟨.fail none (some lb), rfl, by simpa [Mt.okb] using ol, by simp [Mt.dp]⟩
        · exact ⟨.pr (some lb) .any .any, rfl, by simpa [Mt.okb] using ol, by simp [Mt.dp]⟩
      simp [h0, em]
      exact ⟨⟨m', rfl, om, by omega⟩, f2.trans fr3⟩
    have rest : ∀ (o : D) (μ1 : Store), Fr μ μ1 → 
        (Ss.den (gN pt.fds pt.g (n - 1)) none Z [some (.obj 0), some m.d, some o, none, none, none, none, none] μ1).Wp { N := fun _ _ => False, T := fun d μ' => Sp (m.dp + 1) d ∧ Fr μ μ' } := by
      intro o μ1 fr
      rw [← hZ]
      simp
      refine (sp_draw (by omega) fr.dr (by decide)).to ?_
      rintro d μ2 ⟨w, rfl, w1, w2, fr2⟩
      simp
      refine (sp_label (by omega) fr2.dr).to ?_
      rintro d μ3 ⟨hl, fr3⟩
      obtain ⟨lb, rfl, ol⟩ := hl.oS (by decide)
      have fr03 := (fr.trans fr2).trans fr3
      simp [e0, e1, e2, e3, e4, w_any, w_fail, w_base, w_pair, w_fun]
      cases m with
      | any =>
        simp [Mt.isF]
        exact wp_rt (restO o _ none none lb μ3 fr03 ol)
      | base g c =>
        have hck := fun μ => sp_lck (n := n - 1) (μ := μ) (m := .base g c) rfl (by omega)
        simp only [Mt.okb] at ok
        by_cases hw : w = 0
        · simp [e0, e1, e2, e3, e4, w_any, w_fail, w_base, w_pair, w_fun, Mt.isF, hw, hck, Mt.ck]
          cases c with
          | none =>
            simp [e0, e1, e2, e3, e4, w_any, w_fail, w_base, w_pair, w_fun, Mt.isF]
            exact ⟨⟨.base g (some lb), rfl, by simpa [Mt.okb] using ol, by simp [Mt.dp]⟩, fr03⟩
          | some c =>
            simp [e0, e1, e2, e3, e4, w_any, w_fail, w_base, w_pair, w_fun, Mt.isF]
            exact ⟨⟨.base g none, rfl, by simp [Mt.okb, okO], by simp [Mt.dp]⟩, fr03⟩
        · simp [e0, e1, e2, e3, e4, w_any, w_fail, w_base, w_pair, w_fun, Mt.isF, hw]
          by_cases hw1 : w = 1
          · simp [e0, e1, e2, e3, e4, w_any, w_fail, w_base, w_pair, w_fun, Mt.isF, hw1]
            have f4 := fr3.trans (Fr.push fr3.dr (.lst [D.str [105, 110, 116], .str [98, 111, 111, 108], .str [117, 110, 105, 116]]))
            refine (sp_draw (by omega) f4.dr (by decide)).to ?_
            rintro d μ4 ⟨j, rfl, j1, j2, fr4⟩
            have h0 := fr4.at (show (μ3 ++ [MO.lst [D.str [105, 110, 116], .str [98, 111, 111, 108], .str [117, 110, 105, 116]]])[μ3.length]? = some _ by simp; rfl) (by have := fr3.dr.pos; omega)
            obtain ⟨g', eg⟩ := bss j j1 j2
            simp [h0, eg]
            exact ⟨⟨.base g' c, rfl, by simpa [Mt.okb] using ok, by simp [Mt.dp]⟩, (fr.trans fr2).trans (f4.trans fr4)⟩
          · simp [e0, e1, e2, e3, e4, w_any, w_fail, w_base, w_pair, w_fun, Mt.isF, hw1]
            exact wp_rt (restO o _ none none lb μ3 fr03 ol)
      | fail q bl =>
        simp only [Mt.okb, Bool.and_eq_true] at ok
        obtain ⟨b, rfl⟩ : ∃ b, bl = some b := by
          cases bl with
          | none => simp at ok
          | some b => exact ⟨b, rfl⟩
        have ob := ok.2.1
        simp [e0, e1, e2, e3, e4, w_any, w_fail, w_base, w_pair, w_fun, Mt.isF]
        have f4 := fr3.trans (Fr.push fr3.dr (.lst [D.str [105, 110, 116], .str [98, 111, 111, 108], .str [117, 110, 105, 116], .str [102, 117, 110], .str [112, 97, 105, 114]]))
        refine (sp_draw (by omega) f4.dr (by decide)).to ?_
        rintro d μ4 ⟨j, rfl, j1, j2, fr4⟩
        have h0 := fr4.at (show (μ3 ++ [MO.lst [D.str [105, 110, 116], .str [98, 111, 111, 108], .str [117, 110, 105, 116], .str [102, 117, 110], .str [112, 97, 105, 114]]])[μ3.length]? = some _ by simp; rfl) (by have := fr3.dr.pos; omega)
        obtain ⟨g', eg⟩ := gds j j1 j2
        simp [h0, eg, oS]
        have fr04 := (fr.trans fr2).trans (f4.trans fr4)
        obtain ⟨m', em, om, hm⟩ : ∃ m : Mt, atI [D.tup [.str [102, 97, 105, 108], .tup [.str g'.s, .str b], .str b], D.tup [.str [102, 97, 105, 108], .tup [.str g'.s, .str lb], .str b], D.tup [.str [102, 97, 105, 108], .non, .str lb], D.tup [.str [97, 110, 121]]] w = some m.d ∧ m.okb = true ∧ m.dp ≤ 2 := by
          have : w = 0 ∨ w = 1 ∨ w = 2 ∨ w = 3 := by omega
          rcases this with rfl | rfl | rfl | rfl
          · exact ⟨.fail (some (g', b)) (some b), rfl, by simp [Mt.okb, ob], by simp [Mt.dp]⟩
          · exact ⟨.fail (some (g', lb)) (some b), rfl, by simp [Mt.okb, ob, ol], by simp [Mt.dp]⟩
          · exact ⟨.fail none (some lb), rfl, by simpa [Mt.okb] using ol, by simp [Mt.dp]⟩
          · exact ⟨.any, rfl, by decide, by decide⟩
        simp [em]
        exact ⟨⟨m', rfl, om, by simp [Mt.dp]; omega⟩, fr04.trans (Fr.push fr04.dr _)⟩
      | fn c x y =>
        have hck := fun μ => sp_lck (n := n - 1) (μ := μ) (m := .fn c x y) rfl (by omega)
        simp only [Mt.okb, Bool.and_eq_true] at ok
        by_cases hw : w = 0
        · simp [e0, e1, e2, e3, e4, w_any, w_fail, w_base, w_pair, w_fun, Mt.isF, hw, hck, Mt.ck]
          cases c with
          | none =>
            simp [e0, e1, e2, e3, e4, w_any, w_fail, w_base, w_pair, w_fun, Mt.isF]
            exact ⟨⟨.fn (some lb) x y, rfl, by simp [Mt.okb, ol, ok.2], by simp [Mt.dp]⟩, fr03⟩
          | some c =>
            simp [e0, e1, e2, e3, e4, w_any, w_fail, w_base, w_pair, w_fun, Mt.isF]
            exact ⟨⟨.fn none x y, rfl, by simp [Mt.okb, okO, ok.2], by simp [Mt.dp]⟩, fr03⟩
        · simp [e0, e1, e2, e3, e4, w_any, w_fail, w_base, w_pair, w_fun, Mt.isF, hw]
          by_cases hw1 : w = 1
          · simp [e0, e1, e2, e3, e4, w_any, w_fail, w_base, w_pair, w_fun, Mt.isF, hw1]
            exact ⟨⟨.fn1 c x, rfl, by simp [Mt.okb, ok], by simp [Mt.dp]; omega⟩, fr03⟩
          · simp [e0, e1, e2, e3, e4, w_any, w_fail, w_base, w_pair, w_fun, Mt.isF, hw1]
            exact wp_rt (restO o _ none none lb μ3 fr03 ol)
      | pr c x y =>
        have hck := fun μ => sp_lck (n := n - 1) (μ := μ) (m := .pr c x y) rfl (by omega)
        simp only [Mt.okb, Bool.and_eq_true] at ok
        by_cases hw : w = 0
        · simp [e0, e1, e2, e3, e4, w_any, w_fail, w_base, w_pair, w_fun, Mt.isF, hw, hck, Mt.ck]
          cases c with
          | none =>
            simp [e0, e1, e2, e3, e4, w_any, w_fail, w_base, w_pair, w_fun, Mt.isF]
            exact ⟨⟨.pr (some lb) x y, rfl, by simp [Mt.okb, ol, ok.2], by simp [Mt.dp]⟩, fr03⟩
          | some c =>
            simp [e0, e1, e2, e3, e4, w_any, w_fail, w_base, w_pair, w_fun, Mt.isF]
            exact ⟨⟨.pr none x y, rfl, by simp [Mt.okb, okO, ok.2], by simp [Mt.dp]⟩, fr03⟩
        · simp [e0, e1, e2, e3, e4, w_any, w_fail, w_base, w_pair, w_fun, Mt.isF, hw]
          by_cases hw1 : w = 1
          · simp [e0, e1, e2, e3, e4, w_any, w_fail, w_base, w_pair, w_fun, Mt.isF, hw1]
            exact ⟨⟨.fn c x y, rfl, by simp [Mt.okb, ok], by simp [Mt.dp]⟩, fr03⟩
          · simp [e0, e1, e2, e3, e4, w_any, w_fail, w_base, w_pair, w_fun, Mt.isF, hw1]
            exact wp_rt (restO o _ none none lb μ3 fr03 ol)
      | fn1 c x =>
        have hck := fun μ => sp_lck (n := n - 1) (μ := μ) (m := .fn1 c x) rfl (by omega)
        simp only [Mt.okb, Bool.and_eq_true] at ok
        by_cases hw : w = 0
        · simp [e0, e1, e2, e3, e4, w_any, w_fail, w_base, w_pair, w_fun, Mt.isF, hw, hck, Mt.ck]
          cases c with
          | none =>
            simp [e0, e1, e2, e3, e4, w_any, w_fail, w_base, w_pair, w_fun, Mt.isF]
            exact ⟨⟨.fn1 (some lb) x, rfl, by simp [Mt.okb, ol, ok.2], by simp [Mt.dp]⟩, fr03⟩
          | some c =>
            simp [e0, e1, e2, e3, e4, w_any, w_fail, w_base, w_pair, w_fun, Mt.isF]
            exact ⟨⟨.fn1 none x, rfl, by simp [Mt.okb, okO, ok.2], by simp [Mt.dp]⟩, fr03⟩
        · simp [e0, e1, e2, e3, e4, w_any, w_fail, w_base, w_pair, w_fun, Mt.isF, hw]
          by_cases hw1 : w = 1
          · simp [e0, e1, e2, e3, e4, w_any, w_fail, w_base, w_pair, w_fun, Mt.isF, hw1]
            have := dp1 x
            exact ⟨⟨.fn c x .any, rfl, by simp [Mt.okb, ok], by simp [Mt.dp]; omega⟩, fr03⟩
          · simp [e0, e1, e2, e3, e4, w_any, w_fail, w_base, w_pair, w_fun, Mt.isF, hw1]
            exact wp_rt (restO o _ none none lb μ3 fr03 ol)
    simp
    refine (sp_lparts m (by omega)).to ?_
    rintro d μ1 ⟨o, rfl, ex1, l1, lo⟩
    have fr1 := ex1.fr hd
    have hp := hd.pos
    cases m with
    | fn c x y =>
      have ok' := ok
      simp only [Mt.okb, Bool.and_eq_true] at ok'
      simp only [Mt.dp] at hN
      simp [Mt.kids] at l1
      simp [l1]
      refine (sp_draw (by omega) fr1.dr (by decide)).to ?_
      rintro d μ2 ⟨i, rfl, i1, i2, fr2⟩
      have fr02 := fr1.trans fr2
      have l2 := fr2.at l1 (by omega)
      simp
      by_cases hi : 0 < i
      · simp [hi, l2]
        refine (sp_draw (by omega) fr02.dr (by decide)).to ?_
        rintro d μ3 ⟨j, rfl, j1, j2, fr3⟩
        simp
        by_cases hj : j = 0
        · simp [hj]
          refine (ih x (n - 1) μ3 (by omega) (by omega) ok'.2.1 fr3.dr).to ?_
          rintro d μ4 ⟨⟨x', rfl, ox, dx⟩, fr4⟩
          simp
          exact ⟨⟨.fn c x' y, rfl, by simp [Mt.okb, ok', ox], by simp only [Mt.dp]; omega⟩, (fr02.trans fr3).trans fr4⟩
        · simp [hj]
          refine (ih y (n - 1) μ3 (by omega) (by omega) ok'.2.2 fr3.dr).to ?_
          rintro d μ4 ⟨⟨x', rfl, ox, dx⟩, fr4⟩
          simp
          exact ⟨⟨.fn c x x', rfl, by simp [Mt.okb, ok', ox], by simp only [Mt.dp]; omega⟩, (fr02.trans fr3).trans fr4⟩
      · simp [hi]
        exact wp_rt (rest _ μ2 fr02)
    | pr c x y =>
      have ok' := ok
      simp only [Mt.okb, Bool.and_eq_true] at ok'
      simp only [Mt.dp] at hN
      simp [Mt.kids] at l1
      simp [l1]
      refine (sp_draw (by omega) fr1.dr (by decide)).to ?_
      rintro d μ2 ⟨i, rfl, i1, i2, fr2⟩
      have fr02 := fr1.trans fr2
      have l2 := fr2.at l1 (by omega)
      simp
      by_cases hi : 0 < i
      · simp [hi, l2]
        refine (sp_draw (by omega) fr02.dr (by decide)).to ?_
        rintro d μ3 ⟨j, rfl, j1, j2, fr3⟩
        simp
        by_cases hj : j = 0
        · simp [hj]
          refine (ih x (n - 1) μ3 (by omega) (by omega) ok'.2.1 fr3.dr).to ?_
          rintro d μ4 ⟨⟨x', rfl, ox, dx⟩, fr4⟩
          simp
          exact ⟨⟨.pr c x' y, rfl, by simp [Mt.okb, ok', ox], by simp only [Mt.dp]; omega⟩, (fr02.trans fr3).trans fr4⟩
        · simp [hj]
          refine (ih y (n - 1) μ3 (by omega) (by omega) ok'.2.2 fr3.dr).to ?_
          rintro d μ4 ⟨⟨x', rfl, ox, dx⟩, fr4⟩
          simp
          exact ⟨⟨.pr c x x', rfl, by simp [Mt.okb, ok', ox], by simp only [Mt.dp]; omega⟩, (fr02.trans fr3).trans fr4⟩
      · simp [hi]
        exact wp_rt (rest _ μ2 fr02)
    | fn1 c x =>
      have ok' := ok
      simp only [Mt.okb, Bool.and_eq_true] at ok'
      simp only [Mt.dp] at hN
      simp [Mt.kids] at l1
      simp [l1]
      refine (sp_draw (by omega) fr1.dr (by decide)).to ?_
      rintro d μ2 ⟨i, rfl, i1, i2, fr2⟩
      have fr02 := fr1.trans fr2
      have l2 := fr2.at l1 (by omega)
      simp
      by_cases hi : 0 < i
      · simp [hi, l2]
        refine (ih x (n - 1) μ2 (by omega) (by omega) ok'.2 fr02.dr).to ?_
        rintro d μ4 ⟨⟨x', rfl, ox, dx⟩, fr4⟩
        simp
        exact ⟨⟨.fn1 c x', rfl, by simp [Mt.okb, ok', ox], by simp only [Mt.dp]; omega⟩, fr02.trans fr4⟩
      · simp [hi]
        exact wp_rt (rest _ μ2 fr02)
    | _ =>
      simp [Mt.kids] at l1
      simp [l1]
      exact wp_rt (rest _ μ1 fr1)
/-! ### questions -/
def Q (d : D) : Prop := ∃ (k : Ki) (m : Mt) (k' : Ki), d = .tup [k.d, m.d, k'.d] ∧ k.h ≤ 8 ∧ k'.h ≤ 8 ∧ m.okb = true ∧ m.dp ≤ 20
theorem Q.mk {k k' : Ki} {m : Mt} (h1 : k.h ≤ 8) (h2 : k'.h ≤ 8) (h3 : m.okb = true) (h4 : m.dp ≤ 20) : Q (.tup [k.d, m.d, k'.d]) := ⟨k, m, k', rfl, h1, h2, h3, h4⟩
theorem add_lst {o p : Nat} {a b : List D} {g : G} (ho : μ[o]? = some (.lst a)) (hp : μ[p]? = some (.lst b)) (hl : a.length + b.length ≤ line) : bopG g .add (.obj o) (.obj p) μ = .ok (.obj μ.length) (μ ++ [.lst (a ++ b)]) := by
  simp only [bopG, insOf_obj, ho]
  simp only [bop, lstOf_eq, ho, hp]
  rw [if_pos hl]
theorem wp_add {o p : Nat} {a b : List D} {g : G} {P : D → Store → Prop} {E : X → Store → Prop} (ho : μ[o]? = some (.lst a)) (hp : μ[p]? = some (.lst b)) (hl : a.length + b.length ≤ line) (h : P (.obj μ.length) (μ ++ [.lst (a ++ b)])) : (bopG g .add (.obj o) (.obj p) μ).Wp P E := by
  rw [add_lst ho hp hl, R.Wp_ok]
  exact h
/-- a list of questions grown -/
theorem grow {o : Nat} {a b : List D} {g : G} (ho : μ[o]? = some (.lst a)) (hl : a.length + b.length ≤ 1000) :
    ∃ o' μ', bopG g .add (.obj o) (.obj μ.length) (μ ++ [.lst b]) = .ok (.obj o') μ' ∧ Ex μ μ' ∧ μ'[o']? = some (.lst (a ++ b)) ∧ μ.length ≤ o' := by
  refine ⟨_, _, add_lst (b := b) ((Ex.push _ _).at ho) (by simp) (by simp only [line]; omega), (Ex.push _ _).trans (Ex.push _ _), ?_, by simp⟩
  rw [List.getElem?_append_right (Nat.le_refl _)]
  simp
theorem sp_questions (s t : Ki) (m : Mt) (hs : s.h ≤ 3) (ht : t.h ≤ 3) (om : m.okb = true) (dm : m.dp ≤ 8) (hn : 40 ≤ n) (hd : Dr μ) :
    ((gN pt.fds pt.g n).callF "_law_questions" [.obj 0, s.d, t.d, m.d] μ).Wp (fun d μ' => ∃ o ds, d = .obj o ∧ μ'[o]? = some (.lst ds) ∧ (∀ d ∈ ds, Q d) ∧ Fr μ μ' ∧ o ≠ 0) noE := by
  have hp := hd.pos
  refine wp_callF (f := f__law_questions) rfl rfl (by omega) ?_
  simp only [f__law_questions, b__law_questions, startE, List.map]
  generalize hZ : Ss.cons (St.set (Tg.name 13) _) _ = Z
  simp
  refine (sp_kind 2 _ _ (by omega) hd).to ?_
  rintro d μ1 ⟨u0, rfl, hu0, fr1⟩
  simp
  refine (sp_agreeing s (by omega) 2 _ _ (by simp; omega) fr1.dr).to ?_
  rintro d μ2 ⟨u1, rfl, hu1, fr2⟩
  simp
  refine (sp_agreeing t (by omega) 2 _ _ (by simp; omega) fr2.dr).to ?_
  rintro d μ3 ⟨u2, rfl, hu2, fr3⟩
  simp at hu1 hu2
  have fr03 := (fr1.trans fr2).trans fr3
  have fr04 := fr03.trans (Fr.push fr03.dr (.lst [u0.d, u1.d, u2.d]))
  have l4 : (μ3 ++ [MO.lst [u0.d, u1.d, u2.d]])[μ3.length]? = some (.lst [u0.d, u1.d, u2.d]) := by simp
  have n3 := fr03.len
  simp
  generalize hO : μ3.length = O at l4 n3 ⊢
  generalize μ3 ++ [MO.lst [u0.d, u1.d, u2.d]] = μ4 at fr04 l4 ⊢
  refine (sp_spoilt 8 m (n - 1) μ4 dm (by omega) om fr04.dr).to ?_
  rintro d μ5 ⟨⟨m2, rfl, om2, dm2⟩, fr5⟩
  simp
  refine (sp_label (by omega) fr5.dr).to ?_
  rintro d μ6 ⟨hl, fr6⟩
  obtain ⟨l, rfl, ol⟩ := hl.oS (by decide)
  simp
  refine (sp_label (by omega) fr6.dr).to ?_
  rintro d μ7 ⟨hb, fr7⟩
  obtain ⟨b, rfl, ob⟩ := hb.oS (by decide)
  simp
  have f8 := fr7.trans (Fr.push fr7.dr (.lst [D.str [105, 110, 116], .str [98, 111, 111, 108], .str [117, 110, 105, 116], .str [102, 117, 110], .str [112, 97, 105, 114]]))
  refine (sp_draw (by omega) f8.dr (by decide)).to ?_
  rintro d μ9 ⟨j, rfl, j1, j2, fr9⟩
  have h0 := fr9.at (show (μ7 ++ [MO.lst [D.str [105, 110, 116], .str [98, 111, 111, 108], .str [117, 110, 105, 116], .str [102, 117, 110], .str [112, 97, 105, 114]]])[μ7.length]? = some _ by simp; rfl) (by have := fr7.dr.pos; omega)
  obtain ⟨g, eg⟩ := gds j j1 j2
  have fr49 := ((fr5.trans fr6).trans (f8.trans fr9))
  have l9 := fr49.at l4 (by omega)
  have hI : ∀ ν, Ex μ9 ν → idx (.obj O) (.int 0) ν = .ok u0.d ν ∧ idx (.obj O) (.int 1) ν = .ok u1.d ν ∧ idx (.obj O) (.int 2) ν = .ok u2.d ν := by
    intro ν e
    have := e.at l9
    refine ⟨?_, ?_, ?_⟩ <;> (rw [idx_obj, lstOf_eq, this]; rfl)
  have hI0 := fun ν e => (hI ν e).1
  have hI1 := fun ν e => (hI ν e).2.1
  have hI2 := fun ν e => (hI ν e).2.2
  have exA : ∀ l, Ex μ9 (μ9 ++ l) := fun l => ⟨l, rfl⟩
  have rest : ∀ (o : Nat) (ds : List D) (μ' : Store) (e6 e7 e8 e9 e10 e11 : Option D), Fr μ μ' → μ'[o]? = some (.lst ds) → (∀ d ∈ ds, Q d) → ds.length ≤ 40 → μ.length ≤ o →
      (Ss.den (gN pt.fds pt.g (n - 1)) none Z [some (.obj 0), some s.d, some t.d, some m.d, some (.obj O), some m2.d, e6, e7, e8, e9, e10, e11, some (.obj o), none, none] μ').Wp { N := fun _ _ => False, T := fun d μ' => ∃ o ds, d = .obj o ∧ μ'[o]? = some (.lst ds) ∧ (∀ d ∈ ds, Q d) ∧ Fr μ μ' ∧ o ≠ 0 } := by
    intro o ds ν e6 e7 e8 e9 e10 e11 fr ho hq hlen hoo
    rw [← hZ]
    simp
    refine (sp_draw (n := n - 1) (by omega) fr.dr (by decide)).to ?_
    rintro d ν1 ⟨i, rfl, i1, i2, fr1⟩
    obtain ⟨i, rfl⟩ := Int.eq_ofNat_of_zero_le i1
    simp
    refine (sp_nestB i (by omega) (by omega) fr1.dr).to ?_
    rintro d ν2 ⟨⟨m3, rfl, om3, -, hm3⟩, fr2⟩
    have dm3 := dp_ht m3
    simp
    refine (sp_spoilt 12 m3 (n - 1) ν2 (by omega) (by omega) om3 fr2.dr).to ?_
    rintro d ν3 ⟨⟨m4, rfl, om4, dm4⟩, fr3⟩
    have fr03 := ((fr.trans fr1).trans fr2).trans fr3
    have ho3 : ν3[o]? = some (.lst ds) := ((fr1.trans fr2).trans fr3).at ho (by omega)
    simp
    have n3 := fr03.len
    refine wp_add ((Ex.push _ _).at ho3) (by simp; rfl) (by simp [line]; omega) ?_
    have fr04 : Fr μ (ν3 ++ [MO.lst [D.tup [Ki.q.d, m3.d, Ki.q.d], D.tup [Ki.q.d, m4.d, Ki.q.d], D.tup [s.d, m3.d, t.d]]] ++ [MO.lst (ds ++ [D.tup [Ki.q.d, m3.d, Ki.q.d], D.tup [Ki.q.d, m4.d, Ki.q.d], D.tup [s.d, m3.d, t.d]])]) := (fr03.trans (Fr.push fr03.dr _)).trans (Fr.push (Fr.push fr03.dr _).dr _)
    have l4 : (ν3 ++ [MO.lst [D.tup [Ki.q.d, m3.d, Ki.q.d], D.tup [Ki.q.d, m4.d, Ki.q.d], D.tup [s.d, m3.d, t.d]]] ++ [MO.lst (ds ++ [D.tup [Ki.q.d, m3.d, Ki.q.d], D.tup [Ki.q.d, m4.d, Ki.q.d], D.tup [s.d, m3.d, t.d]])])[(ν3 ++ [MO.lst [D.tup [Ki.q.d, m3.d, Ki.q.d], D.tup [Ki.q.d, m4.d, Ki.q.d], D.tup [s.d, m3.d, t.d]]]).length]? = some (.lst (ds ++ [D.tup [Ki.q.d, m3.d, Ki.q.d], D.tup [Ki.q.d, m4.d, Ki.q.d], D.tup [s.d, m3.d, t.d]])) := by
      rw [List.getElem?_append_right (Nat.le_refl _)]
      simp
    have hq4 : ∀ d ∈ ds ++ [D.tup [Ki.q.d, m3.d, Ki.q.d], D.tup [Ki.q.d, m4.d, Ki.q.d], D.tup [s.d, m3.d, t.d]], Q d := by
      intro d hd
      rcases List.mem_append.mp hd with hd | hd
      · exact hq d hd
      · simp only [List.mem_cons, List.not_mem_nil, or_false] at hd
        have kq : Ki.q.h ≤ 8 := by simp [Ki.h]
        rcases hd with rfl | rfl | rfl
        · exact Q.mk kq kq om3 (by omega)
        · exact Q.mk kq kq om4 (by omega)
        · exact Q.mk (by omega) (by omega) om3 (by omega)
    have no4 : μ.length ≤ (ν3 ++ [MO.lst [D.tup [Ki.q.d, m3.d, Ki.q.d], D.tup [Ki.q.d, m4.d, Ki.q.d], D.tup [s.d, m3.d, t.d]]]).length := by simp; omega
    generalize (ν3 ++ [MO.lst [D.tup [Ki.q.d, m3.d, Ki.q.d], D.tup [Ki.q.d, m4.d, Ki.q.d], D.tup [s.d, m3.d, t.d]]]).length = o4 at l4 no4 ⊢
    generalize ν3 ++ [MO.lst [D.tup [Ki.q.d, m3.d, Ki.q.d], D.tup [Ki.q.d, m4.d, Ki.q.d], D.tup [s.d, m3.d, t.d]]] ++ [MO.lst (ds ++ [D.tup [Ki.q.d, m3.d, Ki.q.d], D.tup [Ki.q.d, m4.d, Ki.q.d], D.tup [s.d, m3.d, t.d]])] = ν4 at fr04 l4 ⊢
    have hl4 : (ds ++ [D.tup [Ki.q.d, m3.d, Ki.q.d], D.tup [Ki.q.d, m4.d, Ki.q.d], D.tup [s.d, m3.d, t.d]]).length ≤ 43 := by simp; omega
    generalize ds ++ [D.tup [Ki.q.d, m3.d, Ki.q.d], D.tup [Ki.q.d, m4.d, Ki.q.d], D.tup [s.d, m3.d, t.d]] = ds4 at l4 hq4 hl4
    simp [ws_for]
    have fr05 := fr04.trans (Fr.push fr04.dr (.lst [.int 7, .int 8, .int 9]))
    have l5 : (ν4 ++ [MO.lst [.int 7, .int 8, .int 9]])[o4]? = some (.lst ds4) := at_old l4
    have q5 : (ν4 ++ [MO.lst [.int 7, .int 8, .int 9]])[ν4.length]? = some (.lst [.int 7, .int 8, .int 9]) := by simp
    have n4 := fr04.len
    have b4 := at_lt l4
    generalize hN : ν4.length = N4 at q5 n4 b4 ⊢
    generalize ν4 ++ [MO.lst [.int 7, .int 8, .int 9]] = ν5 at fr05 l5 q5 ⊢
    refine wp_forL (ds := [.int 7, .int 8, .int 9]) (fun i ρ μ' => Fr μ μ' ∧ μ'[N4]? = some (.lst [.int 7, .int 8, .int 9]) ∧ (∃ z, ρ = [some (.obj 0), some s.d, some t.d, some m.d, some (.obj O), some m2.d, e6, e7, e8, e9, e10, e11, some (.obj o4), some m3.d, z]) ∧ ∃ ds, μ'[o4]? = some (.lst ds) ∧ (∀ d ∈ ds, Q d) ∧ ds.length ≤ 43 + i) ?_ ⟨fr05, q5, ⟨none, rfl⟩, ds4, l5, hq4, by omega⟩ ?_ ?_
    · rintro i ρ μ' ⟨_, q, _⟩
      simp [q]
    · rintro i d ρ ν6 hi ⟨fr6, q6, ⟨z, rfl⟩, ds6, l6, hq6, n6⟩
      have hi3 : i < 3 := (List.getElem?_eq_some_iff.mp hi).1
      obtain ⟨j, hj, rfl⟩ : ∃ j : Nat, j ≤ 10 ∧ d = .int j := by
        have : i = 0 ∨ i = 1 ∨ i = 2 := by omega
        rcases this with rfl | rfl | rfl
        · simp at hi; exact ⟨7, by omega, hi.symm⟩
        · simp at hi; exact ⟨8, by omega, hi.symm⟩
        · simp at hi; exact ⟨9, by omega, hi.symm⟩
      simp [l6]
      refine (sp_nestB (n := n - 1) j hj (by omega) fr6.dr).to ?_
      rintro d ν7 ⟨⟨m7, rfl, om7, -, hm7⟩, fr7⟩
      have dm7 := dp_ht m7
      have l7 := fr7.at l6 (by omega)
      have q7 := fr7.at q6 (by omega)
      have lt7 := at_lt l7
      have hln : ds6.length < line := by simp [line]; omega
      have kq : Ki.q.h ≤ 8 := by simp [Ki.h]
      simp [l7, hln]
      refine ⟨(fr6.trans fr7).set hp (by omega) _, ?_, _, at_set lt7 _, ?_, by simp; omega⟩
      · rw [List.getElem?_set_ne (by omega)]
        exact q7
      · intro d hd
        rcases List.mem_append.mp hd with hd | hd
        · exact hq6 d hd
        · simp only [List.mem_cons, List.not_mem_nil, or_false] at hd
          subst hd
          exact Q.mk kq kq om7 (by omega)
    · rintro ρ ν6 ⟨fr6, q6, ⟨z, rfl⟩, ds6, l6, hq6, n6⟩
      simp
      exact ⟨_, l6, hq6, fr6, by omega⟩
  have iJ : idx (.obj μ7.length) (.int j) μ9 = .ok (.str g.s) μ9 := by
    rw [idx_obj, lstOf_eq, h0]
    simp only []
    rw [eg]
  simp [-idx_obj, iJ, hI0 μ9 (Ex.refl _), hI1, hI2, exA]
  refine wp_add (by simp; rfl) (by simp; rfl) (by simp [line]) ?_
  simp [-idx_obj, hI1, hI2, exA]
  refine wp_add (by simp; rfl) (by simp; rfl) (by simp [line]) ?_
  simp [-idx_obj, hI1, hI2, exA]
  refine wp_add (by simp; rfl) (by simp; rfl) (by simp [line]) ?_
  simp [-idx_obj, hI1, hI2, exA]
  refine wp_add (by simp; rfl) (by simp; rfl) (by simp [line]) ?_
  simp [-idx_obj, hI1, hI2, exA]
  have fr09 := fr04.trans fr49
  have n9 := fr09.len
  have kq : Ki.q.h ≤ 8 := by simp [Ki.h]
  refine wp_rt (rest (μ9.length + 8) _ _ _ _ _ _ _ _ (fr09.trans ((exA _).fr fr09.dr)) (by simp; rfl) ?_ (by simp) (by omega))
  intro d hd
  simp only [List.mem_cons, List.not_mem_nil, or_false] at hd
  rcases hd with rfl | rfl | rfl | rfl | rfl | rfl | rfl | rfl | rfl | rfl | rfl | rfl | rfl | rfl | rfl | rfl | rfl
  · exact Q.mk (k := s) (k' := t) (m := m) (by first | exact kq | omega) (by first | exact kq | omega) om (by first | omega | simp [Mt.dp])
  · exact Q.mk (k := s) (k' := t) (m := m2) (by first | exact kq | omega) (by first | exact kq | omega) om2 (by first | omega | simp [Mt.dp])
  · exact Q.mk (k := t) (k' := s) (m := m) (by first | exact kq | omega) (by first | exact kq | omega) om (by first | omega | simp [Mt.dp])
  · exact Q.mk (k := u0) (k' := t) (m := m) (by first | exact kq | omega) (by first | exact kq | omega) om (by first | omega | simp [Mt.dp])
  · exact Q.mk (k := s) (k' := u0) (m := m) (by first | exact kq | omega) (by first | exact kq | omega) om (by first | omega | simp [Mt.dp])
  · exact Q.mk (k := u1) (k' := t) (m := m) (by first | exact kq | omega) (by first | exact kq | omega) om (by first | omega | simp [Mt.dp])
  · exact Q.mk (k := s) (k' := u2) (m := m) (by first | exact kq | omega) (by first | exact kq | omega) om (by first | omega | simp [Mt.dp])
  · exact Q.mk (k := u1) (k' := u2) (m := m2) (by first | exact kq | omega) (by first | exact kq | omega) om2 (by first | omega | simp [Mt.dp])
  · exact Q.mk (k := s) (k' := t) (m := (.fail none (some b))) (by first | exact kq | omega) (by first | exact kq | omega) (by simp [Mt.okb, ol, ob]) (by first | omega | simp [Mt.dp])
  · exact Q.mk (k := s) (k' := t) (m := (.fail (some (g, l)) (some b))) (by first | exact kq | omega) (by first | exact kq | omega) (by simp [Mt.okb, ol, ob]) (by first | omega | simp [Mt.dp])
  · exact Q.mk (k := .q) (k' := t) (m := (.fail (some (g, l)) (some b))) (by first | exact kq | omega) (by first | exact kq | omega) (by simp [Mt.okb, ol, ob]) (by first | omega | simp [Mt.dp])
  · exact Q.mk (k := s) (k' := t) (m := (.fail (some (g, l)) (some l))) (by first | exact kq | omega) (by first | exact kq | omega) (by simp [Mt.okb, ol, ob]) (by first | omega | simp [Mt.dp])
  · exact Q.mk (k := .q) (k' := t) (m := (.fail (some (g, l)) (some l))) (by first | exact kq | omega) (by first | exact kq | omega) (by simp [Mt.okb, ol, ob]) (by first | omega | simp [Mt.dp])
  · exact Q.mk (k := .q) (k' := .q) (m := (.fn (some l) (.fail none (some b)) .any)) (by first | exact kq | omega) (by first | exact kq | omega) (by simp [Mt.okb, ol, ob]) (by first | omega | simp [Mt.dp])
  · exact Q.mk (k := .q) (k' := .q) (m := (.fn1 (some l) (.fail none (some b)))) (by first | exact kq | omega) (by first | exact kq | omega) (by simp [Mt.okb, ol, ob]) (by first | omega | simp [Mt.dp])
  · exact Q.mk (k := .q) (k' := .q) (m := (.fn1 (some l) .any)) (by first | exact kq | omega) (by first | exact kq | omega) (by simp [Mt.okb, ol, ob]) (by first | omega | simp [Mt.dp])
  · exact Q.mk (k := .q) (k' := .q) (m := (.fn none .any .any)) (by first | exact kq | omega) (by first | exact kq | omega) (by simp [Mt.okb, okO]) (by first | omega | simp [Mt.dp])
/-! ### middles of forms -/
def tD (x : Ki × Mt × Ki) : D := .tup [x.1.d, x.2.1.d, x.2.2.d]
theorem tD_sp3 (x : Ki × Mt × Ki) (h : Fit x.1 x.2.1 x.2.2) : sp3 12 (tD x) := by
  refine sp3_tup (by simp) ?_
  intro d hd
  simp only [List.mem_cons, List.not_mem_nil, or_false] at hd
  have h1 := h.s
  have h2 := h.t
  have h3 := h.dp
  rcases hd with rfl | rfl | rfl
  · exact ki_sp3 _ _ (by omega)
  · exact mt_sp3 _ _ (ok_okl _ h.ok) (by omega)
  · exact ki_sp3 _ _ (by omega)
theorem tD_eqv (x y : Ki × Mt × Ki) : D.eqv (tD x) (tD y) = (decide (x.1 = y.1) && (decide (x.2.1 = y.2.1) && decide (x.2.2 = y.2.2))) := by
  simp only [tD, eqv_tup, eqvs_cons, eqvs_nil, Ki.eqv, mt_eqv, Bool.and_true]
theorem sp_eqMK {i k : Nat} {s t u : Ki} {m : Mt} (hi : MiAt μ i s m t) (hk : KiAt μ k u) (hn : 2 ≤ n) : copG (gN pt.fds pt.g n) .eq (.obj i) (.obj k) μ = .ok (.bl false) μ := by
  obtain ⟨a, b, i1, i2, i3⟩ := hi
  have j := isi_ins (fs := pt.fds) (g0 := pt.g) (n := n - 1) (c := "Middle") hk
  have e : (gN pt.fds pt.g n).callF "Middle.__eq__" [.obj i, .obj k] μ = .ok (.bl false) μ := by
    apply eq_of_wp
    refine wp_callF (f := C.f_Middle___eq__) rfl rfl (by omega) ?_
    simp only [C.f_Middle___eq__, C.b_Middle___eq__, startE, List.map]
    simp [j]
  unfold KiAt at hk
  simp [copG, i1, hk, CO.isB, CO.dun, e]
theorem sp_eqdue {o : Nat} {xs : List (Ki × Mt × Ki)} (ho : μ[o]? = some (.lst (xs.map tD))) (hf : ∀ x ∈ xs, Fit x.1 x.2.1 x.2.2) (hl : xs.length ≤ 100) (hn : 40 ≤ n) :
    ((gN pt.fds pt.g n).callF "_law_equality_due" [.obj o] μ).Wp (fun d μ' => d = .bl true ∧ Ex μ μ') noE := by
  refine wp_callF (f := f__law_equality_due) rfl rfl (by omega) ?_
  simp only [f__law_equality_due, b__law_equality_due, startE, List.map]
  have i0 : ∀ (x : Ki × Mt × Ki) (μ : Store), idx (tD x) (.int 0) μ = .ok x.1.d μ := fun _ _ => rfl
  have i1 : ∀ (x : Ki × Mt × Ki) (μ : Store), idx (tD x) (.int 1) μ = .ok x.2.1.d μ := fun _ _ => rfl
  have i2 : ∀ (x : Ki × Mt × Ki) (μ : Store), idx (tD x) (.int 2) μ = .ok x.2.2.d μ := fun _ _ => rfl
  simp [ho]
  refine wp_compM tD (fun μ x d => ∃ i, d = .obj i ∧ MiAt μ i x.1 x.2.1 x.2.2) ?_ ?_ xs (by simp only [line]; omega) ho ?_ ?_
  · rintro μ μ' x d ⟨i, rfl, h⟩ ex
    exact ⟨i, rfl, h.ex ex⟩
  · rintro μ x d o l y ⟨i, rfl, h⟩ ho
    refine ⟨i, rfl, ?_⟩
    obtain ⟨a, b, h1, h2, h3⟩ := h
    refine ⟨a, b, ?_, h2.set ho, h3.set ho⟩
    have : o ≠ i := by
      rintro rfl
      rw [ho] at h1
      cases h1
    rw [List.getElem?_set_ne this]
    exact h1
  · rintro x hx μ7 ex7
    have F := hf x hx
    simp [i0]
    refine (sp_newK (n := n - 1) _ F.s (by omega)).to ?_
    rintro d μ8 ⟨rfl, ex8, k8⟩
    simp [i1, i2]
    refine (sp_newK (n := n - 1) _ F.t (by omega)).to ?_
    rintro d μ9 ⟨rfl, ex9, k9⟩
    simp
    refine (sp_newMi (n := n - 1) (ex9.at k8) k9 F (by omega)).to ?_
    rintro d μ10 ⟨rfl, ex10, m10⟩
    rw [Py.R.Wp_ok]
    exact ⟨_, rfl, (ex8.trans ex9).trans ex10, _, rfl, m10⟩
  · rintro os μ1 ex1 h1 hlen hM
    have ho1 := ex1.at ho
    simp [ws_for, ho1]
    rw [range_ok (okR_of (by decide) (by decide)) (okR_of (by omega) (by omega))]
    simp [forD]
    refine wp_forP (fun j ρ μ' => Ex μ1 μ' ∧ ∃ x y z, ρ = [some (.obj o), some (.obj μ.length), x, y, z]) ⟨Ex.refl _, none, none, none, rfl⟩ ?_ ?_
    · rintro j d ρ μ2 hj ⟨ex2, x0, y0, z0, rfl⟩
      obtain ⟨hj1, rfl⟩ := rints_at hj
      replace hj1 : j < xs.length := by simpa using hj1
      obtain ⟨x, hx⟩ : ∃ x, xs[j]? = some x := ⟨_, List.getElem?_eq_getElem hj1⟩
      obtain ⟨d, hd⟩ : ∃ d, os[j]? = some d := ⟨_, List.getElem?_eq_getElem (by omega)⟩
      obtain ⟨ix, rfl, mx⟩ := hM j x d hx hd
      have F := hf x (List.mem_of_getElem? hx)
      have q1 : ∀ ν, Ex μ1 ν → idx (.obj μ.length) (.int j) ν = .ok (.obj ix) ν := by
        intro ν e
        rw [idx_obj, lstOf_eq, e.at h1]
        simp only []
        rw [atI_some hd]
      have q2 : ∀ ν, Ex μ1 ν → idx (.obj o) (.int j) ν = .ok (tD x) ν := by
        intro ν e
        rw [idx_obj, lstOf_eq, e.at ho1]
        simp only []
        rw [atI_some (by rw [List.getElem?_map, hx]; rfl)]
      simp [-idx_obj, q1 μ2 ex2, q2 μ2 ex2, i0]
      refine (sp_newK (n := n - 1) _ F.s (by omega)).to ?_
      rintro d μ3 ⟨rfl, ex3, k3⟩
      have ex13 := ex2.trans ex3
      have em := sp_eqMK (n := n - 1) (mx.ex ex13) k3 (by omega)
      have ho3 := ex13.at ho1
      simp [-idx_obj, em, ws_for, ho3]
      rw [range_ok (okR_of (by decide) (by decide)) (okR_of (by omega) (by omega))]
      simp [-idx_obj, forD]
      refine wp_forP (fun k ρ μ' => Ex μ1 μ' ∧ ∃ y z, ρ = [some (.obj o), some (.obj μ.length), some (.int j), y, z]) ⟨ex13, _, _, rfl⟩ ?_ ?_
      · rintro k d ρ μ4 hk ⟨ex4, y1, z1, rfl⟩
        obtain ⟨hk1, rfl⟩ := rints_at hk
        replace hk1 : k < xs.length := by simpa using hk1
        obtain ⟨y, hy⟩ : ∃ x, xs[k]? = some x := ⟨_, List.getElem?_eq_getElem hk1⟩
        obtain ⟨d, hd2⟩ : ∃ d, os[k]? = some d := ⟨_, List.getElem?_eq_getElem (by omega)⟩
        obtain ⟨iy, rfl, my⟩ := hM k y d hy hd2
        have G := hf y (List.mem_of_getElem? hy)
        have r1 : idx (.obj μ.length) (.int k) μ4 = .ok (.obj iy) μ4 := by
          rw [idx_obj, lstOf_eq, ex4.at h1]
          simp only []
          rw [atI_some hd2]
        have r2 : idx (.obj o) (.int k) μ4 = .ok (tD y) μ4 := by
          rw [idx_obj, lstOf_eq, ex4.at ho1]
          simp only []
          rw [atI_some (by rw [List.getElem?_map, hy]; rfl)]
        have ee := sp_eqMi (fs := pt.fds) (g0 := pt.g) (n := n - 1) (mx.ex ex4) (my.ex ex4) F G (by omega)
        have ss := sp_same2 (fs := pt.fds) (g0 := pt.g) (n := n - 1) (μ := μ4) (k := 12) (by omega) (by omega) (tD_sp3 x F) (tD_sp3 y G)
        rw [tD_eqv] at ss
        generalize (decide (x.1 = y.1) && (decide (x.2.1 = y.2.1) && decide (x.2.2 = y.2.2))) = B at ee ss
        simp [-idx_obj, q1 μ4 ex4, q2 μ4 ex4, r1, r2, ee, ss]
        exact ex4
      · rintro ρ μ4 ⟨ex4, y1, z1, rfl⟩
        simp
        exact ex4
    · rintro ρ μ2 ⟨ex2, x, y, z, rfl⟩
      simp
      exact ex1.trans ex2
theorem sp_law (n : Nat) (hn : 80 ≤ n) (ns : List Int) (hl : ns.length ≤ 63) : ((gN pt.fds pt.g n).callF "law" [.fz (ns.map .int)] []).Wp (fun d μ' => d = .bl true) noE := by
  refine wp_callF (f := f_law) rfl rfl (by omega) ?_
  simp only [f_law, b_law, startE, List.map]
  generalize hZ : Ss.cons (St.set (Tg.name 4) _) _ = Z
  simp
  refine (sp_draws (by omega) ns hl).to ?_
  rintro d μ1 ⟨rfl, hd, -⟩
  simp
  refine (sp_kind 3 (n - 1) μ1 (by omega) hd).to ?_
  rintro d μ2 ⟨s, rfl, hs, fr2⟩
  simp
  refine (sp_agreeing s (by omega) 3 (n - 1) μ2 (by simp; omega) fr2.dr).to ?_
  rintro d μ3 ⟨t, rfl, ht, fr3⟩
  simp at ht
  have rest : ∀ (t : Ki) (μ4 : Store), t.h ≤ 3 → Dr μ4 → (Ss.den (gN pt.fds pt.g (n - 1)) none Z [some (.fz (ns.map .int)), some (.obj 0), some s.d, some t.d, none, none, none, none, none, none, none, none] μ4).Wp { N := fun _ _ => False, T := fun d _ => d = .bl true } := by
    intro t μ4 ht hd4
    rw [← hZ]
    simp
    refine (sp_ltreeB 3 s t 3 (n - 1) _ hs ht (by omega) (by decide) (by omega) hd4).to ?_
    rintro d μ5 ⟨⟨m1, rfl, o1, f1, h1⟩, fr5⟩
    simp
    refine (sp_ltreeB 3 s t 3 (n - 1) _ hs ht (by omega) (by decide) (by omega) fr5.dr).to ?_
    rintro d μ6 ⟨⟨m2, rfl, o2, f2, h2⟩, fr6⟩
    simp
    refine (sp_label (n := n - 1) (by omega) fr6.dr).to ?_
    rintro d μ7 ⟨hb, fr7⟩
    obtain ⟨b, rfl, ob⟩ := hb.oS (by decide)
    simp
    refine (sp_kind 2 (n - 1) μ7 (by omega) fr7.dr).to ?_
    rintro d μ8 ⟨u, rfl, hu, fr8⟩
    have F1 : Fit s m1 t := ⟨by omega, by omega, by omega, okb_ok _ _ _ o1 f1, f1⟩
    have F2 : Fit s m2 t := ⟨by omega, by omega, by omega, okb_ok _ _ _ o2 f2, f2⟩
    have FF : ∀ a c : Ki, a.h ≤ 8 → c.h ≤ 8 → Fit a (.fail none (some b)) c := fun a c ha hc => ⟨ha, hc, by simp [Mt.ht], by simpa [Mt.ok] using ob, by simp [Mt.fits]⟩
    let xs : List (Ki × Mt × Ki) := [(s, m1, t), (s, m2, t), (s, .fail none (some b), t), (u, .fail none (some b), t), (s, .fail none (some b), u), (s, m1, t)]
    have hxs : ∀ x ∈ xs, Fit x.1 x.2.1 x.2.2 := by
      intro x hx
      simp only [xs, List.mem_cons, List.not_mem_nil, or_false] at hx
      rcases hx with rfl | rfl | rfl | rfl | rfl | rfl
      · exact F1
      · exact F2
      · exact FF _ _ (by simp only; omega) (by simp only; omega)
      · exact FF _ _ (by simp only; omega) (by simp only; omega)
      · exact FF _ _ (by simp only; omega) (by simp only; omega)
      · exact F1
    simp
    have ho : (μ8 ++ [MO.lst (xs.map tD)])[μ8.length]? = some (.lst (xs.map tD)) := by simp
    refine (sp_eqdue (n := n - 1) ho hxs (by simp [xs]) (by omega)).to ?_
    rintro d μ9 ⟨rfl, ex9⟩
    have hd8 := fr8.dr
    have hd9 := (((Ex.push μ8 (MO.lst (xs.map tD))).trans ex9).fr hd8).dr
    simp [ws_for]
    refine (sp_questions (n := n - 1) s t m1 hs ht o1 (by have := dp_ht m1; omega) (by omega) hd9).to ?_
    rintro d μ10 ⟨o, ds, rfl, ho10, hq, fr10, o0⟩
    simp [ho10]
    refine wp_forL (ds := ds) (fun i ρ μ' => Ex μ10 μ' ∧ ∃ x y z, ρ = [some (.fz (ns.map .int)), some (.obj 0), some s.d, some t.d, some m1.d, some m2.d, some (.tup [.str [102, 97, 105, 108], .non, .str b]), some u.d, some (.obj μ8.length), x, y, z]) ?_ ⟨Ex.refl _, none, none, none, rfl⟩ ?_ ?_
    · rintro i ρ μ' ⟨ex, _⟩
      simp [ex.at ho10]
    · rintro i d ρ μ11 hi ⟨ex11, x, y, z, rfl⟩
      obtain ⟨k, m, k', rfl, hk, hk', om, dm⟩ := hq d (List.mem_of_getElem? hi)
      simp [Tg.den, Tg.put]
      refine (sp_asked (n := n - 1) k k' m hk hk' (okb_okl _ om) dm (by omega)).to ?_
      rintro d μ12 ⟨rfl, ex12⟩
      simp
      refine (sp_due (n := n - 1) k k' m (by omega) (by omega) (okb_okl _ om) dm (by omega)).to ?_
      rintro d μ13 ⟨rfl, ex13⟩
      have sd : D.deep 1 (.str (due k m k')) := by
        refine str_deep ?_ 1
        unfold due
        split
        · decide
        · split <;> decide
      have ss := sp_same (fs := pt.fds) (g0 := pt.g) (n := n - 1) (μ := μ13) (k := 1) (by omega) (by omega) sd
      simp [ss]
      exact (ex11.trans ex12).trans ex13
    · rintro ρ μ11 ⟨ex11, x, y, z, rfl⟩
      simp
  simp
  refine (sp_draw (n := n - 1) (by omega) fr3.dr (by decide)).to ?_
  rintro d μ4 ⟨i, rfl, i1, i2, fr4⟩
  simp
  by_cases hi : i = 3
  · simp [hi]
    refine (sp_kind 3 (n - 1) μ4 (by omega) fr4.dr).to ?_
    rintro d μ5 ⟨t', rfl, ht', fr5⟩
    simp
    exact wp_rt (rest t' μ5 ht' fr5.dr)
  · simp [hi]
    exact wp_rt (rest t μ4 (by omega) fr4.dr)
theorem plain (ns : List Int) (hl : ns.length ≤ 63) : ∃ μ, callN pt.fds pt.g (114 + 1) "law" [.fz (ns.map .int)] [] = .ok (.bl true) μ := by
  obtain ⟨a, μ, h, rfl⟩ := (sp_law 115 (by decide) ns hl).get
  exact ⟨μ, h⟩
end Pn.K28
end

section
set_option Elab.async false
set_option linter.all false
set_option maxRecDepth 100000
set_option maxHeartbeats 0

namespace Py.K28
open PySem L2 Py Pn Pn.K28
theorem chk : tab.chk = true := by decide +kernel
theorem tab_pt : tab.pt = Pn.K28.pt := rfl
end Py.K28
open PySem PySem.W PySem.Calls PyProof.Rows in
theorem Py.K28.holds (plain0 : ∀ ns : List Int, ns.length ≤ 63 → ∃ μ, Py.callN Pn.K28.pt.fds Pn.K28.pt.g (114 + 1) "law" [.fz (ns.map Py.D.int)] [] = .ok (.bl true) μ) : PySem.Challenge.rw_boxedmiddles_k28_middles_that_fit.Holds := by
  have plain : ∀ ns : List Int, ns.length ≤ 63 → ∃ μ, Py.callN Py.K28.tab.fs Py.K28.tab.g (114 + 1) "law" [.fz (ns.map Py.D.int)] [] = .ok (.bl true) μ := by
    rw [Py.Tab.g_pt, Py.Tab.fs_pt, Py.K28.tab_pt]
    exact plain0
  w_on; o_law
  refine HandSHeadRun.head_any (r := OpenLaw.row PySem.Challenge.rw_boxedmiddles_k28_middles_that_fit) (q := view (OpenLaw.row PySem.Challenge.rw_boxedmiddles_k28_middles_that_fit).prog [112]) (H := Py.K28.tab.hook 4) (ob := Py.K28.ob) (M := 20000) (loose := Py.K28.loose) (d := HandSHeadRun.topDef (OpenLaw.row PySem.Challenge.rw_boxedmiddles_k28_middles_that_fit).prog 112) (kwd := []) Py.K28.ob_eq
    (by kernel_rfl) (fun s => by kernel_rfl) Py.K28.run (by kernel_rfl) (by kernel_rfl) (by kernel_rfl) (by rfl) (by first | assumption | decide +kernel) (by decide +kernel) ⟨rfl, rfl, rfl, rfl, rfl, by decide +kernel⟩ ?hw ?hc
  case hw => w_witness2
  case hc =>
    refine L2.walk_ofE (l := PySem.Challenge.rw_boxedmiddles_k28_middles_that_fit) (n := 63) (k := 2 * 114 + 1 + 1) (x := "script") (CX := Py.CXe (PySem.Challenge.rw_boxedmiddles_k28_middles_that_fit).prog) rfl (by decide) (by kernel_rfl) ⟨rfl, by decide, by decide⟩ ?F Py.CXe.no
    intro w mg fa h Y G hmg0
    obtain ⟨K, KX, c⟩ := Y
    have hmg : mg (Py.nm "law") = some (.ref fa) := by
      have e : (HandSHeadRun.topDef (OpenLaw.row PySem.Challenge.rw_boxedmiddles_k28_middles_that_fit).prog 112).name = Py.nm "law" := by kernel_rfl
      rw [← e]
      exact hmg0
    obtain ⟨fd, hb, hF⟩ := Py.Tab.facts (P := (PySem.Challenge.rw_boxedmiddles_k28_middles_that_fit).prog) (w := w) (x := "script") 114 Py.K28.chk KX G hmg c (by decide +kernel) (d := Py.K28.d_law) rfl rfl rfl
    exact ⟨K, fd, _, KX, hb, fun H a ns hl hO hS => Py.law_sp hO hS (plain ns hl), hF⟩
end
open PySem PySem.W PyProof.Rows
set_option maxRecDepth 100000 in
set_option maxHeartbeats 8000000 in
theorem PySem.Challenge.cw_boxedmiddles_k28_middles_that_fit_holds : PySem.Challenge.rw_boxedmiddles_k28_middles_that_fit.Holds := by
  exact Py.K28.holds Pn.K28.plain
