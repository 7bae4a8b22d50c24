import PyProof.Rows.All
import Wide.All
import OpenK.AllK
import Wide.FinOn
import PySem.Challenge.RW_on0251_01
set_option Elab.async false
section
open PySem PySem.W PyProof.Rows
namespace Mine

inductive V where
  | none | bool (b : Bool) | int (i : Int) | str (x : Str)
  | tup (l : List V) | obj (n : Nat) | rng (a b : Int) | lst (a : Nat)
  deriving Inhabited

inductive Ob where
  | list (l : List V)
  | inst (c : Str) (fs : List (Str × V))
  deriving Inhabited
abbrev Sto := List Ob
abbrev Loc := Str → Option V
inductive Fl where
  | next | ret (v : V)

def upd (L : Loc) (x : Str) (v : V) : Loc := fun y => if y = x then some v else L y

mutual
def free : V → Bool
  | .tup l => freeL l
  | .obj _ => false
  | .rng _ _ => false
  | .lst _ => false
  | _ => true
def freeL : List V → Bool
  | [] => true
  | v :: vs => free v && freeL vs
end

mutual
def py : V → PyData
  | .none => .none
  | .bool b => .bool b
  | .int i => .int i
  | .str x => .str x
  | .tup l => .tuple (pyL l)
  | .obj _ => .none
  | .rng _ _ => .none
  | .lst _ => .none
def pyL : List V → List PyData
  | [] => []
  | v :: vs => py v :: pyL vs
end

/-- a value as data: free, or a list of free ones -/
def data (σ : Sto) : V → Option PyData
  | .obj n => match σ[n]? with
    | some (.list l) => if freeL l then some (.list (pyL l)) else none
    | _ => none
  | v => if free v then some (py v) else none

def okData (d : PyData) : Bool := d.canLay0 && decide (d.depth ≤ 64)

def small (a : Int) : Bool := decide (-(2 ^ 60) < a) && decide (a < 2 ^ 60)

def binI : Operator → Int → Int → Option V
  | .Add, a, b => some (.int (a + b))
  | .Sub, a, b => some (.int (a - b))
  | .Mult, a, b => if small a || small b then some (.int (a * b)) else none
  | .FloorDiv, a, b => if decide (b ≠ 0) && decide (b.natAbs < 1073741824) then some (.int (a.fdiv b)) else none
  | .Mod, a, b => if decide (b ≠ 0) then some (.int (a.fmod b)) else none
  | .Pow, a, b => if decide (0 ≤ b) && decide (b ≤ 100) && small a then some (.int (a ^ b.toNat)) else none
  | _, _, _ => none

def most : Nat := 1000000

def binS (op : Operator) (σ : Sto) : V → V → Option (V × Sto)
  | .int a, .int b => (binI op a b).map fun v => (v, σ)
  | .obj m, .obj n => match op, σ[m]?, σ[n]? with
    | .Add, some (.list l), some (.list r) => if decide (l.length + r.length ≤ most) then some (.obj σ.length, σ ++ [.list (l ++ r)]) else none
    | _, _, _ => none
  | _, _ => none

def cmpS (op : CmpOp) (σ : Sto) (a b : V) : Option Bool := match op with
  | .Eq => (data σ a).bind fun x => (data σ b).bind fun y => if okData x && okData y then some (PyData.eqv x y) else none
  | .NotEq => (data σ a).bind fun x => (data σ b).bind fun y => if okData x && okData y then some (!PyData.eqv x y) else none
  | .Lt => match a, b with | .int x, .int y => some (decide (x < y)) | _, _ => none
  | .LtE => match a, b with | .int x, .int y => some (decide (x ≤ y)) | _, _ => none
  | .Gt => match a, b with | .int x, .int y => some (decide (x > y)) | _, _ => none
  | .GtE => match a, b with | .int x, .int y => some (decide (x ≥ y)) | _, _ => none
  | .IsNot => match a, b with
    | .none, .none => some false
    | .tup _, .none => some true
    | _, _ => none
  | _ => none

/-- a sequence's items -/
def items (σ : Sto) : V → Option (List V)
  | .tup l => if decide (l.length ≤ most) then some l else none
  | .obj n => match σ[n]? with
    | some (.list l) => if decide (l.length ≤ most) then some l else none
    | _ => none
  | .rng a b => if small a && small b && decide (b - a ≤ most) then some ((List.range (b - a).toNat).map fun (k : Nat) => V.int (a + k)) else none
  | _ => none

def place (k : Int) (n : Nat) : Option Nat :=
  if 0 ≤ k then (if k < n then some k.toNat else none) else (if -(n : Int) ≤ k then some (k + n).toNat else none)

def getAt (l : List V) (k : Int) : Option V := (place k l.length).bind fun j => l[j]?

structure Funs where
  ev : Loc → Sto → Expr → Option (V × Sto)
  tst : Loc → Sto → Expr → Option (Bool × Sto)
  ex : Loc → Sto → Stmt → Option (Fl × Loc × Sto)

def evs (f : Sto → Expr → Option (V × Sto)) : Sto → List Expr → Option (List V × Sto)
  | σ, [] => some ([], σ)
  | σ, e :: es => match f σ e with
    | some (v, σ1) => (match evs f σ1 es with
      | some (vs, σ2) => some (v :: vs, σ2)
      | none => none)
    | none => none

def exs (f : Loc → Sto → Stmt → Option (Fl × Loc × Sto)) : Loc → Sto → List Stmt → Option (Fl × Loc × Sto)
  | L, σ, [] => some (.next, L, σ)
  | L, σ, s :: ss => match f L σ s with
    | some (.next, L1, σ1) => exs f L1 σ1 ss
    | some (.ret v, L1, σ1) => some (.ret v, L1, σ1)
    | none => none

/-- what is gone over: a value, or two lists at once -/
inductive It where
  | one (v : V) | two (m k : Nat)

def zipT : List V → List V → List V
  | a :: as, b :: bs => .tup [a, b] :: zipT as bs
  | _, _ => []

open Classical in
/-- what is gone over has not changed -/
noncomputable def still (σ : Sto) (it : It) (vs : List V) : Bool := match it with
  | .one v => decide (items σ v = some vs)
  | .two m k => match σ[m]?, σ[k]? with
    | some (.list l), some (.list r) => decide (m ≠ k) && decide (l.length ≤ most) && decide (r.length ≤ most) && decide (zipT l r = vs)
    | _, _ => false

theorem still_one {σ : Sto} {v : V} {vs : List V} : still σ (.one v) vs = true ↔ items σ v = some vs := by unfold still; simp
theorem still_two {σ : Sto} {m k : Nat} {vs : List V} (h : still σ (.two m k) vs = true) : ∃ l r, σ[m]? = some (.list l) ∧ σ[k]? = some (.list r) ∧ m ≠ k ∧ zipT l r = vs := by
  unfold still at h
  dsimp only at h
  split at h
  · rename_i l r e1 e2
    simp only [Bool.and_eq_true, decide_eq_true_eq] at h
    exact ⟨l, r, e1, e2, h.1.1.1, h.2⟩
  · cases h

def forL (chk : Sto → Bool) (f : V → Loc → Sto → Option (Fl × Loc × Sto)) : List V → Loc → Sto → Option (Fl × Loc × Sto)
  | [], L, σ => if chk σ then some (.next, L, σ) else none
  | v :: vs, L, σ => if chk σ then (match f v L σ with
    | some (.next, L1, σ1) => forL chk f vs L1 σ1
    | some (.ret r, L1, σ1) => some (.ret r, L1, σ1)
    | none => none) else none

def whileL (t : Loc → Sto → Option (Bool × Sto)) (f : Loc → Sto → Option (Fl × Loc × Sto)) : Nat → Loc → Sto → Option (Fl × Loc × Sto)
  | 0, _, _ => none
  | n + 1, L, σ => match t L σ with
    | some (true, σ1) => (match f L σ1 with
      | some (.next, L2, σ2) => whileL t f n L2 σ2
      | some (.ret r, L2, σ2) => some (.ret r, L2, σ2)
      | none => none)
    | some (false, σ1) => some (.next, L, σ1)
    | none => none

/-- bind a target's names (for a name, or a flat tuple of names) -/
def names? : List Expr → Option (List Str)
  | [] => some []
  | .Name x _ :: r => (names? r).map (x :: ·)
  | _ => none
def updL (L : Loc) : List Str → List V → Loc
  | x :: xs, v :: vs => updL (upd L x v) xs vs
  | _, _ => L
def bindT (L : Loc) (σ : Sto) : Expr → V → Option Loc
  | .Name x _, v => some (upd L x v)
  | .Tuple es _ _, v => match names? es, v with
    | some xs, .tup l => if decide (xs.length = l.length) then some (updL L xs l) else none
    | some xs, .obj n => (match σ[n]? with
      | some (.list l) => if decide (xs.length = l.length) then some (updL L xs l) else none
      | _ => none)
    | _, _ => none
  | _, _ => none

/-- all the tests of a clause -/
def tests (f : Sto → Expr → Option (Bool × Sto)) : Sto → List Expr → Option (Bool × Sto)
  | σ, [] => some (true, σ)
  | σ, e :: es => match f σ e with
    | some (true, σ1) => tests f σ1 es
    | some (false, σ1) => some (false, σ1)
    | none => none

/-- the turns of a comprehension's clause -/
def compL (chk : Sto → Bool) (f : V → Sto → Option Sto) : List V → Sto → Option Sto
  | [], σ => if chk σ then some σ else none
  | v :: vs, σ => if chk σ then (match f v σ with
    | some σ1 => compL chk f vs σ1
    | none => none) else none

open Classical in
/-- what a call leaves: its junk is forgotten where nothing points to it -/
noncomputable def gc (σ : Sto) (v : V) (σ' : Sto) : V × Sto :=
  if σ'.take σ.length = σ then
    if free v then (v, σ) else match v with
      | .obj k => (match σ'[k]? with
        | some (.list l) => if decide (σ.length ≤ k) && freeL l then (.obj σ.length, σ ++ [.list l]) else (v, σ')
        | some (.inst c fs) => if decide (σ.length ≤ k) && freeL (fs.map (·.2)) then (.obj σ.length, σ ++ [.inst c fs]) else (v, σ')
        | none => (v, σ'))
      | _ => (v, σ')
  else (v, σ')

def bindP (xs : List Str) (vs : List V) : Loc := fun y => (xs.zip vs).lookup y

def sliceG {α : Type} (l : List α) (lo hi st : Option Int) : List α :=
  (sliceRange (sliceBounds lo hi st l.length).1 (sliceBounds lo hi st l.length).2.1 (sliceBounds lo hi st l.length).2.2).filterMap (l[·]?)

inductive Bi where
  | len | range | abs | max | min | int | tuple | sum | zip
inductive Kd where
  | bi (b : Bi)
  | fn (d : DefRec)
  | cls (c : Str)
  | const (v : V)
structure Tbl where
  kind : Str → Option Kd
  meth : Str → Str → Option DefRec
  dfl : Str → List V
  field : Str → Str → Bool
  ro : Nat → Option (List Int)

def biC (T : Tbl) (b : Bi) (vs : List V) (σ : Sto) : Option V := match b, vs with
  | .len, [v] => (match v with
    | .rng _ _ => none
    | .lst a => (T.ro a).bind fun xs => if decide (xs.length ≤ most) then some (.int xs.length) else none
    | v => (items σ v).map fun l => .int l.length)
  | .range, [.int n] => some (.rng 0 n)
  | .range, [.int a, .int b] => some (.rng a b)
  | .abs, [.int a] => some (.int (if a < 0 then -a else a))
  | .max, [.int a, .int b] => some (.int (if b > a then b else a))
  | .min, [.int a, .int b] => some (.int (if b < a then b else a))
  | .int, [.int a] => some (.int a)
  | .int, [.bool b] => some (.int (if b then 1 else 0))
  | .tuple, [.tup l] => some (.tup l)
  | .tuple, [.obj n] => (match σ[n]? with
    | some (.list l) => if decide (l.length ≤ most) then some (.tup l) else none
    | _ => none)
  | .sum, [.tup []] => some (.int 0)
  | _, _ => none

noncomputable def callD (F : Funs) (d : DefRec) (vs : List V) (σ : Sto) : Option (V × Sto) :=
  if vs.length = d.params.args.length then
    match exs F.ex (bindP (d.params.args.map (·.arg)) vs) σ d.body with
    | some (.ret v, _, σ') => some (gc σ v σ')
    | some (.next, _, σ') => some (gc σ .none σ')
    | none => none
  else none

noncomputable def mkC (T : Tbl) (F : Funs) (c : Str) (vs : List V) (σ : Sto) : Option (V × Sto) :=
  match T.meth c (Str.ofString "__init__") with
  | some d =>
    let df := T.dfl c
    let n := d.params.args.length
    let all := .obj σ.length :: vs ++ df.drop (df.length - (n - 1 - vs.length))
    if all.length = n then
      match exs F.ex (bindP (d.params.args.map (·.arg)) all) (σ ++ [.inst c []]) d.body with
      | some (.next, _, σ') => some (gc σ (.obj σ.length) σ')
      | _ => none
    else none
  | none => none

def putF (x : Str) (v : V) : List (Str × V) → List (Str × V)
  | [] => [(x, v)]
  | (y, u) :: r => if y = x then (y, v) :: r else (y, u) :: putF x v r

/-- the methods of lists: what comes back, and the store -/
def listM (m : Str) (n : Nat) (l : List V) (vs : List V) (σ : Sto) : Option (V × Sto) :=
  if m = Str.ofString "append" then
    match vs with
    | [v] => if decide (l.length < most) then some (.none, σ.set n (.list (l ++ [v]))) else none
    | _ => none
  else if m = Str.ofString "extend" then
    match vs with
    | [.obj k] => (match σ[k]? with
      | some (.list r) => if decide (k ≠ n) && decide (l.length + r.length ≤ most) then some (.none, σ.set n (.list (l ++ r))) else none
      | _ => none)
    | _ => none
  else if m = Str.ofString "pop" then
    match vs with
    | [] => (match l.getLast? with
      | some v => if free v && decide (l.length ≤ most) then some (v, σ.set n (.list l.dropLast)) else none
      | none => none)
    | _ => none
  else none

def optI : Option V → Option (Option Int)
  | none => some none
  | some (.int i) => some (some i)
  | _ => none

def evo (f : Sto → Expr → Option (V × Sto)) (σ : Sto) : Option Expr → Option (Option V × Sto)
  | none => some (none, σ)
  | some e => match f σ e with
    | some (v, σ1) => some (some v, σ1)
    | none => none

def hide (sc : Scope) (L : Loc) : Loc := fun y => if sc.names.lookup y = some .local then none else L y

/-- one clause of a comprehension after another: a turn binds the target, asks the tests, and goes on within; n: where the list lies -/
noncomputable def clauses (F : Funs) (n : Nat) (elt : Expr) : List Comprehension → Loc → It → List V → Sto → Option Sto
  | [], _, _, _, _ => none
  | ⟨t, _, ifs, _⟩ :: gs, L, it, vs, σ => compL (fun σ => still σ it vs) (fun v σ => match bindT L σ t v with
      | some L1 => (match tests (fun σ e => F.tst L1 σ e) σ ifs with
        | some (false, σ2) => some σ2
        | some (true, σ2) => (match gs with
          | [] => (match F.ev L1 σ2 elt with
            | some (w, σ3) => (match σ3[n]? with
              | some (.list l) => if decide (l.length < most) then some (σ3.set n (.list (l ++ [w]))) else none
              | _ => none)
            | none => none)
          | g :: gs' => (match F.ev L1 σ2 g.iter with
            | some (w, σ3) => (match items σ3 w with
              | some ws => clauses F n elt (g :: gs') L1 (.one w) ws σ3
              | none => none)
            | none => none))
        | none => none)
      | none => none) vs σ

/-- what a for, or a comprehension's first clause, goes over -/
def overE (T : Tbl) (F : Funs) (L : Loc) (σ : Sto) (t e : Expr) : Option (It × List V × Sto) := match t, e with
  | .Tuple _ _ _, .Call (.Name x _) [a, b] [] _ => (match T.kind x with
    | some (.bi .zip) => (match F.ev L σ a with
      | some (v, σ1) => (match F.ev L σ1 b with
        | some (w, σ2) => (match v, w with
          | .obj m, .obj k => (match σ2[m]?, σ2[k]? with
            | some (.list l), some (.list r) => some (.two m k, zipT l r, σ2)
            | _, _ => none)
          | _, _ => none)
        | none => none)
      | none => none)
    | _ => (match F.ev L σ e with
      | some (v, σ1) => (items σ1 v).map fun l => (.one v, l, σ1)
      | none => none))
  | _, e => (match F.ev L σ e with
    | some (v, σ1) => (items σ1 v).map fun l => (.one v, l, σ1)
    | none => none)

/-- a call by a name -/
noncomputable def callN (T : Tbl) (F : Funs) (x : Str) (vs : List V) (σ : Sto) : Option (V × Sto) := match T.kind x with
  | some (.bi b) => (biC T b vs σ).map fun v => (v, σ)
  | some (.fn d) => callD F d vs σ
  | some (.cls c) => mkC T F c vs σ
  | _ => none

/-- a method's call: its object is looked at ahead of the arguments, and once more behind them -/
noncomputable def methC (T : Tbl) (F : Funs) (m : Str) (o : V) (σ1 : Sto) (args : Option (List V × Sto)) : Option (V × Sto) := match o with
  | .obj n => (match σ1[n]? with
    | some (.list _) => (match args with
      | some (vs, σ2) => (match σ2[n]? with
        | some (.list l) => listM m n l vs σ2
        | _ => none)
      | none => none)
    | some (.inst c fs) => (match fs.lookup m with
      | some _ => none
      | none => if m = Str.ofString "__init__" then none else (match T.meth c m with
        | some d => (match args with
          | some (vs, σ2) => callD F d (o :: vs) σ2
          | none => none)
        | none => none))
    | none => none)
  | _ => none

def subC (T : Tbl) (σ : Sto) (o i : V) : Option V := match o, i with
  | .lst a, .int k => if small k then (T.ro a).bind fun xs => getAt (xs.map .int) k else none
  | .tup l, .int k => if small k then getAt l k else none
  | .obj n, .int k => (match σ[n]? with
    | some (.list l) => if small k then getAt l k else none
    | _ => none)
  | _, _ => none

noncomputable def evS (T : Tbl) (F : Funs) (L : Loc) (σ : Sto) (e : Expr) : Option (V × Sto) := match e with
  | .Constant c _ _ => (match c with
    | .none => some (.none, σ)
    | .bool b => some (.bool b, σ)
    | .int i => some (.int i, σ)
    | .str x => some (.str x, σ)
    | _ => none)
  | .Name x _ => (match T.kind x with
    | some (.const v) => some (v, σ)
    | some _ => none
    | none => (L x).map fun v => (v, σ))
  | .BinOp l op r _ => (match F.ev L σ l with
    | some (a, σ1) => (match F.ev L σ1 r with
      | some (b, σ2) => binS op σ2 a b
      | none => none)
    | none => none)
  | .UnaryOp .USub x _ => (match F.ev L σ x with
    | some (.int a, σ1) => some (.int (-a), σ1)
    | _ => none)
  | .Compare l [op] [r] _ => (match F.ev L σ l with
    | some (a, σ1) => (match F.ev L σ1 r with
      | some (b, σ2) => (cmpS op σ2 a b).map fun c => (.bool c, σ2)
      | none => none)
    | none => none)
  | .BoolOp op [x, y] _ => (match F.ev L σ x with
    | some (.bool a, σ1) => (match op, a with
      | .And, false => some (.bool false, σ1)
      | .Or, true => some (.bool true, σ1)
      | _, _ => F.ev L σ1 y)
    | _ => none)
  | .IfExp t x y _ => (match F.tst L σ t with
    | some (b, σ1) => if b then F.ev L σ1 x else F.ev L σ1 y
    | none => none)
  | .Tuple es _ _ => (match evs (F.ev L) σ es with
    | some (vs, σ1) => if decide (vs.length ≤ most) then some (.tup vs, σ1) else none
    | none => none)
  | .List es _ => (match evs (F.ev L) σ es with
    | some (vs, σ1) => if decide (vs.length ≤ most) then some (.obj σ1.length, σ1 ++ [.list vs]) else none
    | none => none)
  | .Subscript o i _ => (match F.ev L σ o with
    | some (ov, σ1) => (match i with
      | .Slice lo hi st _ => (match evo (F.ev L) σ1 lo with
        | some (a, σ2) => (match evo (F.ev L) σ2 hi with
          | some (b, σ3) => (match evo (F.ev L) σ3 st with
            | some (c, σ4) => (match ov, optI a, optI b, optI c with
              | .obj n, some a, some b, some c => (match σ4[n]? with
                | some (.list l) => if decide (c ≠ some 0) && decide (l.length ≤ most) then some (.obj σ4.length, σ4 ++ [.list (sliceG l a b c)]) else none
                | _ => none)
              | _, _, _, _ => none)
            | none => none)
          | none => none)
        | none => none)
      | i => (match F.ev L σ1 i with
        | some (iv, σ2) => (subC T σ2 ov iv).map fun v => (v, σ2)
        | none => none))
    | none => none)
  | .Attribute (.Name y q) a _ => (match F.ev L σ (.Name y q) with
    | some (.obj n, σ1) => (match σ1[n]? with
      | some (.inst c fs) => if T.field c a then (fs.lookup a).map fun v => (v, σ1) else none
      | _ => none)
    | _ => none)
  | .Call f args [] _ => (match f with
    | .Name x _ => (match evs (F.ev L) σ args with
      | some (vs, σ1) => callN T F x vs σ1
      | none => none)
    | .Attribute (.Name y q) m _ => (match F.ev L σ (.Name y q) with
      | some (ov, σ1) => methC T F m ov σ1 (evs (F.ev L) σ1 args)
      | none => none)
    | _ => none)
  | .ListComp elt gens sc _ => (match gens with
    | [] => none
    | ⟨t, it, ifs, a⟩ :: gs => (match overE T F L σ t it with
      | some (w, vs, σ1) => (match clauses F σ1.length elt (⟨t, it, ifs, a⟩ :: gs) (hide sc L) w vs (σ1 ++ [.list []]) with
        | some σ2 => some (.obj σ1.length, σ2)
        | none => none)
      | none => none))
  | _ => none

/-- a name's new value -/
noncomputable def evA (T : Tbl) (F : Funs) (L : Loc) (σ : Sto) (e : Expr) : Option (V × Sto) := match e with
  | .ListComp elt gens sc pos => evS T F L σ (.ListComp elt gens sc pos)
  | e => F.ev L σ e

def allT (op : BoolOp) (f : Sto → Expr → Option (Bool × Sto)) : Sto → List Expr → Option (Bool × Sto)
  | σ, [] => some (op == .And, σ)
  | σ, e :: es => match f σ e with
    | some (b, σ1) => (match op, b with
      | .And, false => some (false, σ1)
      | .Or, true => some (true, σ1)
      | _, _ => allT op f σ1 es)
    | none => none

def tstS (F : Funs) (L : Loc) (σ : Sto) (e : Expr) : Option (Bool × Sto) := match e with
  | .UnaryOp .Not x _ => (match F.tst L σ x with
    | some (b, σ1) => some (!b, σ1)
    | none => none)
  | .BoolOp op vs _ => allT op (F.tst L) σ vs
  | .Compare l [op] [r] _ => (match F.ev L σ l with
    | some (a, σ1) => (match F.ev L σ1 r with
      | some (b, σ2) => (cmpS op σ2 a b).map fun c => (c, σ2)
      | none => none)
    | none => none)
  | .Name x q => (match F.ev L σ (.Name x q) with
    | some (.bool b, σ1) => some (b, σ1)
    | _ => none)
  | .Call f as ks q => (match F.ev L σ (.Call f as ks q) with
    | some (.bool b, σ1) => some (b, σ1)
    | _ => none)
  | _ => none

noncomputable def exS (T : Tbl) (F : Funs) (n : Nat) (L : Loc) (σ : Sto) (st : Stmt) : Option (Fl × Loc × Sto) := match st with
  | .Return (some e) _ => (match F.ev L σ e with
    | some (v, σ1) => some (.ret v, L, σ1)
    | none => none)
  | .Assign [t] e _ => (match t with
    | .Name x _ => (match evA T F L σ e with
      | some (v, σ1) => some (.next, upd L x v, σ1)
      | none => none)
    | .Tuple ts k q => (match F.ev L σ e with
      | some (v, σ1) => (match bindT L σ1 (.Tuple ts k q) v with
        | some L1 => some (.next, L1, σ1)
        | none => none)
      | none => none)
    | .Attribute (.Name y q) a _ => (match F.ev L σ e with
      | some (v, σ1) => (match F.ev L σ1 (.Name y q) with
        | some (.obj n, σ2) => (match σ2[n]? with
          | some (.inst c fs) => if T.field c a && decide (fs.length < 100) then some (.next, L, σ2.set n (.inst c (putF a v fs))) else none
          | _ => none)
        | _ => none)
      | none => none)
    | .Subscript o i _ => (match F.ev L σ e with
      | some (v, σ1) => (match F.ev L σ1 o with
        | some (.obj n, σ2) => (match F.ev L σ2 i with
          | some (.int k, σ3) => (match σ3[n]? with
            | some (.list l) => if decide (0 ≤ k) && decide (k < l.length) && small k then some (.next, L, σ3.set n (.list (l.set k.toNat v))) else none
            | _ => none)
          | _ => none)
        | _ => none)
      | none => none)
    | _ => none)
  | .AugAssign (.Name x _) .Add e _ => (match L x with
    | some (.int a) => (match F.ev L σ e with
      | some (.int b, σ2) => some (.next, upd L x (.int (a + b)), σ2)
      | _ => none)
    | _ => none)
  | .Expr e _ => (match e with
    | .Call f as ks q => (match F.ev L σ (.Call f as ks q) with
      | some (_, σ1) => some (.next, L, σ1)
      | none => none)
    | _ => none)
  | .If t b o _ => (match F.tst L σ t with
    | some (c, σ1) => if c then exs F.ex L σ1 b else exs F.ex L σ1 o
    | none => none)
  | .While t b [] _ => whileL (fun L σ => F.tst L σ t) (fun L σ => exs F.ex L σ b) n L σ
  | .For t it b [] _ => (match F.ev L σ it with
    | some (w, σ1) => (match items σ1 w with
      | some vs => forL (fun σ => still σ (.one w) vs) (fun v L σ => match bindT L σ t v with
          | some L1 => exs F.ex L1 σ b
          | none => none) vs L σ1
      | none => none)
    | none => none)
  | _ => none

noncomputable def lvl (T : Tbl) : Nat → Funs
  | 0 => ⟨fun _ _ _ => none, fun _ _ _ => none, fun _ _ _ => none⟩
  | n + 1 => ⟨evS T (lvl T n), tstS (lvl T n), exS T (lvl T n) n⟩

end Mine
end
section
open PySem PySem.W PyProof.Rows
set_option linter.unusedSectionVars false
namespace Mine

abbrev Rho := List (Addr × Addr)

/-- tuples that no value names -/
class Hid where
  H : Addr → Prop
def Ints : List Int → List Value → Prop
  | [], [] => True
  | x :: xs, v :: vs => (∃ t, v = .int x t) ∧ Ints xs vs
  | _, _ => False
@[reducible] def noHid : Hid := ⟨fun _ => False⟩
variable [Hid]

mutual
inductive VIn (h : Heap) (ρ : Rho) : V → Value → Prop
  | none : VIn h ρ .none .none
  | bool (b : Bool) : VIn h ρ (.bool b) (.bool b)
  | int (i : Int) (t : Tok) : VIn h ρ (.int i) (.int i t)
  | str (x : Str) (t : Tok) : VIn h ρ (.str x) (.str x t)
  | tup {a : Addr} {vs : List Value} {l : List V} : IsTup h a vs.toArray → VAll h ρ l vs → ¬ Hid.H a → VIn h ρ (.tup l) (.ref a)
  | obj {n : Nat} {p : Addr × Addr} : ρ[n]? = some p → VIn h ρ (.obj n) (.ref p.1)
  | rng {r : Addr} {a b : Int} {t u v : Tok} : IsRange h r a b 1 t u v → VIn h ρ (.rng a b) (.ref r)
  | lst (a : Nat) : VIn h ρ (.lst a) (.ref a)
inductive VAll (h : Heap) (ρ : Rho) : List V → List Value → Prop
  | nil : VAll h ρ [] []
  | cons {d : V} {v : Value} {l : List V} {vs : List Value} : VIn h ρ d v → VAll h ρ l vs → VAll h ρ (d :: l) (v :: vs)
end

def FsIn (h : Heap) (ρ : Rho) : List (Str × V) → List DictEntry → Prop
  | [], [] => True
  | (x, d) :: fs, e :: es => (∃ t, e.key = .str x t) ∧ VIn h ρ d e.val ∧ FsIn h ρ fs es
  | _, _ => False

inductive ObIn (CA : Str → Option Addr) (h : Heap) (ρ : Rho) : Ob → Addr × Addr → Prop
  | list {l : List V} {a : Addr} {vs : List Value} : h.PlainList a vs.toArray → VAll h ρ l vs → ObIn CA h ρ (.list l) (a, a)
  | inst {c : Str} {fs : List (Str × V)} {x dx C : Addr} {es : List DictEntry} {n : Nat} : CA c = some C → h.get? x = some (instObj C dx) → h.get? dx = some (dictOf es n) → FsIn h ρ fs es → ObIn CA h ρ (.inst c fs) (x, dx)

structure Inv (CA : Str → Option Addr) (B : Heap) (h : Heap) (ρ : Rho) (σ : Sto) : Prop where
  keep : ∀ b o, B.get? b = some o → h.get? b = some o
  len : ρ.length = σ.length
  obs : ∀ (i : Nat) (ob : Ob) (p : Addr × Addr), σ[i]? = some ob → ρ[i]? = some p → ObIn CA h ρ ob p
  nd : ∀ (i j : Nat) (p q : Addr × Addr), ρ[i]? = some p → ρ[j]? = some q → p.2 = q.2 → i = j
  fr : ∀ p ∈ ρ, B.get? p.2 = none
  hid : ∀ a, Hid.H a → B.get? a = none ∧ ∃ o, h.get? a = some o ∧ o.cls = .type "tuple" ∧ ∃ its n, o.data = .seq its n

/-- the heap goes on: what stood stands, but for the mutables and what X names -/
structure Go (X : Addr → Prop) (h : Heap) (ρ : Rho) (h' : Heap) (ρ' : Rho) : Prop where
  ext : ∀ b o, h.get? b = some o → (∀ p ∈ ρ, b ≠ p.2) → ¬ X b → h'.get? b = some o
  live : ∀ b o, h.get? b = some o → ∃ o', h'.get? b = some o'
  pre : ∃ τ, ρ' = ρ ++ τ ∧ ∀ p ∈ τ, h.get? p.2 = none

def No : Addr → Prop := fun _ => False
/-- what X names is a dict or a cell -/
def Soft (X : Addr → Prop) (h : Heap) : Prop := ∀ b o, X b → h.get? b = some o → (∃ es n, o.data = .dict es n) ∨ ∃ v, o.data = .cell v

section
variable {CA : Str → Option Addr} {B h h' h'' : Heap} {ρ ρ' ρ'' : Rho} {σ σ' : Sto} {X : Addr → Prop}

theorem Soft.no : Soft No h := fun _ _ x => x.elim
theorem Go.refl : Go X h ρ h ρ := ⟨fun _ _ e _ _ => e, fun _ o e => ⟨o, e⟩, [], (List.append_nil _).symm, fun _ hp => nomatch hp⟩
theorem Go.weaken (g : Go No h ρ h' ρ') : Go X h ρ h' ρ' := ⟨fun b o e hb _ => g.ext b o e hb id, g.live, g.pre⟩

/-- the object at a mutable's place -/
theorem ObIn.at {ob : Ob} {p : Addr × Addr} (x : ObIn CA h ρ ob p) : ∃ o, h.get? p.2 = some o ∧ ((o.cls = .type "list" ∧ ∃ its n, o.data = .seq its n) ∨ (o.cls = .type "dict" ∧ ∃ es n, o.data = .dict es n)) := by
  cases x with
  | list pl _ => obtain ⟨n, e⟩ := pl; exact ⟨_, e, .inl ⟨rfl, _, _, rfl⟩⟩
  | inst _ _ e _ => exact ⟨_, e, .inr ⟨rfl, _, _, rfl⟩⟩

theorem Inv.at (I : Inv CA B h ρ σ) {p : Addr × Addr} (hp : p ∈ ρ) : ∃ o, h.get? p.2 = some o ∧ ((o.cls = .type "list" ∧ ∃ its n, o.data = .seq its n) ∨ (o.cls = .type "dict" ∧ ∃ es n, o.data = .dict es n)) := by
  obtain ⟨i, hi, rfl⟩ := List.mem_iff_getElem.mp hp
  have hs : i < σ.length := I.len ▸ hi
  exact (I.obs i σ[i] ρ[i] (List.getElem?_eq_getElem hs) (List.getElem?_eq_getElem hi)).at

/-- what is neither a list nor a dict is no mutable -/
theorem Inv.off (I : Inv CA B h ρ σ) {b : Addr} {o : Obj} (e : h.get? b = some o) (h1 : ¬ (o.cls = .type "list" ∨ o.cls = .type "dict")) : ∀ p ∈ ρ, b ≠ p.2 := by
  intro p hp he
  obtain ⟨o', e', q⟩ := I.at hp
  rw [← he, e] at e'
  cases e'
  rcases q with ⟨q, _⟩ | ⟨q, _⟩
  · exact h1 (.inl q)
  · exact h1 (.inr q)
theorem Inv.offD (I : Inv CA B h ρ σ) {b : Addr} {o : Obj} (e : h.get? b = some o) (h1 : ∀ its n, o.data ≠ .seq its n) (h2 : ∀ es n, o.data ≠ .dict es n) : ∀ p ∈ ρ, b ≠ p.2 := by
  intro p hp he
  obtain ⟨o', e', q⟩ := I.at hp
  rw [← he, e] at e'
  cases e'
  rcases q with ⟨_, _, _, q⟩ | ⟨_, _, _, q⟩
  · exact h1 _ _ q
  · exact h2 _ _ q

theorem Go.trans (x : Go X h ρ h' ρ') (y : Go X h' ρ' h'' ρ'') : Go X h ρ h'' ρ'' := by
  obtain ⟨x1, xl, τ, rfl, x2⟩ := x
  obtain ⟨y1, yl, τ', rfl, y2⟩ := y
  refine ⟨fun b o e hb hX => y1 b o (x1 b o e hb hX) (fun p hp => ?_) hX, fun b o e => ?_, τ ++ τ', List.append_assoc .., fun p hp => ?_⟩
  · rcases List.mem_append.mp hp with hp | hp
    · exact hb p hp
    · intro q; have := x2 p hp; rw [← q, e] at this; cases this
  · obtain ⟨o', e'⟩ := xl b o e; exact yl b o' e'
  · rcases List.mem_append.mp hp with hp | hp
    · exact x2 p hp
    · cases q : h.get? p.2 with
      | none => rfl
      | some o => obtain ⟨o', e'⟩ := xl _ _ q; rw [y2 p hp] at e'; cases e'

/-- an object that is neither list, dict nor cell stands -/
theorem Go.stands (g : Go X h ρ h' ρ') (S : Soft X h) (I : Inv CA B h ρ σ) {b : Addr} {o : Obj} (e : h.get? b = some o) (h1 : ¬ (o.cls = .type "list" ∨ o.cls = .type "dict"))
    (h2 : ∀ es n, o.data ≠ .dict es n) (h3 : ∀ v, o.data ≠ .cell v) : h'.get? b = some o :=
  g.ext b o e (I.off e h1) fun hX => (S b o hX e).elim (fun ⟨_, _, q⟩ => h2 _ _ q) fun ⟨_, q⟩ => h3 _ q

theorem Go.isTup (g : Go X h ρ h' ρ') (S : Soft X h) (I : Inv CA B h ρ σ) {a : Addr} {vs : Array Value} (x : IsTup h a vs) : IsTup h' a vs := by
  obtain ⟨o, e, hc, n, hd⟩ := x
  exact ⟨o, g.stands S I e (by rw [hc]; simp) (by rw [hd]; simp) (by rw [hd]; simp), hc, n, hd⟩
theorem Go.isRange (g : Go X h ρ h' ρ') (S : Soft X h) (I : Inv CA B h ρ σ) {r : Addr} {a b c : Int} {t u v : Tok} (x : IsRange h r a b c t u v) : IsRange h' r a b c t u v :=
  g.stands S I x (by simp) (by simp) (by simp)
theorem Go.isCell (g : Go No h ρ h' ρ') (I : Inv CA B h ρ σ) {c : Addr} {v : Option Value} (x : h.IsCell c v) : h'.IsCell c v := by
  obtain ⟨o, e, hd⟩ := x
  exact ⟨o, g.ext c o e (I.offD e (by rw [hd]; simp) (by rw [hd]; simp)) id, hd⟩
theorem Go.get (g : Go X h ρ h' ρ') {n : Nat} {p : Addr × Addr} (e : ρ[n]? = some p) : ρ'[n]? = some p := by
  obtain ⟨_, _, τ, rfl, _⟩ := g
  rw [List.getElem?_append_left (List.getElem?_eq_some_iff.mp e).1]; exact e

mutual
theorem VIn.mono (S : Soft X h) (I : Inv CA B h ρ σ) (g : Go X h ρ h' ρ') : ∀ {d : V} {v : Value}, VIn h ρ d v → VIn h' ρ' d v
  | _, _, .none => .none
  | _, _, .bool b => .bool b
  | _, _, .int i t => .int i t
  | _, _, .str x t => .str x t
  | _, _, .tup ht r hh => .tup (g.isTup S I ht) (VAll.mono S I g r) hh
  | _, _, .obj e => .obj (g.get e)
  | _, _, .rng r => .rng (g.isRange S I r)
  | _, _, .lst a => .lst a
theorem VAll.mono (S : Soft X h) (I : Inv CA B h ρ σ) (g : Go X h ρ h' ρ') : ∀ {l : List V} {vs : List Value}, VAll h ρ l vs → VAll h' ρ' l vs
  | _, _, .nil => .nil
  | _, _, .cons a r => .cons (VIn.mono S I g a) (VAll.mono S I g r)
end

mutual
theorem VIn.hide (I : Inv CA B h ρ σ) : ∀ {d : V} {v : Value}, @VIn noHid B [] d v → VIn h ρ d v
  | _, _, @VIn.none noHid _ _ => .none
  | _, _, @VIn.bool noHid _ _ b => .bool b
  | _, _, @VIn.int noHid _ _ i t => .int i t
  | _, _, @VIn.str noHid _ _ x t => .str x t
  | _, _, @VIn.tup noHid _ _ _ _ _ ht r _ => .tup (ht.elim fun o q => ⟨o, I.keep _ _ q.1, q.2⟩) (VAll.hide I r) fun ha => by obtain ⟨o, e, _⟩ := ht; rw [(I.hid _ ha).1] at e; cases e
  | _, _, @VIn.obj noHid _ _ _ _ e => by cases e
  | _, _, @VIn.rng noHid _ _ _ _ _ _ _ _ r => .rng (I.keep _ _ r)
  | _, _, @VIn.lst noHid _ _ a => .lst a
theorem VAll.hide (I : Inv CA B h ρ σ) : ∀ {l : List V} {vs : List Value}, @VAll noHid B [] l vs → VAll h ρ l vs
  | _, _, @VAll.nil noHid _ _ => .nil
  | _, _, @VAll.cons noHid _ _ _ _ _ _ a r => .cons (VIn.hide I a) (VAll.hide I r)
end

theorem Ints.all : ∀ {xs : List Int} {us : List Value}, Ints xs us → VAll h ρ (xs.map .int) us
  | [], [], _ => .nil
  | _ :: _, _ :: _, ⟨⟨_, e⟩, r⟩ => by rw [e]; exact .cons (.int _ _) (Ints.all r)

theorem VAll.length {l : List V} {vs : List Value} (x : VAll h ρ l vs) : vs.length = l.length := by
  induction l generalizing vs with
  | nil => cases x; rfl
  | cons d l ih => cases x with | cons _ r => rw [List.length_cons, List.length_cons, ih r]
theorem VAll.append {l r : List V} {vs ws : List Value} (x : VAll h ρ l vs) (y : VAll h ρ r ws) : VAll h ρ (l ++ r) (vs ++ ws) := by
  induction l generalizing vs with
  | nil => cases x; exact y
  | cons d l ih => cases x with | cons a q => exact .cons a (ih q)
theorem VAll.get {l : List V} {vs : List Value} (x : VAll h ρ l vs) {k : Nat} {d : V} (hk : l[k]? = some d) : ∃ v, vs[k]? = some v ∧ VIn h ρ d v := by
  induction l generalizing vs k with
  | nil => simp at hk
  | cons e l ih =>
    cases x with
    | cons a r =>
      cases k with
      | zero => simp at hk; subst hk; exact ⟨_, rfl, a⟩
      | succ k => exact ih r (by simpa using hk)
theorem VAll.get' {l : List V} {vs : List Value} (x : VAll h ρ l vs) {k : Nat} {v : Value} (hk : vs[k]? = some v) : ∃ d, l[k]? = some d ∧ VIn h ρ d v := by
  have hl := x.length
  have hlt : k < l.length := by rw [← hl]; exact (List.getElem?_eq_some_iff.mp hk).1
  obtain ⟨w, hw, hV⟩ := x.get (List.getElem?_eq_getElem hlt)
  rw [hk] at hw; cases hw
  exact ⟨_, List.getElem?_eq_getElem hlt, hV⟩
theorem VAll.set {l : List V} {vs : List Value} (x : VAll h ρ l vs) (k : Nat) {d : V} {v : Value} (y : VIn h ρ d v) : VAll h ρ (l.set k d) (vs.set k v) := by
  induction l generalizing vs k with
  | nil => cases x; exact .nil
  | cons e l ih =>
    cases x with
    | cons a r => cases k with
      | zero => exact .cons y r
      | succ k => exact .cons a (ih r k)
theorem VAll.dropLast {l : List V} {vs : List Value} (x : VAll h ρ l vs) : VAll h ρ l.dropLast vs.dropLast := by
  induction l generalizing vs with
  | nil => cases x; exact .nil
  | cons e l ih =>
    cases x with
    | cons a r =>
      cases r with
      | nil => exact .nil
      | cons b r => exact .cons a (ih (.cons b r))
theorem VAll.picks {l : List V} {vs : List Value} (x : VAll h ρ l vs) (js : List Nat) : VAll h ρ (js.filterMap (l[·]?)) (js.filterMap (vs[·]?)) := by
  induction js with
  | nil => exact .nil
  | cons j js ih =>
    rw [List.filterMap_cons, List.filterMap_cons]
    cases q : l[j]? with
    | none =>
      have : vs[j]? = none := by
        rw [List.getElem?_eq_none_iff] at q ⊢; rw [x.length]; exact q
      rw [this]; exact ih
    | some d =>
      obtain ⟨v, hv, hV⟩ := x.get q
      rw [hv]; exact .cons hV ih

theorem FsIn.mono (S : Soft X h) (I : Inv CA B h ρ σ) (g : Go X h ρ h' ρ') : ∀ {fs : List (Str × V)} {es : List DictEntry}, FsIn h ρ fs es → FsIn h' ρ' fs es
  | [], [], _ => True.intro
  | (_, _) :: _, _ :: _, ⟨a, b, c⟩ => ⟨a, b.mono S I g, FsIn.mono S I g c⟩

end
end Mine
end
section
open PySem PySem.W PyProof.Rows PySem.Calls
set_option linter.unusedSectionVars false
namespace Mine
variable [Hid]

def isVar : Option NameKind → Bool
  | some .local => true
  | some .cell => true
  | some .free => true
  | _ => false

structure AOk (A : Around) (n : Nat) : Prop where
  hd : A.handled = none
  dp : A.depth + 3 * n + 3 < recursionLimit
  un : A.units + 10 * n + 80 < cLine
theorem AOk.down {A : Around} {n : Nat} (a : AOk A (n + 1)) : AOk A n := ⟨a.hd, by have := a.dp; omega, by have := a.un; omega⟩

structure EnvOk (env : Env) : Prop where
  kind : env.scope.kind = .function
  gl : env.globals = mainGlobals
  bi : env.builtins = builtinsNs

def Rd (h : Heap) (ρ : Rho) (env : Env) (x : Str) (d : V) : Prop :=
  ∃ v, VIn h ρ d v ∧ ((env.kindOf x = some .local ∧ ∃ m, h.Ns env.locals m ∧ m x = some v) ∨
    ((env.kindOf x = some .cell ∨ env.kindOf x = some .free) ∧ ∃ c, env.cells.lookup x = some c ∧ h.IsCell c (some v)))

structure LocIn (B h : Heap) (ρ : Rho) (env : Env) (L : Loc) : Prop where
  ns : ∃ m, h.Ns env.locals m
  off : ∀ p ∈ ρ, env.locals ≠ p.2
  rd : ∀ x d, L x = some d → isVar (env.kindOf x) = true → Rd h ρ env x d
  cell : ∀ x, env.kindOf x = some .cell → ∃ c, env.cells.lookup x = some c
  cells : ∀ x c, env.cells.lookup x = some c → ∃ v, h.IsCell c v
  apart : ∀ (x y : Str) (c : Addr), env.cells.lookup x = some c → env.cells.lookup y = some c → x = y
  nb : ∀ b, (b = env.locals ∨ ∃ x, env.cells.lookup x = some b) → B.get? b = none

section
variable {CA : Str → Option Addr} {B h h' : Heap} {ρ ρ' : Rho} {σ σ' : Sto} {env : Env} {L : Loc}

theorem LocIn.mono (l : LocIn B h ρ env L) (I : Inv CA B h ρ σ) (g : Go No h ρ h' ρ') : LocIn B h' ρ' env L := by
  have hns : ∀ m, h.Ns env.locals m → h'.Ns env.locals m := fun m ⟨o, es, ep, e, r⟩ => ⟨o, es, ep, g.ext _ _ e (fun p hp => l.off p hp) id, r⟩
  refine ⟨l.ns.elim fun m hm => ⟨m, hns m hm⟩, fun p hp => ?_, fun x d hx hv => ?_, l.cell, fun x c hx => ?_, l.apart, l.nb⟩
  · obtain ⟨τ, rfl, ht⟩ := g.pre
    rcases List.mem_append.mp hp with hp | hp
    · exact l.off p hp
    · obtain ⟨m, o, _, _, e, _⟩ := l.ns
      intro q; have := ht p hp; rw [← q, e] at this; cases this
  · obtain ⟨v, hV, q⟩ := l.rd x d hx hv
    refine ⟨v, hV.mono Soft.no I g, ?_⟩
    rcases q with ⟨k, m, hm, e⟩ | ⟨k, c, hc, e⟩
    · exact .inl ⟨k, m, hns m hm, e⟩
    · exact .inr ⟨k, c, hc, g.isCell I e⟩
  · obtain ⟨v, e⟩ := l.cells x c hx
    exact ⟨v, g.isCell I e⟩

end

/-- an expression's tree comes to d and the store σ' -/
def EvOk (CA : Str → Option Addr) (B : Heap) (M : Model) (A : Around) (t : Sem Value) (s : Shared) (ρ : Rho) (d : V) (σ' : Sto) : Prop :=
  ∀ (Q E : Value → Shared → Prop), (∀ v h' tk ρ', Inv CA B h' ρ' σ' → Go No s.heap ρ h' ρ' → VIn h' ρ' d v → Q v { s with heap := h', toks := tk }) → wpAny M A t Q E s
def TsOk (CA : Str → Option Addr) (B : Heap) (M : Model) (A : Around) (t : Sem Bool) (s : Shared) (ρ : Rho) (b : Bool) (σ' : Sto) : Prop :=
  ∀ (Q : Bool → Shared → Prop) (E : Value → Shared → Prop), (∀ h' tk ρ', Inv CA B h' ρ' σ' → Go No s.heap ρ h' ρ' → Q b { s with heap := h', toks := tk }) → wpAny M A t Q E s

def XOf (env : Env) : Addr → Prop := fun b => b = env.locals ∨ ∃ x, env.cells.lookup x = some b
def FlIn (h : Heap) (ρ : Rho) : Fl → Flow → Prop
  | .next, .next => True
  | .ret d, .ret v => VIn h ρ d v
  | _, _ => False
def ExOk (CA : Str → Option Addr) (B : Heap) (M : Model) (A : Around) (env : Env) (t : Sem Flow) (s : Shared) (ρ : Rho) (f : Fl) (L' : Loc) (σ' : Sto) : Prop :=
  ∀ (Q : Flow → Shared → Prop) (E : Value → Shared → Prop), (∀ fl h' tk ρ', Inv CA B h' ρ' σ' → Go (XOf env) s.heap ρ h' ρ' → LocIn B h' ρ' env L' → FlIn h' ρ' f fl → Q fl { s with heap := h', toks := tk }) → wpAny M A t Q E s

def isComp : Expr → Bool
  | .ListComp .. => true
  | .SetComp .. => true
  | .DictComp .. => true
  | _ => false
def isSet : Expr → Bool
  | .Set .. => true
  | _ => false
def isSlice : Expr → Bool
  | .Slice .. => true
  | _ => false
def isStar : Expr → Bool
  | .Starred .. => true
  | _ => false

def okName (T : Tbl) (sc : Scope) (x : Str) : Bool :=
  x != Str.ofString "__debug__" && (match T.kind x with
    | some _ => sc.names.lookup x == some .globalImplicit
    | none => isVar (sc.names.lookup x) && x != Str.ofString "__classdict__")

def relabelS (sc sc0 : Scope) : Scope := { sc with names := sc.names.map fun (n, k) => if (k == .free && sc0.kind == .function && sc0.names.lookup n == some .cell) then (n, .cell) else (n, k) }

def okTarget (sc : Scope) : Expr → Bool
  | .Name x _ => sc.names.lookup x == some .local || sc.names.lookup x == some .cell
  | .Tuple es _ _ => es.all fun | .Name x _ => sc.names.lookup x == some .local || sc.names.lookup x == some .cell | _ => false
  | _ => false
def tNames : Expr → List Str
  | .Name x _ => [x]
  | .Tuple es _ _ => es.filterMap fun | .Name x _ => some x | _ => none
  | _ => []

/-- what the evaluator does not look at itself -/
def okE (T : Tbl) : Nat → Scope → Expr → Bool
  | 0, _, _ => false
  | m + 1, sc, e => match e with
    | .Constant .. => true
    | .Name x _ => okName T sc x
    | .BinOp l _ r _ => okE T m sc l && okE T m sc r
    | .UnaryOp _ x _ => okE T m sc x
    | .Compare l _ rs _ => okE T m sc l && rs.all fun r => okE T m sc r && !isSet r
    | .BoolOp _ es _ => es.all (okE T m sc)
    | .IfExp t x y _ => okE T m sc t && okE T m sc x && okE T m sc y
    | .Tuple es _ _ => es.all fun e => okE T m sc e && !isStar e
    | .List es _ => es.all fun e => okE T m sc e && !isStar e
    | .Subscript o i _ => okE T m sc o && okE T m sc i
    | .Slice a b c _ => [a, b, c].all fun | some e => okE T m sc e | none => true
    | .Attribute (.Name y _) _ _ => okName T sc y
    | .Call f as _ pos => as.all (fun e => okE T m sc e && !isStar e) && decide (as.length < 20) && (match f with
      | .Name x _ => x != Str.ofString "__debug__" && sc.names.lookup x == some .globalImplicit
      | .Attribute (.Name y _) _ apos => okName T sc y && apos.endLine == pos.line
      | _ => false)
    | .ListComp elt gens sc' _ => sc'.kind == .function && sc'.names.all (fun p => p.2 != .cell && (p.2 != .local || sc'.names.lookup p.1 == some .local) && (p.2 != .free || (sc'.names.lookup p.1 == some .free && sc.names.lookup p.1 == some .cell))) && decide ((gens.flatMap fun g => tNames g.target).Nodup) &&
        okE T m (relabelS sc' sc) elt && gens.all (fun g => g.is_async == 0 && okTarget (relabelS sc' sc) g.target && (tNames g.target).all (fun x => sc'.names.lookup x == some .local) && !isSet g.iter && g.ifs.all (okE T m (relabelS sc' sc))) &&
        (match gens with | g :: gs => okE T m sc g.iter && gs.all (fun g => okE T m (relabelS sc' sc) g.iter) | [] => false)
    | _ => false

def okS (T : Tbl) : Nat → Scope → Stmt → Bool
  | 0, _, _ => false
  | m + 1, sc, st => match st with
    | .Return (some e) _ => okE T m sc e
    | .Assign [t] e pos => okE T m sc e && (match t with
      | .Name x _ => okTarget sc t
      | .Tuple .. => okTarget sc t && !isComp e && (match e with | .Tuple vs _ _ => !vs.all (constantsAlone 8) | _ => true)
      | .Attribute (.Name y _) _ _ => okName T sc y && !isComp e
      | .Subscript o i _ => okE T m sc o && okE T m sc i && !isComp e && !isSlice i
      | _ => false)
    | .AugAssign (.Name x q) _ e _ => okTarget sc (.Name x q) && x != Str.ofString "__classdict__" && okE T m sc e
    | .Expr e _ => okE T m sc e && !isComp e
    | .If t b o _ => okE T m sc t && b.all (okS T m sc) && o.all (okS T m sc)
    | .While t b _ _ => okE T m sc t && b.all (okS T m sc)
    | .For t it b _ _ => okE T m sc it && okTarget sc t && b.all (okS T m sc) && !isSet it
    | _ => true

structure GoodF (T : Tbl) (CA : Str → Option Addr) (B : Heap) (M : Model) (n : Nat) (F : Funs) : Prop where
  ev : ∀ A env L σ e d σ' m, AOk A n → EnvOk env → okE T m env.scope e = true → F.ev L σ e = some (d, σ') → ∀ s ρ, Inv CA B s.heap ρ σ → LocIn B s.heap ρ env L → EvOk CA B M A (eval e env) s ρ d σ'
  tst : ∀ A env L σ e b σ' m, AOk A n → EnvOk env → okE T m env.scope e = true → F.tst L σ e = some (b, σ') → ∀ s ρ, Inv CA B s.heap ρ σ → LocIn B s.heap ρ env L → TsOk CA B M A (isTrue e env (eval e env)) s ρ b σ'
  ex : ∀ A env L σ st f L' σ' m, AOk A n → EnvOk env → okS T m env.scope st = true → F.ex L σ st = some (f, L', σ') → ∀ s ρ, Inv CA B s.heap ρ σ → LocIn B s.heap ρ env L → ExOk CA B M A env (exec st env) s ρ f L' σ'

section
variable {CA : Str → Option Addr} {B : Heap} {prog : Program} {w : World} {A : Around} {s : Shared} {ρ : Rho} {σ σ' σ1 : Sto} {env : Env} {L : Loc} {d d1 : V}

/-- a value made out of hand -/
theorem EvOk.now {t : Sem Value} {v : Value} {tk : Nat} (h : ∀ (Q E : Value → Shared → Prop), Q v { s with toks := tk } → wpAny (model prog w) A t Q E s) (I : Inv CA B s.heap ρ σ) (hv : VIn s.heap ρ d v) : EvOk CA B (model prog w) A t s ρ d σ :=
  fun Q E k => h Q E (k v s.heap tk ρ I Go.refl hv)

/-- one tree behind another -/
theorem EvOk.seq {t u : Sem Value} {s : Shared} (h : ∀ (Q E : Value → Shared → Prop), wpAny (model prog w) A t (fun v s' => ∀ h' tk ρ', s' = { s with heap := h', toks := tk } → Inv CA B h' ρ' σ1 → Go No s.heap ρ h' ρ' → VIn h' ρ' d1 v → wpAny (model prog w) A u Q E s') E s) : True := trivial
end
end Mine
end
section
open PySem PySem.W PyProof.Rows PySem.Calls
set_option linter.unusedSectionVars false
namespace Mine
variable [Hid]
section
variable {CA : Str → Option Addr} {B h h' : Heap} {ρ ρ' : Rho} {σ σ' : Sto} {X : Addr → Prop}

theorem Go.grow (k : ∀ b o, h.get? b = some o → h'.get? b = some o) : Go X h ρ h' ρ := ⟨fun b o e _ _ => k b o e, fun b o e => ⟨o, k b o e⟩, [], (List.append_nil _).symm, fun _ hp => nomatch hp⟩

theorem PlainList.keep {a : Addr} {its : Array Value} (x : h.PlainList a its) (k : ∀ o, h.get? a = some o → h'.get? a = some o) : h'.PlainList a its := let ⟨n, e⟩ := x; ⟨n, k _ e⟩

/-- all of a store's objects stand on while nothing turns -/
theorem ObIn.grow (I : Inv CA B h ρ σ) (g : Go No h ρ h' ρ') {ob : Ob} {p : Addr × Addr} (hd : ∀ o, h.get? p.2 = some o → h'.get? p.2 = some o) (x : ObIn CA h ρ ob p) : ObIn CA h' ρ' ob p := by
  cases x with
  | list pl r => exact .list (PlainList.keep pl hd) (r.mono Soft.no I g)
  | inst hc hx hdx hf =>
    refine .inst hc (g.ext _ _ hx (I.off hx (by simp)) id) (hd _ hdx) (hf.mono Soft.no I g)

theorem Inv.grow (I : Inv CA B h ρ σ) (k : ∀ b o, h.get? b = some o → h'.get? b = some o) : Inv CA B h' ρ σ where
  keep := fun b o e => k b o (I.keep b o e)
  len := I.len
  obs := fun i ob p e f => (I.obs i ob p e f).grow I (Go.grow k) fun o q => k _ _ q
  nd := I.nd
  fr := I.fr
  hid := fun a ha => ⟨(I.hid a ha).1, (I.hid a ha).2.elim fun o e => ⟨o, k _ _ e.1, e.2⟩⟩

theorem push_keep (o : Obj) : ∀ b o', h.get? b = some o' → (h.push o).get? b = some o' := fun _ _ e => Heap.get?_push_of_some _ e

/-- a fresh mutable -/
theorem Inv.add (I : Inv CA B h ρ σ) (k : ∀ b o, h.get? b = some o → h'.get? b = some o) {p : Addr × Addr} {ob : Ob} (hn : h.get? p.2 = none) (hB : B.get? p.2 = none) (x : ObIn CA h' (ρ ++ [p]) ob p) : Inv CA B h' (ρ ++ [p]) (σ ++ [ob]) ∧ Go No h ρ h' (ρ ++ [p]) := by
  have g : Go No h ρ h' (ρ ++ [p]) := ⟨fun b o e _ _ => k b o e, fun b o e => ⟨o, k b o e⟩, [p], rfl, fun q hq => by rw [List.mem_singleton.mp hq]; exact hn⟩
  refine ⟨⟨fun b o e => k b o (I.keep b o e), by rw [List.length_append, List.length_append, I.len]; rfl, ?_, ?_, ?_, fun a ha => ⟨(I.hid a ha).1, (I.hid a ha).2.elim fun o e => ⟨o, k _ _ e.1, e.2⟩⟩⟩, g⟩
  · intro i ob' q e f
    by_cases hi : i < σ.length
    · rw [List.getElem?_append_left hi] at e
      rw [List.getElem?_append_left (I.len ▸ hi)] at f
      exact (I.obs i ob' q e f).grow I g fun o h => k _ _ h
    · have hi' : i = σ.length := by
        have := (List.getElem?_eq_some_iff.mp e).1
        rw [List.length_append] at this
        simp at this; omega
      subst hi'
      rw [List.getElem?_append_right (Nat.le_refl _)] at e
      rw [← I.len, List.getElem?_append_right (Nat.le_refl _)] at f
      simp at e f
      subst e; subst f
      exact x
  · intro i j a b e f hab
    have live : ∀ r ∈ ρ, r.2 ≠ p.2 := fun r hr q => by obtain ⟨o, e, _⟩ := I.at hr; rw [q, hn] at e; cases e
    have hlen := I.len
    have hi := (List.getElem?_eq_some_iff.mp e).1
    have hj := (List.getElem?_eq_some_iff.mp f).1
    rw [List.length_append] at hi hj
    simp at hi hj
    by_cases h1 : i < ρ.length <;> by_cases h2 : j < ρ.length
    · rw [List.getElem?_append_left h1] at e
      rw [List.getElem?_append_left h2] at f
      exact I.nd i j a b e f hab
    · rw [List.getElem?_append_left h1] at e
      have hj' : j = ρ.length := by omega
      subst hj'
      rw [List.getElem?_append_right (Nat.le_refl _)] at f
      simp at f
      subst f
      exact absurd hab (live _ (List.mem_of_getElem? e))
    · rw [List.getElem?_append_left h2] at f
      have hi' : i = ρ.length := by omega
      subst hi'
      rw [List.getElem?_append_right (Nat.le_refl _)] at e
      simp at e
      subst e
      exact absurd hab.symm (live _ (List.mem_of_getElem? f))
    · omega
  · intro q hq
    rcases List.mem_append.mp hq with hq | hq
    · exact I.fr q hq
    · rw [List.mem_singleton.mp hq]; exact hB

theorem Inv.notHid (I : Inv CA B h ρ σ) {a : Addr} (e : h.get? a = none) : ¬ Hid.H a := fun ha => by
  obtain ⟨o, q, _⟩ := (I.hid a ha).2
  rw [e] at q; cases q

theorem Inv.none_of_size (I : Inv CA B h ρ σ) : h.get? h.objs.size = none ∧ B.get? h.objs.size = none := by
  have h1 : h.get? h.objs.size = none := by
    cases q : h.get? h.objs.size with
    | none => rfl
    | some o => exact absurd (Heap.lt_size q) (Nat.lt_irrefl _)
  refine ⟨h1, ?_⟩
  cases q : B.get? h.objs.size with
  | none => rfl
  | some o => rw [I.keep _ _ q] at h1; cases h1

/-- a fresh list -/
theorem Inv.newList (I : Inv CA B h ρ σ) {l : List V} {vs : List Value} (x : VAll h ρ l vs) :
    Inv CA B (h.push { cls := .type "list", data := .seq vs.toArray }) (ρ ++ [(h.objs.size, h.objs.size)]) (σ ++ [.list l]) ∧ Go No h ρ (h.push { cls := .type "list", data := .seq vs.toArray }) (ρ ++ [(h.objs.size, h.objs.size)]) ∧
    VIn (h.push { cls := .type "list", data := .seq vs.toArray }) (ρ ++ [(h.objs.size, h.objs.size)]) (.obj σ.length) (.ref h.objs.size) := by
  obtain ⟨n1, n2⟩ := I.none_of_size
  have k := push_keep (h := h) { cls := .type "list", data := .seq vs.toArray }
  have g : Go No h ρ (h.push { cls := .type "list", data := .seq vs.toArray }) (ρ ++ [(h.objs.size, h.objs.size)]) := ⟨fun b o e _ _ => k b o e, fun b o e => ⟨o, k b o e⟩, _, rfl, fun q hq => by rw [List.mem_singleton.mp hq]; exact n1⟩
  obtain ⟨a, b⟩ := I.add k (p := (h.objs.size, h.objs.size)) (ob := .list l) n1 n2 (.list ⟨0, Heap.get?_push_size _ rfl⟩ (x.mono Soft.no I g))
  refine ⟨a, b, VIn.obj (p := (h.objs.size, h.objs.size)) ?_⟩
  rw [← I.len, List.getElem?_append_right (Nat.le_refl _)]; simp

/-- a mutable turned -/
theorem Inv.turn (I : Inv CA B h ρ σ) {n : Nat} {p : Addr × Addr} {ob : Ob} (hp : ρ[n]? = some p) (hs : Heap.SameBut p.2 h h') (hl : ∃ o, h'.get? p.2 = some o) (x : ∀ g : Go No h ρ h' ρ, ObIn CA h' ρ ob p) : Inv CA B h' ρ (σ.set n ob) ∧ Go No h ρ h' ρ := by
  have hm := List.mem_of_getElem? hp
  have g : Go No h ρ h' ρ := ⟨fun b o e hb _ => (hs.2 b (hb p hm)).trans e, fun b o e => by
    by_cases hb : b = p.2
    · subst hb; exact hl
    · exact ⟨o, (hs.2 b hb).trans e⟩, [], (List.append_nil _).symm, fun _ hp => nomatch hp⟩
  refine ⟨⟨fun b o e => ?_, by rw [List.length_set]; exact I.len, ?_, I.nd, I.fr, fun a ha => ⟨(I.hid a ha).1, (I.hid a ha).2.elim fun o e => ⟨o, g.ext a o e.1 (I.off e.1 (by rw [e.2.1]; simp)) id, e.2⟩⟩⟩, g⟩
  · refine (hs.2 b fun q => ?_).trans (I.keep b o e)
    have := I.fr p hm; rw [← q, e] at this; cases this
  · intro i ob' q e f
    by_cases hi : i = n
    · subst hi
      rw [hp] at f; cases f
      have hlt := (List.getElem?_eq_some_iff.mp hp).1
      rw [List.getElem?_set_self (I.len ▸ hlt)] at e
      cases e
      exact x g
    · rw [List.getElem?_set_ne (Ne.symm hi)] at e
      have hne : q.2 ≠ p.2 := fun z => hi (I.nd i n q p f hp z)
      exact (I.obs i ob' q e f).grow I g fun o h => (hs.2 _ hne).trans h
end
end Mine
end
section
open PySem PySem.W PyProof.Rows PySem.Calls
set_option linter.unusedSectionVars false
namespace Mine
variable [Hid]
section
variable {CA : Str → Option Addr} {B : Heap} {prog : Program} {w : World} {A : Around} {s : Shared} {ρ : Rho} {σ σ' : Sto} {env : Env} {L : Loc} {d d1 d2 : V} {v1 v2 : Value}

theorem EvOk.val {t : Sem Value} {v : Value} {tk : Nat} (I : Inv CA B s.heap ρ σ) (hv : VIn s.heap ρ d v) (h : ∀ (Q E : Value → Shared → Prop), Q v { s with toks := tk } → wpAny (model prog w) A t Q E s) : EvOk CA B (model prog w) A t s ρ d σ :=
  fun Q E k => h Q E (k v s.heap tk ρ I Go.refl hv)
theorem EvOk.val0 {t : Sem Value} {v : Value} (I : Inv CA B s.heap ρ σ) (hv : VIn s.heap ρ d v) (h : ∀ (Q E : Value → Shared → Prop), Q v s → wpAny (model prog w) A t Q E s) : EvOk CA B (model prog w) A t s ρ d σ :=
  fun Q E k => h Q E (k v s.heap s.toks ρ I Go.refl hv)
/-- a new object that is no mutable -/
theorem EvOk.made {t : Sem Value} {v : Value} {h' : Heap} {tk : Nat} (I : Inv CA B s.heap ρ σ) (k : ∀ b o, s.heap.get? b = some o → h'.get? b = some o) (hv : VIn h' ρ d v) (h : ∀ (Q E : Value → Shared → Prop), Q v { s with heap := h', toks := tk } → wpAny (model prog w) A t Q E s) : EvOk CA B (model prog w) A t s ρ d σ :=
  fun Q E q => h Q E (q v h' tk ρ (I.grow k) (Go.grow k) hv)

theorem small_bits {a : Int} (h : small a = true) : Builtin.Int.intBits a ≤ 64 := by
  unfold small at h
  simp only [Bool.and_eq_true, decide_eq_true_eq] at h
  exact intBits_le_64 (by omega) (by omega)

theorem binI_ok {op : Operator} {a b : Int} {t u : Tok} (he : binI op a b = some d) (I : Inv CA B s.heap ρ σ) : EvOk CA B (model prog w) A (binaryOp op (.int a t) (.int b u)) s ρ d σ := by
  cases op <;> simp only [binI] at he
  case Add => cases he; exact EvOk.val I (.int _ _) fun Q E h => PySem.P.add_int h
  case Sub => cases he; exact EvOk.val I (.int _ _) fun Q E h => PySem.P.sub_int h
  case Mult =>
    split at he
    · rename_i hc
      cases he
      refine EvOk.val I (.int _ _) fun Q E h => PySem.P.mul_int h ?_
      rcases Bool.or_eq_true_iff.mp hc with hc | hc
      · exact IntMulOk.of_left (small_bits hc)
      · exact IntMulOk.of_right (small_bits hc)
    · cases he
  case FloorDiv =>
    split at he
    · rename_i hc
      cases he
      simp only [Bool.and_eq_true, decide_eq_true_eq] at hc
      exact EvOk.val I (.int _ _) fun Q E h => PyProof.Rows.floordiv_int hc.1 h (Or.inl (PyProof.noPylong_small hc.2))
    · cases he
  case Mod =>
    split at he
    · rename_i hc
      cases he
      simp only [decide_eq_true_eq] at hc
      exact EvOk.val I (.int _ _) fun Q E h => PyProof.Rows.mod_int' hc h
    · cases he
  case Pow =>
    split at he
    · rename_i hc
      cases he
      simp only [Bool.and_eq_true, decide_eq_true_eq] at hc
      refine EvOk.val I (.int _ _) fun Q E h => PyProof.Rows.pow_int hc.1.1 ?_ h
      have h1 := small_bits hc.2
      have h2 := hc.1.2
      have h3 := hc.1.1
      have : (Builtin.Int.intBits a : Int) * b ≤ 64 * 100 := by
        refine Int.le_trans (Int.mul_le_mul_of_nonneg_right (show (Builtin.Int.intBits a : Int) ≤ 64 by omega) h3) (Int.mul_le_mul_of_nonneg_left h2 (by omega))
      omega
    · cases he
  all_goals cases he

theorem Inv.list (I : Inv CA B s.heap ρ σ) {n : Nat} {l : List V} {v : Value} (hs : σ[n]? = some (.list l)) (hv : VIn s.heap ρ (.obj n) v) : ∃ a vs k, v = .ref a ∧ ρ[n]? = some (a, a) ∧ s.heap.get? a = some (listOf vs.toArray k) ∧ VAll s.heap ρ l vs := by
  cases hv with
  | obj hp =>
    rename_i p
    have := I.obs n _ p hs hp
    generalize hob : Ob.list l = ob at this
    cases this with
    | list pl r => cases hob; obtain ⟨k, e⟩ := pl; exact ⟨_, _, k, rfl, hp, e, r⟩
    | inst => cases hob

theorem sizeLine_val : sizeLine = 16777216 := rfl

theorem binS_ok {op : Operator} (he : binS op σ d1 d2 = some (d, σ')) (I : Inv CA B s.heap ρ σ) (x1 : VIn s.heap ρ d1 v1) (x2 : VIn s.heap ρ d2 v2) : EvOk CA B (model prog w) A (binaryOp op v1 v2) s ρ d σ' := by
  unfold binS at he
  split at he
  · rename_i a b
    cases x1; cases x2
    obtain ⟨v, hv, e⟩ := Option.map_eq_some_iff.mp he
    cases e
    exact binI_ok hv I
  · rename_i m n
    split at he
    · rename_i l r e1 e2
      split at he
      · rename_i hsz
        cases he
        obtain ⟨a, vs, k, rfl, _, hl, r1⟩ := I.list e1 x1
        obtain ⟨b, ws, j, rfl, _, hr, r2⟩ := I.list e2 x2
        intro Q E q
        have hsz' := of_decide_eq_true hsz
        unfold most at hsz'
        refine PySem.P.add_list hl hr ?_ (by rw [List.size_toArray, List.size_toArray, r1.length, r2.length, sizeLine_val]; omega)
        have e : vs.toArray ++ ws.toArray = (vs ++ ws).toArray := by simp
        rw [e]
        obtain ⟨i1, i2, i3⟩ := I.newList (r1.append r2)
        exact q _ _ s.toks _ i1 i2 i3
      · cases he
    · cases he
  · cases he

mutual
theorem VIn.reads (h : Heap) : ∀ {d : V} {v : Value}, VIn h ρ d v → free d = true → ∃ as, Reads h v (py d) as
  | _, _, .none, _ => ⟨_, .none⟩
  | _, _, .bool b, _ => ⟨_, .bool b⟩
  | _, _, .int i t, _ => ⟨_, .int i t⟩
  | _, _, .str x t, _ => ⟨_, .str x t⟩
  | _, _, .tup ⟨o, e, hc, n, hd⟩ r _, hf => by
    obtain ⟨as, q⟩ := VAll.reads h r (by simpa [free] using hf)
    exact ⟨as, by rw [py]; exact reads_tuple_at e hc hd (by simpa using q)⟩
  | _, _, .obj _, hf => by simp [free] at hf
  | _, _, .rng _, hf => by simp [free] at hf
  | _, _, .lst _, hf => by simp [free] at hf
theorem VAll.reads (h : Heap) : ∀ {l : List V} {vs : List Value}, VAll h ρ l vs → freeL l = true → ∃ as, ReadsAll h vs (pyL l) as
  | _, _, .nil, _ => ⟨_, .nil⟩
  | _, _, .cons a r, hf => by
    simp only [freeL, Bool.and_eq_true] at hf
    obtain ⟨as, q⟩ := VIn.reads h a hf.1
    obtain ⟨bs, p⟩ := VAll.reads h r hf.2
    exact ⟨_, by rw [pyL]; exact .cons q p⟩
end

theorem data_reads {x : PyData} (he : Mine.data σ d = some x) (I : Inv CA B s.heap ρ σ) (x1 : VIn s.heap ρ d v1) : ∃ as, Reads s.heap v1 x as := by
  unfold Mine.data at he
  split at he
  · rename_i n
    split at he
    · rename_i l e1
      split at he
      · rename_i hf
        cases he
        obtain ⟨a, vs, k, rfl, _, hl, r1⟩ := I.list e1 x1
        obtain ⟨as, q⟩ := VAll.reads _ r1 hf
        exact ⟨_, reads_list_at hl rfl rfl (by simpa using q)⟩
      · cases he
    · cases he
  · split at he
    · rename_i hf
      cases he
      exact VIn.reads _ x1 hf
    · cases he

theorem cmpS_ok {op : CmpOp} {b : Bool} {n : Nat} (a : AOk A n) (he : cmpS op σ d1 d2 = some b) (I : Inv CA B s.heap ρ σ) (x1 : VIn s.heap ρ d1 v1) (x2 : VIn s.heap ρ d2 v2) : EvOk CA B (model prog w) A (compareOp op v1 v2) s ρ (.bool b) σ := by
  have hu : A.units + 64 < cLine := by have := a.un; omega
  unfold cmpS at he
  split at he
  · obtain ⟨x, hx, he⟩ := Option.bind_eq_some_iff.mp he
    obtain ⟨y, hy, he⟩ := Option.bind_eq_some_iff.mp he
    split at he
    · rename_i hk
      cases he
      rw [Bool.and_eq_true] at hk
      obtain ⟨as, rx⟩ := data_reads hx I x1
      obtain ⟨bs, ry⟩ := data_reads hy I x2
      exact EvOk.val0 I (.bool _) fun Q E h => eq_dataH rx ry hk.1 hk.2 hu h
    · cases he
  · obtain ⟨x, hx, he⟩ := Option.bind_eq_some_iff.mp he
    obtain ⟨y, hy, he⟩ := Option.bind_eq_some_iff.mp he
    split at he
    · rename_i hk
      cases he
      rw [Bool.and_eq_true] at hk
      obtain ⟨as, rx⟩ := data_reads hx I x1
      obtain ⟨bs, ry⟩ := data_reads hy I x2
      exact EvOk.val0 I (.bool _) fun Q E h => ne_dataH rx ry hk.1 hk.2 hu h
    · cases he
  · split at he
    · cases he; cases x1; cases x2; exact EvOk.val0 I (.bool _) fun Q E h => PySem.P.lt_int h
    · cases he
  · split at he
    · cases he; cases x1; cases x2; exact EvOk.val0 I (.bool _) fun Q E h => PySem.P.le_int h
    · cases he
  · split at he
    · cases he; cases x1; cases x2; exact EvOk.val0 I (.bool _) fun Q E h => PySem.P.gt_int h
    · cases he
  · split at he
    · cases he; cases x1; cases x2; exact EvOk.val0 I (.bool _) fun Q E h => PySem.P.ge_int h
    · cases he
  · split at he
    · cases he; cases x1; cases x2; exact EvOk.val0 I (.bool _) fun Q E h => wpAny_isNot_plain (by rfl) h
    · cases he
      cases x2
      cases x1
      rename_i a vs ht r
      exact EvOk.val0 I (.bool _) fun Q E h => wpAny_isNot_plain (by rfl) (by exact h)
    · cases he
  · cases he

end
end Mine
end
section
open PySem PySem.W PyProof.Rows PySem.Calls
set_option linter.unusedSectionVars false
namespace Mine
variable [Hid]

def biV : Bi → Value
  | .len => .builtin "len"
  | .range => .type "range"
  | .abs => .builtin "abs"
  | .max => .builtin "max"
  | .min => .builtin "min"
  | .int => .type "int"
  | .tuple => .type "tuple"
  | .sum => .builtin "sum"
  | .zip => .type "zip"

def okFn (T : Tbl) (d : DefRec) : Bool :=
  d.scope.kind == .function && !d.scope.isCoroutine && !d.scope.isGenerator &&
  d.params.posonlyargs.isEmpty && d.params.vararg.isNone && d.params.kwonlyargs.isEmpty && d.params.kwarg.isNone &&
  decide ((d.params.args.map (·.arg)).Nodup) && (d.params.args.all fun a => d.scope.names.lookup a.arg == some .local || d.scope.names.lookup a.arg == some .cell) &&
  decide ((d.scope.names.map (·.1)).Nodup) && d.body.all (okS T 60 d.scope)

structure FnAt (T : Tbl) (B : Heap) (a : Addr) (d : DefRec) : Prop where
  at_ : ∃ o fd, B.get? a = some o ∧ o.data = .func fd ∧ fd.params = d.params ∧ fd.body = .stmts d.body ∧ fd.scope = d.scope ∧ fd.closure = [] ∧ fd.globals = mainGlobals ∧ fd.builtins = builtinsNs ∧ B.CodeRec fd.code fd.qualname ∧ fd.defaults = .none
  ok : okFn T d = true

structure Gnd (T : Tbl) (CA : Str → Option Addr) (K : Frag) (mg mb : Str → Option Value) (B : Heap) : Prop where
  g : B.Ns mainGlobals mg
  b : B.Ns builtinsNs mb
  nolimit : B.NoLimit
  X : K.In B
  fn : ∀ x d, T.kind x = some (.fn d) → ∃ a, mg x = some (.ref a) ∧ FnAt T B a d
  bi : ∀ x b, T.kind x = some (.bi b) → mg x = none ∧ mb x = some (biV b)
  const : ∀ x v, T.kind x = some (.const v) → ∃ i t, v = .int i ∧ mg x = some (.int i t)
  cls : ∀ x c, T.kind x = some (.cls c) → ∃ C, CA c = some C ∧ mg x = some (.ref C)
  ro : ∀ a xs, T.ro a = some xs → ∃ us, B.IsList a us ∧ Ints xs us.toList
  get : ∀ c C a, CA c = some C → T.field c a = true → findIn K (.ref C) a = some none ∧ plainGet K C a = true ∧ hasDictIn K C = true ∧ takerIn K C a = some none
  cset : ∀ c C, CA c = some C → findIn K (.ref C) "__setattr__" = some (some (.builtin "object.__setattr__")) ∧ plainOver K C = true ∧ hasDictIn K C = true ∧ makesIn K C = true ∧ keepIn K (.ref C) = true
  meth : ∀ c C m d, T.meth c m = some d → CA c = some C → m ≠ Str.ofString "__init__" → ∃ f, findIn K (.ref C) m = some (some (.ref f)) ∧ isFn K (.ref f) = true ∧ plainGet K C m = true ∧ FnAt T B f d
  init : ∀ c C d, T.meth c (Str.ofString "__init__") = some d → CA c = some C → ∃ f o fd, findIn K (.ref C) "__init__" = some (some (.ref f)) ∧ isFn K (.ref f) = true ∧
    B.get? f = some o ∧ o.data = .func fd ∧ fd.body = .stmts d.body ∧ fd.scope = d.scope ∧ fd.closure = [] ∧ fd.globals = mainGlobals ∧ fd.builtins = builtinsNs ∧ B.CodeRec fd.code fd.qualname ∧ okFn T d = true ∧ (∀ x ∈ d.scope.names, x.2 ≠ .cell) ∧
    freeL (T.dfl c) = true ∧
    ∀ (ws : List Value) (s : Shared), (∀ b o, B.get? b = some o → s.heap.get? b = some o) → ws.length + ((T.dfl c).drop ((T.dfl c).length - (d.params.args.length - ws.length))).length = d.params.args.length →
      ∃ us, @VAll noHid B [] ((T.dfl c).drop ((T.dfl c).length - (d.params.args.length - ws.length))) us ∧ BindsTo s fd ⟨ws, []⟩ ((d.params.args.map (·.arg)).zip (ws ++ us))

section
variable {T : Tbl} {CA : Str → Option Addr} {K : Frag} {mg mb : Str → Option Value} {B : Heap} {prog : Program} {w : World} {A : Around} {n : Nat} {F : Funs} {s : Shared} {ρ : Rho} {σ σ' : Sto} {env : Env} {L : Loc} {d : V}

theorem EvOk.then {t : Sem Value} {σ1 : Sto} {d1 : V} {Q E : Value → Shared → Prop} (h : EvOk CA B (model prog w) A t s ρ d1 σ1)
    (k : ∀ v h' tk ρ', Inv CA B h' ρ' σ1 → Go No s.heap ρ h' ρ' → VIn h' ρ' d1 v → Q v { s with heap := h', toks := tk }) : wpAny (model prog w) A t Q E s := h Q E k

theorem Gnd.ns {h : Heap} (g : Gnd T CA K mg mb B) (I : Inv CA B h ρ σ) : h.Ns mainGlobals mg := g.g.keeps I.keep
theorem Gnd.nb {h : Heap} (g : Gnd T CA K mg mb B) (I : Inv CA B h ρ σ) : h.Ns builtinsNs mb := g.b.keeps I.keep

theorem loadVar {x : Str} (eo : EnvOk env) (l : LocIn B s.heap ρ env L) (hx : L x = some d) (hv : isVar (env.kindOf x) = true) (hc : (x == ("__classdict__" : Str)) = false) {Q E : Value → Shared → Prop}
    (k : ∀ v, VIn s.heap ρ d v → Q v s) : wpAny (model prog w) A (loadName env x) Q E s := by
  obtain ⟨v, hV, q⟩ := l.rd x d hx hv
  rcases q with ⟨hk, m, hm, e⟩ | ⟨hk | hk, c, hcl, e⟩
  · exact wpAny_loadName_local eo.kind hk hm e (k v hV)
  · exact wpAny_loadName_cell eo.kind hk hcl e (k v hV)
  · exact wpAny_loadName_free eo.kind hk hcl e (k v hV) hc

theorem name_ok {x : Str} {q : Pos} (g : Gnd T CA K mg mb B) (eo : EnvOk env) (ok : okName T env.scope x = true) (I : Inv CA B s.heap ρ σ) (l : LocIn B s.heap ρ env L)
    (he : (match T.kind x with | some (.const v) => some (v, σ) | some _ => none | none => (L x).map fun v => (v, σ)) = some (d, σ')) : EvOk CA B (model prog w) A (eval (.Name x q) env) s ρ d σ' := by
  unfold okName at ok
  rw [Bool.and_eq_true] at ok
  have hd : (x == ("__debug__" : Str)) = false := by simpa using ok.1
  cases hk : T.kind x with
  | some k =>
    rw [hk] at he ok
    cases k with
    | const v =>
      cases he
      obtain ⟨i, t, rfl, hm⟩ := g.const x _ hk
      have hg : env.kindOf x = some .globalImplicit := beq_iff_eq.mp ok.2
      exact EvOk.val0 I (.int i t) fun Q E h => Name_function_global eo.kind hg (loadGlobal_global (by rw [eo.gl]; exact g.ns I) hm h) hd
    | _ => cases he
  | none =>
    rw [hk] at he ok
    obtain ⟨v, hv, e⟩ := Option.map_eq_some_iff.mp he
    cases e
    simp only [Bool.and_eq_true] at ok
    intro Q E k
    refine wpAny_Name (loadVar eo l hv ok.2.1 (by simpa using ok.2.2) fun u hu => ?_) hd
    exact k u s.heap s.toks ρ I Go.refl hu

theorem starEach_cons {e : Expr} {es : List Expr} (h : isStar e = false) : starEach (e :: es) env = (false, eval e env) :: starEach es env := by
  cases e <;> first | rfl | cases h
theorem backTo_cons {pos : Pos} {t : Sem Value} {r : List (Bool × Sem Value)} : backTo pos ((false, t) :: r) = (false, t) :: backTo pos r := rfl
theorem backTo_plain {pos : Pos} : ∀ {es : List Expr}, es.all (fun e => !isStar e) = true → (backTo pos (starEach es env)).any (·.1) = false
  | [], _ => rfl
  | e :: es, h => by
    simp only [List.all_cons, Bool.and_eq_true] at h
    rw [starEach_cons (by simpa using h.1), backTo_cons, List.any_cons, backTo_plain h.2]; rfl

theorem evs_ok {pos : Pos} {m : Nat} (G : GoodF T CA B (model prog w) n F) (a : AOk A n) (eo : EnvOk env) : ∀ {es : List Expr} {vs : List V} {σ σ' : Sto} {s : Shared} {ρ : Rho}, es.all (fun e => okE T m env.scope e && !isStar e) = true → evs (F.ev L) σ es = some (vs, σ') → Inv CA B s.heap ρ σ → LocIn B s.heap ρ env L →
    ∀ (Q : List Value → Shared → Prop) (E : Value → Shared → Prop), (∀ ws h' tk ρ', Inv CA B h' ρ' σ' → Go No s.heap ρ h' ρ' → VAll h' ρ' vs ws → Q ws { s with heap := h', toks := tk }) → wpAny (model prog w) A (spliced (backTo pos (starEach es env))) Q E s
  | [], vs, σ, σ', s, ρ, _, he, I, _, Q, E, k => by
    cases he
    exact spliced_nil (k [] s.heap s.toks ρ I Go.refl .nil)
  | e :: es, vs, σ, σ', s, ρ, ok, he, I, l, Q, E, k => by
    simp only [List.all_cons, Bool.and_eq_true] at ok
    unfold evs at he
    split at he
    · rename_i v σ1 h1
      split at he
      · rename_i vs' σ2 h2
        cases he
        rw [starEach_cons (by simpa using ok.1.2), backTo_cons]
        refine spliced_cons (G.ev A env L σ e v σ1 m a eo ok.1.1 h1 s ρ I l _ _ fun u h' tk ρ' I1 g1 hu => ?_)
        refine evs_ok G a eo ok.2 h2 I1 (l.mono I g1) _ _ fun ws h2 tk2 ρ2 I2 g2 hws => ?_
        exact k _ h2 tk2 ρ2 I2 (g1.trans g2) (.cons (hu.mono Soft.no I1 g2) hws)
      · cases he
    · cases he

theorem most_lt {n : Nat} (h : n ≤ most) : n ≤ sizeLine := by rw [sizeLine_val]; unfold most at h; omega

theorem tuple_new {vs : List V} {ws : List Value} (I : Inv CA B s.heap ρ σ) (x : VAll s.heap ρ vs ws) (hl : vs.length ≤ most) : EvOk CA B (model prog w) A (newTuple ws) s ρ (.tup vs) σ := by
  have k := push_keep (h := s.heap) { cls := .type "tuple", data := .seq ws.toArray }
  refine EvOk.made (tk := s.toks) I k (.tup ⟨_, Heap.get?_push_size _ rfl, rfl, 0, rfl⟩ (x.mono Soft.no I (Go.grow k)) (I.notHid I.none_of_size.1)) fun Q E h => wpAny_newTuple h ?_
  rw [x.length]; exact most_lt hl

theorem list_new {vs : List V} {ws : List Value} (I : Inv CA B s.heap ρ σ) (x : VAll s.heap ρ vs ws) (hl : vs.length ≤ most) : EvOk CA B (model prog w) A (newList ws) s ρ (.obj σ.length) (σ ++ [.list vs]) := by
  intro Q E k
  obtain ⟨i1, i2, i3⟩ := I.newList x
  exact wpAny_newList (k _ _ s.toks _ i1 i2 i3) (by rw [x.length]; exact most_lt hl)

theorem EvOk.mono {t : Sem Value} {h1 : Heap} {tk1 : Nat} {ρ1 : Rho} {σ1 : Sto} (g1 : Go No s.heap ρ h1 ρ1) (x : EvOk CA B (model prog w) A t { s with heap := h1, toks := tk1 } ρ1 d σ1) {Q E : Value → Shared → Prop}
    (k : ∀ v h' tk ρ', Inv CA B h' ρ' σ1 → Go No s.heap ρ h' ρ' → VIn h' ρ' d v → Q v { s with heap := h', toks := tk }) : wpAny (model prog w) A t Q E { s with heap := h1, toks := tk1 } :=
  x Q E fun v h' tk ρ' I g hv => k v h' tk ρ' I (g1.trans g) hv

theorem items_len {l : List V} {v : V} (h : items σ v = some l) : l.length ≤ most := by
  unfold items at h
  split at h
  · split at h
    · rename_i hc; cases h; exact of_decide_eq_true hc
    · cases h
  · split at h
    · split at h
      · rename_i hc; cases h; exact of_decide_eq_true hc
      · cases h
    · cases h
  · split at h
    · rename_i hc
      cases h
      simp only [Bool.and_eq_true, decide_eq_true_eq] at hc
      rw [List.length_map, List.length_range]
      have := hc.2; unfold most at this ⊢; omega
    · cases h
  · cases h

theorem place_index {k : Int} {n j : Nat} (h : place k n = some j) : seqIndex? k n = some j := by
  unfold place at h
  unfold seqIndex?
  dsimp only
  split at h
  · rename_i h0
    split at h
    · rename_i h1
      cases h
      rw [show (if k < 0 then k + (n : Int) else k) = k from if_neg (by omega), if_pos (by simp only [Bool.and_eq_true, decide_eq_true_eq]; omega)]
    · cases h
  · rename_i h0
    split at h
    · rename_i h1
      cases h
      rw [show (if k < 0 then k + (n : Int) else k) = k + n from if_pos (by omega), if_pos (by simp only [Bool.and_eq_true, decide_eq_true_eq]; omega)]
    · cases h

theorem sub_list {value slice : Expr} {l : List V} {ad : Addr} {us : List Value} {k : Int} {u : Tok} {j : Nat} (hL : s.heap.IsList ad us.toArray) (r : VAll s.heap ρ l us) (hk' : -(2 ^ 60) < k ∧ k < 2 ^ 60) (hj : place k l.length = some j) (he : l[j]? = some d) (I : Inv CA B s.heap ρ σ)
    (hsub : ∀ o i, subscripted slice false o i = operate [o, i] (getItem o i)) : EvOk CA B (model prog w) A (subscriptTail value slice (.ref ad) (.int k u)) s ρ d σ := by
  obtain ⟨v, hv, hV⟩ := r.get he
  have hlen := r.length
  have hlt := (List.getElem?_eq_some_iff.mp he).1
  unfold place at hj
  split at hj
  · rename_i h0
    split at hj
    · cases hj
      exact EvOk.val0 I hV fun Q E h => tail_any hL.typeIs slot_list_getitem.lookup (wpAny_getItem_list hL h0 (by omega) (by simpa using hv) h) (hsub _ _)
    · cases hj
  · rename_i h0
    split at hj
    · rename_i h1
      cases hj
      refine EvOk.val0 I hV fun Q E h => tail_any hL.typeIs slot_list_getitem.lookup (wpAny_getItem_list_neg hL (by omega) (by rw [List.size_toArray, hlen]; exact h1) (by omega) ?_ h) (hsub _ _)
      rw [List.size_toArray, hlen]; simpa using hv
    · cases hj

theorem subC_ok {value slice : Expr} {o i : V} {vo vi : Value} (hro : ∀ a xs, T.ro a = some xs → ∃ us, B.IsList a us ∧ Ints xs us.toList) (he : subC T σ o i = some d) (I : Inv CA B s.heap ρ σ) (x1 : VIn s.heap ρ o vo) (x2 : VIn s.heap ρ i vi) (hs : isSlice slice = false) :
    EvOk CA B (model prog w) A (subscriptTail value slice vo vi) s ρ d σ := by
  have hsub : ∀ o i, subscripted slice false o i = operate [o, i] (getItem o i) := by
    intro o i
    cases slice <;> first | rfl | cases hs
  unfold subC at he
  split at he
  · rename_i a k
    split at he
    · rename_i hk
      obtain ⟨xs, hxs, he⟩ := Option.bind_eq_some_iff.mp he
      obtain ⟨j, hj, he⟩ := Option.bind_eq_some_iff.mp he
      obtain ⟨us, hb, hi⟩ := hro a xs hxs
      cases x1; cases x2
      have hk' : -(2 ^ 60) < k ∧ k < 2 ^ 60 := by simpa [small] using hk
      exact sub_list (us := us.toList) (by rw [Array.toArray_toList]; exact hb.at fun o e => I.keep _ _ e) hi.all hk' hj he I hsub
    · cases he
  · rename_i l k
    split at he
    · rename_i hk
      obtain ⟨j, hj, he⟩ := Option.bind_eq_some_iff.mp he
      cases x1; cases x2
      rename_i a vs ht hh r u
      obtain ⟨v, hv, hV⟩ := r.get he
      have hk' : -(2 ^ 60) < k ∧ k < 2 ^ 60 := by simpa [small] using hk
      refine EvOk.val0 I hV fun Q E h => tail_any ht.typeIs slot_tuple_getitem.lookup (getItem_tuple (j := j) ht (by omega) (by omega) ?_ (by simpa using hv) h) (hsub _ _)
      rw [List.size_toArray, r.length]; exact place_index hj
    · cases he
  · rename_i m k
    split at he
    · rename_i l e1
      split at he
      · rename_i hk
        obtain ⟨j, hj, he⟩ := Option.bind_eq_some_iff.mp he
        obtain ⟨a, vs, c, rfl, _, hl, r⟩ := I.list e1 x1
        cases x2
        rename_i u
        obtain ⟨v, hv, hV⟩ := r.get he
        have hL : s.heap.IsList a vs.toArray := PySem.IsL.isList (n := c) hl
        have hk' : -(2 ^ 60) < k ∧ k < 2 ^ 60 := by simpa [small] using hk
        have hlen := r.length
        have hlt := (List.getElem?_eq_some_iff.mp he).1
        unfold place at hj
        split at hj
        · rename_i h0
          split at hj
          · cases hj
            exact EvOk.val0 I hV fun Q E h => tail_any hL.typeIs slot_list_getitem.lookup (wpAny_getItem_list hL h0 (by omega) (by simpa using hv) h) (hsub _ _)
          · cases hj
        · rename_i h0
          split at hj
          · rename_i h1
            cases hj
            refine EvOk.val0 I hV fun Q E h => tail_any hL.typeIs slot_list_getitem.lookup (wpAny_getItem_list_neg hL (by omega) (by rw [List.size_toArray, hlen]; exact h1) (by omega) ?_ h) (hsub _ _)
            rw [List.size_toArray, hlen]; simpa using hv
          · cases hj
      · cases he
    · cases he
  · cases he

end
end Mine
end
section
open PySem PySem.W PyProof.Rows PySem.Calls
set_option linter.unusedSectionVars false
namespace Mine
variable [Hid]
section
variable {T : Tbl} {CA : Str → Option Addr} {K : Frag} {mg mb : Str → Option Value} {B : Heap} {prog : Program} {w : World} {A : Around} {n : Nat} {F : Funs} {s : Shared} {ρ : Rho} {σ σ' : Sto} {env : Env} {L : Loc} {d : V}

theorem VIn.handed {h : Heap} {v : Value} (x : VIn h ρ d v) : handedIn v = true := by cases x <;> rfl

theorem Inv.inst (I : Inv CA B s.heap ρ σ) {n : Nat} {c : Str} {fs : List (Str × V)} {v : Value} (hs : σ[n]? = some (.inst c fs)) (hv : VIn s.heap ρ (.obj n) v) :
    ∃ x dx C es k, v = .ref x ∧ ρ[n]? = some (x, dx) ∧ CA c = some C ∧ s.heap.get? x = some (instObj C dx) ∧ s.heap.get? dx = some (dictOf es k) ∧ FsIn s.heap ρ fs es := by
  cases hv with
  | obj hp =>
    rename_i p
    have := I.obs n _ p hs hp
    generalize hob : Ob.inst c fs = ob at this
    cases this with
    | list => cases hob
    | inst hc hx hd hf => cases hob; exact ⟨_, _, _, _, _, rfl, hp, hc, hx, hd, hf⟩

theorem FsIn.look {h : Heap} {a : Str} : ∀ {fs : List (Str × V)} {es : List DictEntry}, FsIn h ρ fs es → ∀ {d : V}, fs.lookup a = some d → ∃ v, getL a es = some (some v) ∧ VIn h ρ d v
  | [], [], _, d, e => by cases e
  | (x, d') :: fs, e :: es, ⟨⟨t, hk⟩, hV, r⟩, d, hl => by
    unfold getL
    rw [List.find?_cons]
    have hx : e.key.isStr a = (x == a) := by rw [hk]; rfl
    rw [List.lookup_cons] at hl
    by_cases q : x = a
    · subst q
      rw [hx]
      simp only [beq_self_eq_true] at hl ⊢
      cases hl
      exact ⟨_, rfl, hV⟩
    · have q1 : (x == a) = false := by simpa using q
      have q2 : (a == x) = false := by simpa using (Ne.symm q)
      rw [hx, q1]
      rw [q2] at hl
      obtain ⟨v, hv, hV'⟩ := FsIn.look r hl
      refine ⟨v, ?_, hV'⟩
      unfold getL at hv
      dsimp only
      cases hf : es.find? (fun x => x.key.isStr a) with
      | some e' => rw [hf] at hv; exact hv
      | none =>
        rw [hf] at hv
        dsimp only at hv
        split at hv <;> cases hv

theorem attr_ok {a : Str} {fs : List (Str × V)} {k : Nat} {c : Str} {v : Value} (g : Gnd T CA K mg mb B) (I : Inv CA B s.heap ρ σ) (hs : σ[k]? = some (.inst c fs)) (hv : VIn s.heap ρ (.obj k) v) (hf : T.field c a = true) (hl : fs.lookup a = some d) :
    EvOk CA B (model prog w) A (getAttr v a true) s ρ d σ := by
  obtain ⟨x, dx, C, es, j, rfl, _, hc, hx, hd, hfs⟩ := I.inst hs hv
  obtain ⟨u, hu, hV⟩ := hfs.look hl
  obtain ⟨h1, h2, h3, _⟩ := g.get c C a hc hf
  have It : InstAt s.heap x (instObj C dx) C (some (dictOf es j)) := ⟨hx, rfl, rfl, hd⟩
  exact EvOk.val I hV fun Q E h => get_value (g.X.keeps I.keep) It (plainGet_of h2).1 (findObj_own h3 h1 rfl hu) hV.handed h

theorem part_ok {m : Nat} {e : Option Expr} {ov : Option V} {k : Option Int} (G : GoodF T CA B (model prog w) n F) (a : AOk A n) (eo : EnvOk env) (ok : (match e with | some e => okE T m env.scope e | none => true) = true)
    (he : evo (F.ev L) σ e = some (ov, σ')) (ho : optI ov = some k) (I : Inv CA B s.heap ρ σ) (l : LocIn B s.heap ρ env L) {Q E : Value → Shared → Prop}
    (q : ∀ v h' tk ρ', Inv CA B h' ρ' σ' → Go No s.heap ρ h' ρ' → IsPart v k → Q v { s with heap := h', toks := tk }) : wpAny (model prog w) A (evalPart e env) Q E s := by
  cases e with
  | none =>
    cases he
    cases ho
    exact wpAny_pure (q _ s.heap s.toks ρ I Go.refl .none)
  | some e =>
    simp only [evo] at he
    split at he
    · rename_i v σ1 h1
      cases he
      rw [evalPart_some]
      refine G.ev A env L σ e v _ m a eo ok h1 s ρ I l Q E fun u h' tk ρ' I1 g1 hu => ?_
      unfold optI at ho
      split at ho
      · rename_i h; cases h
      · rename_i i h
        cases h; cases ho; cases hu
        exact q _ h' tk ρ' I1 g1 (.int _ _)
      · cases ho
    · cases he

theorem slice_pick {l : List V} {vs : List Value} {h : Heap} (r : VAll h ρ l vs) (a b c : Option Int) : VAll h ρ (sliceG l a b c) (slicePick vs.toArray a b c).toList := by
  unfold sliceG slicePick
  have e : vs.toArray.size = l.length := by rw [List.size_toArray, r.length]
  rw [e]
  have h2 : ∀ js : List Nat, (js.filterMap (vs.toArray[·]?)) = js.filterMap (vs[·]?) := by
    intro js; congr 1; funext j; simp
  rw [List.toList_toArray, h2]
  exact r.picks _

theorem sub_of_get {o i : Value} {slice value : Expr} {T : String} {id : String} {Q E : Value → Shared → Prop} (hT : s.TypeIs o T) (hl : typeLookup (.type T) "__getitem__" = pure (some (.builtin id))) (hg : wpAny (model prog w) A (getItem o i) Q E s) (hs : isSlice slice = true) :
    wpAny (model prog w) A (subscriptTail value slice o i) Q E s := by
  cases slice <;> first | cases hs | skip
  rename_i a b st p
  cases st with
  | none => exact tail_any hT hl hg rfl
  | some st => exact tail_any hT hl hg rfl

theorem slice_ok {m : Nat} {value : Expr} {lo hi st : Option Expr} {p : Pos} {ov : V} {v : Value} {l : List V} {a b c : Option V} {ka kb kc : Option Int} {k : Nat} {σ1 σ2 σ3 σ4 : Sto}
    (G : GoodF T CA B (model prog w) n F) (ao : AOk A n) (eo : EnvOk env) (ok : ([lo, hi, st].all fun | some e => okE T m env.scope e | none => true) = true)
    (h1 : evo (F.ev L) σ1 lo = some (a, σ2)) (h2 : evo (F.ev L) σ2 hi = some (b, σ3)) (h3 : evo (F.ev L) σ3 st = some (c, σ4)) (i1 : optI a = some ka) (i2 : optI b = some kb) (i3 : optI c = some kc)
    (hl : σ4[k]? = some (.list l)) (h0 : kc ≠ some 0) (hsz : l.length ≤ most) (I : Inv CA B s.heap ρ σ1) (lc : LocIn B s.heap ρ env L) (hv : VIn s.heap ρ (.obj k) v) {Q E : Value → Shared → Prop}
    (q : ∀ v h' tk ρ', Inv CA B h' ρ' (σ4 ++ [.list (sliceG l ka kb kc)]) → Go No s.heap ρ h' ρ' → VIn h' ρ' (.obj σ4.length) v → Q v { s with heap := h', toks := tk }) :
    wpAny (model prog w) A (eval (.Slice lo hi st p) env) (fun i s₂ => wpAny (model prog w) A (subscriptTail value (.Slice lo hi st p) v i) Q E s₂) E s := by
  simp only [List.all_cons, List.all_nil, Bool.and_true, Bool.and_eq_true] at ok
  refine wpAny_Slice ?_
  refine part_ok (m := m) G ao eo ok.1 h1 i1 I lc fun va ha ta ρa Ia ga pa => ?_
  refine part_ok (m := m) G ao eo ok.2.1 h2 i2 Ia (lc.mono I ga) fun vb hb tb ρb Ib gb pb => ?_
  refine part_ok (m := m) G ao eo ok.2.2 h3 i3 Ib ((lc.mono I ga).mono Ia gb) fun vc hc tc ρc Ic gc pc => ?_
  have gg := ga.trans (gb.trans gc)
  have hv' := hv.mono Soft.no I gg
  obtain ⟨x, vs, j, rfl, _, hx, r⟩ := Ic.list (s := { s with heap := hc, toks := tc }) hl hv'
  dsimp only at hx r ⊢
  generalize ho : ({ cls := .type "slice", data := .fields #[va, vb, vc] } : Obj) = so
  have kp := push_keep (h := hc) so
  have hx' := kp _ _ hx
  have I' := Ic.grow kp
  have r' := r.mono Soft.no Ic (Go.grow (X := No) (ρ := ρc) kp)
  have hL : (hc.push so).IsList x vs.toArray := PySem.IsL.isList (n := j) hx'
  refine sub_of_get (T := "list") hL.typeIs slot_list_getitem.lookup (wpAny_getItem_list_slice hL ⟨so, Heap.get?_push_size _ (by rw [← ho]; rfl), by rw [← ho], by rw [← ho]⟩ pa pb pc h0 ?_ (by rw [List.size_toArray, r.length]; exact most_lt hsz)) rfl
  have hp := slice_pick r' ka kb kc
  obtain ⟨j1, j2, j3⟩ := I'.newList hp
  have e : (slicePick vs.toArray ka kb kc).toList.toArray = slicePick vs.toArray ka kb kc := by simp
  rw [e] at j1 j2 j3
  exact q _ _ tc _ j1 (gg.trans ((Go.grow kp).trans j2)) j3

theorem biC_ok {b : Bi} {vs : List V} {ws : List Value} (a : AOk A n) (hro : ∀ a xs, T.ro a = some xs → ∃ us, B.IsList a us ∧ Ints xs us.toList) (he : biC T b vs σ = some d) (I : Inv CA B s.heap ρ σ) (x : VAll s.heap ρ vs ws) : EvOk CA B (model prog w) A (call (biV b) ws) s ρ d σ := by
  unfold biC at he
  split at he
  · -- len
    cases x with
    | cons x1 x2 =>
      cases x2
      split at he
      · cases he
      · rename_i ad
        obtain ⟨xs, hxs, he⟩ := Option.bind_eq_some_iff.mp he
        split at he
        · rename_i hsz
          cases he
          have hsz := of_decide_eq_true hsz
          have hsz' : ((xs.length : Nat) : Int) < 2 ^ 63 := by unfold most at hsz; omega
          obtain ⟨us, hb, hi⟩ := hro ad xs hxs
          cases x1
          have hlen : us.size = xs.length := by
            have := (hi.all (h := s.heap) (ρ := ρ)).length
            rw [List.length_map] at this
            rw [← this, Array.length_toList]
          exact EvOk.val I (.int _ _) fun Q E h => PyProof.Rows.len_list (hb.at fun o e => I.keep _ _ e) (by rw [hlen]; exact hsz') (by rw [hlen]; exact h)
        · cases he
      · rename_i v hv hv2
        obtain ⟨l, hl, e⟩ := Option.map_eq_some_iff.mp he
        cases e
        have hsz := items_len hl
        have hsz' : ((l.length : Nat) : Int) < 2 ^ 63 := by unfold most at hsz; omega
        unfold items at hl
        split at hl
        · split at hl
          · cases hl
            cases x1
            rename_i ad us ht hh r
            have hz : us.toArray.size = l.length := by rw [List.size_toArray, r.length]
            exact EvOk.val I (.int _ _) fun Q E h => PyProof.Rows.len_tuple ht (by rw [hz]; exact hsz') (by rw [hz]; exact h)
          · cases hl
        · split at hl
          · rename_i l' e1
            split at hl
            · cases hl
              obtain ⟨ad, us, c, rfl, _, hx, r⟩ := I.list e1 x1
              have hz : us.toArray.size = l.length := by rw [List.size_toArray, r.length]
              exact EvOk.val I (.int _ _) fun Q E h => PyProof.Rows.len_list (PySem.IsL.isList (n := c) hx) (by rw [hz]; exact hsz') (by rw [hz]; exact h)
            · cases hl
          · cases hl
        · first | exact absurd rfl (hv _ _) | exact absurd rfl (hv2 _ _)
        · cases hl
  · -- range 1
    cases he
    cases x with
    | cons x1 x2 =>
      cases x2; cases x1
      exact EvOk.made I (push_keep _) (.rng (Heap.get?_push_size _ rfl)) fun Q E h => call_range_1 h
  · cases he
    cases x with
    | cons x1 x2 =>
      cases x2 with
      | cons x2 x3 =>
        cases x3; cases x1; cases x2
        exact EvOk.made I (push_keep _) (.rng (Heap.get?_push_size _ rfl)) fun Q E h => call_range_2 h
  · cases he
    cases x with
    | cons x1 x2 =>
      cases x2; cases x1
      intro Q E k
      exact call_abs_int fun u tk => k _ s.heap tk ρ I Go.refl (.int _ _)
  · cases he
    cases x with
    | cons x1 x2 =>
      cases x2 with
      | cons x2 x3 =>
        cases x3; cases x1; cases x2
        intro Q E k
        refine max_two_ints a.hd fun h' tk kp => ?_
        refine k _ h' tk ρ (I.grow kp) (Go.grow kp) ?_
        split
        · exact .int _ _
        · exact .int _ _
  · cases he
    cases x with
    | cons x1 x2 =>
      cases x2 with
      | cons x2 x3 =>
        cases x3; cases x1; cases x2
        intro Q E k
        refine min_two_ints a.hd fun h' tk kp => ?_
        refine k _ h' tk ρ (I.grow kp) (Go.grow kp) ?_
        split
        · exact .int _ _
        · exact .int _ _
  · cases he
    cases x with
    | cons x1 x2 =>
      cases x2; cases x1
      exact EvOk.val0 I (.int _ _) fun Q E h => call_int_int h
  · cases he
    cases x with
    | cons x1 x2 =>
      cases x2; cases x1
      exact EvOk.val I (.int _ _) fun Q E h => call_int_bool h
  · cases he
    cases x with
    | cons x1 x2 =>
      cases x2
      have x1' := x1
      cases x1
      rename_i ad us ht hh r
      exact EvOk.val0 I x1' fun Q E h => call_tuple_same ht h
  · cases x with
    | cons x1 x2 =>
      cases x2
      split at he
      · rename_i l e1
        split at he
        · rename_i hsz
          cases he
          obtain ⟨ad, us, c, rfl, _, hx, r⟩ := I.list e1 x1
          intro Q E k
          refine call_tuple_list (PySem.IsL.isList (n := c) hx) (fun h' kp => ?_) (by rw [List.size_toArray, r.length]; exact most_lt (of_decide_eq_true hsz))
          have kp2 := push_keep (h := h') { cls := .type "tuple", data := .seq us.toArray }
          have kk : ∀ b o, s.heap.get? b = some o → (h'.push { cls := .type "tuple", data := .seq us.toArray }).get? b = some o := fun b o e => kp2 _ _ (kp _ _ e)
          exact k _ _ s.toks ρ (I.grow kk) (Go.grow kk) (.tup ⟨_, Heap.get?_push_size _ rfl, rfl, 0, rfl⟩ (r.mono Soft.no I (Go.grow kk)) ((I.grow kp).notHid (I.grow kp).none_of_size.1))
        · cases he
      · cases he
  · -- sum of ()
    cases he
    cases x with
    | cons x1 x2 =>
      cases x2; cases x1
      rename_i ad us ht hh r
      cases r
      intro Q E k
      refine call_sum_walkG ?_
      refine wpAny_pyIter_tuple ht ?_
      have hne : ad ≠ s.heap.objs.size := by obtain ⟨o, ho, _⟩ := ht; exact Nat.ne_of_lt (Heap.lt_size ho)
      have W := Walks.tuple (prog := prog) (w := w) (A := A.in1) a.hd s.heap.objs.size ad hne (([] : List Value).toArray)
      have kp := push_keep (h := s.heap) { cls := .type "tuple_iterator", data := .fields #[.ref ad, .int 0 0] }
      refine ⟨_, _, _, _, _, _, fun _ => 0, rfl, W, ⟨⟨_, Heap.get?_push_size _ rfl, rfl, rfl⟩, IsTup.keeps ht kp⟩, ?_, ?_, ?_⟩
      · intro b hb
        obtain ⟨o, ho, _⟩ := ht
        have h1 := Heap.lt_size ho
        rw [Heap.size_push]
        rcases List.mem_cons.mp hb with rfl | hb
        · exact Nat.lt_succ_self _
        · rw [List.mem_singleton.mp hb]; exact Nat.lt_succ_of_lt h1
      · intro i v hi
        simp at hi
      · intro h' tk t' kq
        have kk : ∀ b o, s.heap.get? b = some o → h'.get? b = some o := fun b o e => kq b o (by simpa using Nat.ne_of_lt (Heap.lt_size e)) (kp _ _ e)
        exact k _ h' tk ρ (I.grow kk) (Go.grow kk) (.int _ _)
  · cases he

end
end Mine
end
section
open PySem PySem.W PyProof.Rows PySem.Calls
set_option linter.unusedSectionVars false
namespace Mine
variable [Hid]

mutual
def vok (n : Nat) : V → Bool
  | .tup l => vokL n l
  | .obj k => decide (k < n)
  | _ => true
def vokL (n : Nat) : List V → Bool
  | [] => true
  | v :: vs => vok n v && vokL n vs
end

section
variable {CA : Str → Option Addr} {B h h' : Heap} {ρ τ : Rho} {σ σ' : Sto}

mutual
theorem VIn.vok : ∀ {d : V} {v : Value}, VIn h ρ d v → vok ρ.length d = true
  | _, _, .none => rfl
  | _, _, .bool _ => rfl
  | _, _, .int _ _ => rfl
  | _, _, .str _ _ => rfl
  | _, _, .tup _ r _ => by rw [Mine.vok]; exact VAll.vok r
  | _, _, .obj e => by rw [Mine.vok]; exact decide_eq_true (List.getElem?_eq_some_iff.mp e).1
  | _, _, .rng _ => rfl
  | _, _, .lst _ => rfl
theorem VAll.vok : ∀ {l : List V} {vs : List Value}, VAll h ρ l vs → vokL ρ.length l = true
  | _, _, .nil => rfl
  | _, _, .cons a r => by rw [vokL, VIn.vok a, VAll.vok r]; rfl
end
mutual
theorem VIn.cut : ∀ {d : V} {v : Value}, VIn h (ρ ++ τ) d v → vok ρ.length d = true → VIn h ρ d v
  | _, _, .none, _ => .none
  | _, _, .bool b, _ => .bool b
  | _, _, .int i t, _ => .int i t
  | _, _, .str x t, _ => .str x t
  | _, _, .tup ht r hh, k => .tup ht (VAll.cut r (by rw [Mine.vok] at k; exact k)) hh
  | _, _, .obj e, k => .obj (by rw [Mine.vok] at k; rw [List.getElem?_append_left (of_decide_eq_true k)] at e; exact e)
  | _, _, .rng r, _ => .rng r
  | _, _, .lst a, _ => .lst a
theorem VAll.cut : ∀ {l : List V} {vs : List Value}, VAll h (ρ ++ τ) l vs → vokL ρ.length l = true → VAll h ρ l vs
  | _, _, .nil, _ => .nil
  | _, _, .cons a r, k => by
    rw [vokL, Bool.and_eq_true] at k
    exact .cons (VIn.cut a k.1) (VAll.cut r k.2)
end
mutual
theorem free_vok (n : Nat) : ∀ {d : V}, free d = true → vok n d = true
  | .none, _ => rfl
  | .bool _, _ => rfl
  | .int _, _ => rfl
  | .str _, _ => rfl
  | .tup l, k => by rw [vok]; rw [free] at k; exact freeL_vok n k
  | .obj _, k => by simp [free] at k
  | .rng _ _, _ => rfl
  | .lst _, _ => rfl
theorem freeL_vok (n : Nat) : ∀ {l : List V}, freeL l = true → vokL n l = true
  | [], _ => rfl
  | d :: l, k => by
    rw [freeL, Bool.and_eq_true] at k
    rw [vokL, free_vok n k.1, freeL_vok n k.2]; rfl
end
mutual
theorem VIn.any {ρ' : Rho} : ∀ {d : V} {v : Value}, VIn h ρ d v → free d = true → VIn h ρ' d v
  | _, _, .none, _ => .none
  | _, _, .bool b, _ => .bool b
  | _, _, .int i t, _ => .int i t
  | _, _, .str x t, _ => .str x t
  | _, _, .tup ht r hh, k => .tup ht (VAll.any r (by rw [free] at k; exact k)) hh
  | _, _, .obj e, k => by simp [free] at k
  | _, _, .rng r, _ => .rng r
  | _, _, .lst a, _ => .lst a
theorem VAll.any {ρ' : Rho} : ∀ {l : List V} {vs : List Value}, VAll h ρ l vs → freeL l = true → VAll h ρ' l vs
  | _, _, .nil, _ => .nil
  | _, _, .cons a r, k => by
    rw [freeL, Bool.and_eq_true] at k
    exact .cons (VIn.any a k.1) (VAll.any r k.2)
end
theorem FsIn.cut : ∀ {fs : List (Str × V)} {es : List DictEntry}, FsIn h (ρ ++ τ) fs es → (∀ p ∈ fs, vok ρ.length p.2 = true) → FsIn h ρ fs es
  | [], [], _, _ => True.intro
  | (_, _) :: _, _ :: _, ⟨a, b, c⟩, k => ⟨a, b.cut (k _ (.head _)), FsIn.cut c fun p hp => k p (.tail _ hp)⟩
theorem FsIn.any {ρ' : Rho} : ∀ {fs : List (Str × V)} {es : List DictEntry}, FsIn h ρ fs es → freeL (fs.map (·.2)) = true → FsIn h ρ' fs es
  | [], [], _, _ => True.intro
  | (_, _) :: _, _ :: _, ⟨a, b, c⟩, k => by
    simp only [List.map_cons, freeL, Bool.and_eq_true] at k
    exact ⟨a, b.any k.1, FsIn.any c k.2⟩
theorem FsIn.vok : ∀ {fs : List (Str × V)} {es : List DictEntry}, FsIn h ρ fs es → ∀ p ∈ fs, vok ρ.length p.2 = true
  | (_, _) :: _, _ :: _, ⟨_, b, c⟩, p, hp => by
    rcases List.mem_cons.mp hp with rfl | hp
    · exact b.vok
    · exact FsIn.vok c p hp

theorem ObIn.cut {h0 : Heap} {ob : Ob} {p q : Addr × Addr} (x : ObIn CA h (ρ ++ τ) ob p) (y : ObIn CA h0 ρ ob q) : ObIn CA h ρ ob p := by
  cases x with
  | list pl r =>
    generalize hob : Ob.list _ = ob at y
    cases y with
    | list _ r0 => cases hob; exact .list pl (r.cut r0.vok)
    | inst => cases hob
  | inst hc hx hd hf =>
    generalize hob : Ob.inst _ _ = ob at y
    cases y with
    | list => cases hob
    | inst _ _ _ hf0 => cases hob; exact .inst hc hx hd (hf.cut hf0.vok)

mutual
theorem VIn.up : ∀ {d : V} {v : Value}, VIn h ρ d v → VIn h (ρ ++ τ) d v
  | _, _, .none => .none
  | _, _, .bool b => .bool b
  | _, _, .int i t => .int i t
  | _, _, .str x t => .str x t
  | _, _, .tup ht r hh => .tup ht (VAll.up r) hh
  | _, _, .obj e => .obj (by rw [List.getElem?_append_left (List.getElem?_eq_some_iff.mp e).1]; exact e)
  | _, _, .rng r => .rng r
  | _, _, .lst a => .lst a
theorem VAll.up : ∀ {l : List V} {vs : List Value}, VAll h ρ l vs → VAll h (ρ ++ τ) l vs
  | _, _, .nil => .nil
  | _, _, .cons a r => .cons (VIn.up a) (VAll.up r)
end
theorem FsIn.up : ∀ {fs : List (Str × V)} {es : List DictEntry}, FsIn h ρ fs es → FsIn h (ρ ++ τ) fs es
  | [], [], _ => True.intro
  | (_, _) :: _, _ :: _, ⟨a, b, c⟩ => ⟨a, b.up, FsIn.up c⟩
theorem ObIn.up {ob : Ob} {p : Addr × Addr} (x : ObIn CA h ρ ob p) : ObIn CA h (ρ ++ τ) ob p := by
  cases x with
  | list pl r => exact .list pl r.up
  | inst hc hx hd hf => exact .inst hc hx hd hf.up

/-- the junk is forgotten -/
theorem Inv.cut {h0 : Heap} (I0 : Inv CA B h0 ρ σ) (I : Inv CA B h (ρ ++ τ) σ') (e : σ'.take σ.length = σ) : Inv CA B h ρ σ where
  keep := I.keep
  len := I0.len
  obs := fun i ob p hs hp => by
    have hi := (List.getElem?_eq_some_iff.mp hs).1
    have h1 : σ'[i]? = some ob := by
      rw [← e, List.getElem?_take_of_lt hi] at hs; exact hs
    have h2 : (ρ ++ τ)[i]? = some p := by rw [List.getElem?_append_left (by rw [I0.len]; exact hi)]; exact hp
    exact (I.obs i ob p h1 h2).cut (I0.obs i ob p hs hp)
  nd := fun i j p q hp hq z => by
    have h1 : (ρ ++ τ)[i]? = some p := by rw [List.getElem?_append_left (List.getElem?_eq_some_iff.mp hp).1]; exact hp
    have h2 : (ρ ++ τ)[j]? = some q := by rw [List.getElem?_append_left (List.getElem?_eq_some_iff.mp hq).1]; exact hq
    exact I.nd i j p q h1 h2 z
  fr := fun p hp => I.fr p (List.mem_append.mpr (.inl hp))
  hid := I.hid

theorem Go.cut (g : Go No h ρ h' (ρ ++ τ)) : Go No h ρ h' ρ := ⟨g.ext, g.live, [], (List.append_nil _).symm, fun _ hp => nomatch hp⟩

/-- a store longer by one, of which the last is kept -/
theorem Inv.cut1 {h0 : Heap} (I0 : Inv CA B h0 ρ σ) (I : Inv CA B h (ρ ++ τ) σ') (e : σ'.take σ.length = σ) {k : Nat} {p : Addr × Addr} {ob : Ob} (hk : σ.length ≤ k) (hp : (ρ ++ τ)[k]? = some p) (x : ObIn CA h (ρ ++ [p]) ob p) :
    Inv CA B h (ρ ++ [p]) (σ ++ [ob]) where
  keep := I.keep
  len := by rw [List.length_append, List.length_append, I0.len]; rfl
  obs := fun i ob' q hs hq => by
    by_cases hi : i < σ.length
    · rw [List.getElem?_append_left hi] at hs
      rw [List.getElem?_append_left (by rw [I0.len]; exact hi)] at hq
      exact ((Inv.cut I0 I e).obs i ob' q hs hq).up
    · have hi' : i = σ.length := by
        have := (List.getElem?_eq_some_iff.mp hs).1
        rw [List.length_append] at this
        simp at this; omega
      subst hi'
      rw [List.getElem?_append_right (Nat.le_refl _)] at hs
      rw [← I0.len, List.getElem?_append_right (Nat.le_refl _)] at hq
      simp at hs hq
      subst hs; subst hq
      exact x
  nd := fun i j a b ha hb z => by
    have key : ∀ (i : Nat) (a : Addr × Addr), (ρ ++ [p])[i]? = some a → (i < ρ.length ∧ (ρ ++ τ)[i]? = some a) ∨ (i = ρ.length ∧ a = p) := by
      intro i a ha
      by_cases hi : i < ρ.length
      · rw [List.getElem?_append_left hi] at ha
        exact .inl ⟨hi, by rw [List.getElem?_append_left hi]; exact ha⟩
      · have hi' : i = ρ.length := by
          have := (List.getElem?_eq_some_iff.mp ha).1
          rw [List.length_append] at this
          simp at this; omega
        subst hi'
        rw [List.getElem?_append_right (Nat.le_refl _)] at ha
        simp at ha
        exact .inr ⟨rfl, ha.symm⟩
    have hk' : ρ.length ≤ k := by rw [I0.len]; exact hk
    rcases key i a ha with ⟨h1, h2⟩ | ⟨h1, h2⟩ <;> rcases key j b hb with ⟨h3, h4⟩ | ⟨h3, h4⟩
    · exact I.nd i j a b h2 h4 z
    · subst h4
      have := I.nd i k a b h2 hp z
      omega
    · subst h2
      have := I.nd k j a b hp h4 z
      omega
    · omega
  fr := fun q hq => by
    rcases List.mem_append.mp hq with hq | hq
    · exact I.fr q (List.mem_append.mpr (.inl hq))
    · rw [List.mem_singleton.mp hq]; exact I.fr p (List.mem_of_getElem? hp)
  hid := I.hid
end
end Mine
end
section
open PySem PySem.W PyProof.Rows PySem.Calls
set_option linter.unusedSectionVars false
namespace Mine
variable [Hid]
section
variable {T : Tbl} {CA : Str → Option Addr} {K : Frag} {mg mb : Str → Option Value} {B : Heap} {prog : Program} {w : World} {A : Around} {n : Nat} {F : Funs} {s : Shared} {ρ τ : Rho} {σ σ' : Sto} {env : Env} {L : Loc} {d : V} {h h0 : Heap}

theorem gc_ok {v r : V} {u : Value} {σ2 : Sto} (he : gc σ v σ' = (r, σ2)) (I0 : Inv CA B h0 ρ σ) (I : Inv CA B h (ρ ++ τ) σ') (g : Go No h0 ρ h (ρ ++ τ)) (hv : VIn h (ρ ++ τ) v u) : ∃ ρ', Inv CA B h ρ' σ2 ∧ Go No h0 ρ h ρ' ∧ VIn h ρ' r u := by
  have raw : ∀ {r σ2}, (v, σ') = (r, σ2) → ∃ ρ', Inv CA B h ρ' σ2 ∧ Go No h0 ρ h ρ' ∧ VIn h ρ' r u := by
    intro r σ2 e; cases e; exact ⟨_, I, g, hv⟩
  unfold gc at he
  split at he
  · rename_i ht
    split at he
    · rename_i hf
      cases he
      exact ⟨ρ, Inv.cut I0 I ht, g.cut, hv.cut (free_vok _ hf)⟩
    · split at he
      · rename_i k hnf
        split at he
        · rename_i l hl
          split at he
          · rename_i hc
            cases he
            rw [Bool.and_eq_true] at hc
            have hk := of_decide_eq_true hc.1
            cases hv with
            | obj hp =>
              rename_i p
              have ob := I.obs k _ p hl hp
              have ob' : ObIn CA h (ρ ++ [p]) (.list l) p := by
                generalize hob : Ob.list l = o at ob
                cases ob with
                | list pl r => cases hob; exact .list pl (r.any hc.2)
                | inst => cases hob
              have I1 := Inv.cut1 I0 I ht hk hp ob'
              have hpm : h0.get? p.2 = none := by
                obtain ⟨τ', e, q⟩ := g.pre
                have e' := List.append_cancel_left e
                subst e'
                refine q p ?_
                rw [List.getElem?_append_right (by rw [I0.len]; exact hk)] at hp
                exact List.mem_of_getElem? hp
              refine ⟨ρ ++ [p], I1, ⟨g.ext, g.live, [p], rfl, fun q hq => by rw [List.mem_singleton.mp hq]; exact hpm⟩, ?_⟩
              refine VIn.obj (p := p) ?_
              rw [← I0.len, List.getElem?_append_right (Nat.le_refl _)]; simp
          · exact raw he
        · rename_i c fs hl
          split at he
          · rename_i hc
            cases he
            rw [Bool.and_eq_true] at hc
            have hk := of_decide_eq_true hc.1
            cases hv with
            | obj hp =>
              rename_i p
              have ob := I.obs k _ p hl hp
              have ob' : ObIn CA h (ρ ++ [p]) (.inst c fs) p := by
                generalize hob : Ob.inst c fs = o at ob
                cases ob with
                | list => cases hob
                | inst h1 h2 h3 h4 => cases hob; exact .inst h1 h2 h3 (h4.any hc.2)
              have I1 := Inv.cut1 I0 I ht hk hp ob'
              have hpm : h0.get? p.2 = none := by
                obtain ⟨τ', e, q⟩ := g.pre
                have e' := List.append_cancel_left e
                subst e'
                refine q p ?_
                rw [List.getElem?_append_right (by rw [I0.len]; exact hk)] at hp
                exact List.mem_of_getElem? hp
              refine ⟨ρ ++ [p], I1, ⟨g.ext, g.live, [p], rfl, fun q hq => by rw [List.mem_singleton.mp hq]; exact hpm⟩, ?_⟩
              refine VIn.obj (p := p) ?_
              rw [← I0.len, List.getElem?_append_right (Nat.le_refl _)]; simp
          · exact raw he
        · exact raw he
      · exact raw he
  · exact raw he

theorem LocIn.soft (l : LocIn B h ρ env L) : Soft (XOf env) h := by
  intro b o hX e
  rcases hX with rfl | ⟨x, hx⟩
  · obtain ⟨m, o', es, ep, e', hd, _⟩ := l.ns
    rw [e] at e'; cases e'
    exact .inl ⟨es, ep, hd⟩
  · obtain ⟨v, o', e', hd⟩ := l.cells x b hx
    rw [e] at e'; cases e'
    exact .inr ⟨v, hd⟩

theorem exs_ok {m : Nat} (G : GoodF T CA B (model prog w) n F) (a : AOk A n) (eo : EnvOk env) : ∀ {b : List Stmt} {f : Fl} {L L' : Loc} {σ σ' : Sto} {s : Shared} {ρ : Rho}, b.all (okS T m env.scope) = true → exs F.ex L σ b = some (f, L', σ') → Inv CA B s.heap ρ σ → LocIn B s.heap ρ env L →
    ExOk CA B (model prog w) A env (execs b env) s ρ f L' σ'
  | [], f, L, L', σ, σ', s, ρ, _, he, I, l => by
    cases he
    intro Q E k
    exact wpAny_execs_nil (k .next s.heap s.toks ρ I Go.refl l True.intro)
  | st :: b, f, L, L', σ, σ', s, ρ, ok, he, I, l => by
    simp only [List.all_cons, Bool.and_eq_true] at ok
    intro Q E k
    unfold exs at he
    split at he
    · rename_i L1 σ1 h1
      refine wpAny_execs_cons (G.ex A env L σ st .next L1 σ1 m a eo ok.1 h1 s ρ I l _ _ fun fl h' tk ρ' I1 g1 l1 hf => ?_)
      cases fl <;> first | exact hf.elim | skip
      exact exs_ok G a eo ok.2 he I1 l1 _ _ fun fl h2 tk2 ρ2 I2 g2 l2 hf2 => k fl h2 tk2 ρ2 I2 (g1.trans g2) l2 hf2
    · rename_i v L1 σ1 h1
      cases he
      refine wpAny_execs_cons (G.ex A env L σ st (.ret v) _ _ m a eo ok.1 h1 s ρ I l _ _ fun fl h' tk ρ' I1 g1 l1 hf => ?_)
      cases fl <;> first | exact hf.elim | skip
      exact k _ h' tk ρ' I1 g1 l1 hf
    · cases he

theorem zip_look {xs : List Str} : ∀ {vs : List V} {ws : List Value} {x : Str} {d : V}, VAll h ρ vs ws → (xs.zip vs).lookup x = some d → ∃ v, (xs.zip ws).lookup x = some v ∧ VIn h ρ d v := by
  induction xs with
  | nil => intro vs ws x d _ e; cases e
  | cons y xs ih =>
    intro vs ws x d r e
    cases r with
    | nil => cases e
    | cons a r =>
      rw [List.zip_cons_cons, List.lookup_cons] at e ⊢
      cases q : x == y with
      | true => rw [q] at e; cases e; exact ⟨_, rfl, a⟩
      | false => rw [q] at e; exact ih r e

theorem bindL_at {kd : Str → Option NameKind} {x : Str} {v : Value} (hk : kd x = some .local) : ∀ {xs : List Str} {ws : List Value} {m : Str → Option Value}, xs.Nodup → ((xs.zip ws).lookup x = some v ∨ (x ∉ xs ∧ m x = some v)) → bindL kd (xs.zip ws) m x = some v
  | [], ws, m, _, e => by
    rcases e with e | ⟨_, e⟩
    · cases e
    · exact e
  | y :: xs, [], m, _, e => by
    rcases e with e | ⟨_, e⟩
    · cases e
    · exact e
  | y :: xs, u :: ws, m, nd, e => by
    rw [List.nodup_cons] at nd
    rw [List.zip_cons_cons, bindL]
    refine bindL_at hk nd.2 ?_
    rcases e with e | ⟨hx, e⟩
    · rw [List.zip_cons_cons, List.lookup_cons] at e
      cases q : x == y with
      | true =>
        rw [q] at e; cases e
        have : x = y := by simpa using q
        subst this
        exact .inr ⟨nd.1, by rw [if_pos hk]; simp⟩
      | false => rw [q] at e; exact .inl e
    · refine .inr ⟨fun q => hx (.tail _ q), ?_⟩
      have hne : x ≠ y := fun q => hx (q ▸ .head _)
      split
      · simp [hne, e]
      · exact e
theorem bindC_at {kd : Str → Option NameKind} {x : Str} {v : Value} (hk : kd x ≠ some .local) : ∀ {xs : List Str} {ws : List Value} {m : Str → Option Value}, xs.Nodup → ((xs.zip ws).lookup x = some v ∨ (x ∉ xs ∧ m x = some v)) → bindC kd (xs.zip ws) m x = some v
  | [], ws, m, _, e => by
    rcases e with e | ⟨_, e⟩
    · cases e
    · exact e
  | y :: xs, [], m, _, e => by
    rcases e with e | ⟨_, e⟩
    · cases e
    · exact e
  | y :: xs, u :: ws, m, nd, e => by
    rw [List.nodup_cons] at nd
    rw [List.zip_cons_cons, bindC]
    refine bindC_at hk nd.2 ?_
    rcases e with e | ⟨hx, e⟩
    · rw [List.zip_cons_cons, List.lookup_cons] at e
      cases q : x == y with
      | true =>
        rw [q] at e; cases e
        have : x = y := by simpa using q
        subst this
        exact .inr ⟨nd.1, by rw [if_neg hk]; simp⟩
      | false => rw [q] at e; exact .inl e
    · refine .inr ⟨fun q => hx (.tail _ q), ?_⟩
      have hne : x ≠ y := fun q => hx (q ▸ .head _)
      split
      · exact e
      · simp [hne, e]
end

section
theorem lookup_zip_mem {x : Str} : ∀ {xs : List Str} {ws : List Value}, xs.length = ws.length → x ∈ xs → ((xs.zip ws).lookup x).isSome = true
  | [], _, _, h => nomatch h
  | y :: xs, [], h, _ => by cases h
  | y :: xs, w :: ws, h, hx => by
    rw [List.zip_cons_cons, List.lookup_cons]
    cases q : x == y with
    | true => rfl
    | false =>
      refine lookup_zip_mem (by simpa using h) ?_
      rcases List.mem_cons.mp hx with rfl | hx
      · simp at q
      · exact hx
theorem filterMap_look : ∀ (xs : List Str) (ws : List Value) (ys : List Str) (us : List Value), (xs ++ ys).Nodup → xs.length = ws.length → ys.length = us.length →
    ys.filterMap (fun x => (((xs ++ ys).zip (ws ++ us)).lookup x).map (x, ·)) = ys.zip us
  | xs, ws, [], us, _, _, h => by cases us; rfl; cases h
  | xs, ws, y :: ys, [], _, _, h => by cases h
  | xs, ws, y :: ys, u :: us, nd, h1, h2 => by
    have e1 : xs ++ y :: ys = (xs ++ [y]) ++ ys := by simp
    have e2 : ws ++ u :: us = (ws ++ [u]) ++ us := by simp
    have ih := filterMap_look (xs ++ [y]) (ws ++ [u]) ys us (e1 ▸ nd) (by simp [h1]) (by simpa using h2)
    rw [List.filterMap_cons]
    have hy : ((xs ++ y :: ys).zip (ws ++ u :: us)).lookup y = some u := by
      have hn : y ∉ xs := by
        intro q
        rw [List.nodup_append] at nd
        exact nd.2.2 y q y (.head _) rfl
      rw [List.zip_append h1]
      have : ∀ {zs : List Str} {vs : List Value}, y ∉ zs → ((zs.zip vs) ++ (y :: ys).zip (u :: us)).lookup y = some u := by
        intro zs
        induction zs with
        | nil => intro vs _; simp [List.lookup_cons]
        | cons z zs ih =>
          intro vs hz
          cases vs with
          | nil => simp [List.lookup_cons]
          | cons v vs =>
            rw [List.zip_cons_cons, List.cons_append, List.lookup_cons]
            have : (y == z) = false := by
              simp only [beq_eq_false_iff_ne]; rintro rfl; exact hz (.head _)
            rw [this]
            exact ih fun q => hz (.tail _ q)
      exact this hn
    rw [hy]
    show (y, u) :: _ = _
    rw [e1, e2, ih]; rfl
end
end Mine
end
section
open PySem PySem.W PyProof.Rows PySem.Calls
set_option linter.unusedSectionVars false
namespace Mine
variable [Hid]

theorem bind_plain {fd : FuncData} {ps : List Arg} {ws : List Value} (h1 : fd.params.posonlyargs = []) (h2 : fd.params.vararg = none) (h3 : fd.params.kwonlyargs = []) (h4 : fd.params.kwarg = none) (h5 : fd.params.args = ps) (h6 : fd.defaults = .none)
    (nd : (ps.map (·.arg)).Nodup) (hl : ps.length = ws.length) : bindArgs fd ⟨ws, []⟩ = pure ((ps.map (·.arg)).zip ws) := by
  have hmis : ((ps.map (·.arg)).filter fun n => (((ps.map (·.arg)).zip ws).lookup n).isNone) = [] := by
    rw [List.filter_eq_nil_iff]
    intro x hx
    have := lookup_zip_mem (ws := ws) (by rw [List.length_map]; exact hl) hx
    cases q : ((ps.map (·.arg)).zip ws).lookup x with
    | none => rw [q] at this; cases this
    | some v => simp
  have hfm : (ps.map (·.arg)).filterMap (fun n => (((ps.map (·.arg)).zip ws).lookup n).map (n, ·)) = (ps.map (·.arg)).zip ws := by
    have := filterMap_look [] [] (ps.map (·.arg)) ws (by simpa using nd) rfl (by rw [List.length_map]; exact hl)
    simpa using this
  unfold bindArgs
  simp only [h1, h2, h3, h4, h5, h6, List.map_nil, List.nil_append, List.append_nil, List.length_map]
  have hs : seqItems? Value.none = pure none := rfl
  rw [hs]
  have hg : ¬ ws.length > ps.length := by omega
  simp only [List.forIn_nil, pure_bind, Option.getD_none, Array.toList_empty, List.drop_nil, List.length_nil, Nat.sub_zero, List.zip_nil_right, hg, decide_false, Bool.false_and, Bool.false_eq_true, if_false,
    List.isEmpty_nil, Bool.not_true]
  rw [show (List.take ps.length (ps.map (·.arg))) = ps.map (·.arg) from List.take_of_length_le (by rw [List.length_map]; exact Nat.le_refl _)]
  rw [hmis, hfm]
  rfl
end Mine
end
section
open PySem PySem.W PyProof.Rows PySem.Calls
set_option linter.unusedSectionVars false
namespace Mine
variable [Hid]

theorem lookup_mem_names {x : Str} {k : NameKind} {names : List (Str × NameKind)} (h : names.lookup x = some k) : (x, k) ∈ names := mem_of_lookup h

section
variable {T : Tbl} {CA : Str → Option Addr} {K : Frag} {mg mb : Str → Option Value} {B : Heap} {prog : Program} {w : World} {A : Around} {n : Nat} {F : Funs} {s : Shared} {ρ τ : Rho} {σ σ' : Sto} {env : Env} {L : Loc} {d : V} {h h0 : Heap}

/-- a def's frame is laid out: its names are bound -/
theorem frame_in {fd : FuncData} {a : Addr} {ps : List Arg} {vs : List V} {ws : List Value} {s1 : Shared} (I : Inv CA B s.heap ρ σ) (x : VAll s.heap ρ vs ws) (nd : (ps.map (·.arg)).Nodup) (hk0 : ∀ p ∈ ps, fd.scope.names.lookup p.arg = some .local ∨ fd.scope.names.lookup p.arg = some .cell)
    (y : InCallC s (callEnvC fd s.heap.objs.size a).locals (bindL (callEnvC fd s.heap.objs.size a).kindOf ((ps.map (·.arg)).zip ws) fun _ => none) (callEnvC fd s.heap.objs.size a).cells (bindC (callEnvC fd s.heap.objs.size a).kindOf ((ps.map (·.arg)).zip ws) fun _ => none) s1) :
    LocIn B s1.heap ρ (callEnvC fd s.heap.objs.size a) (bindP (ps.map (·.arg)) vs) := by
  have g : Go No s.heap ρ s1.heap ρ := Go.grow y.toInCall.keep
  refine ⟨⟨_, y.toInCall.ns⟩, fun p hp q => ?_, fun z d hz hv => ?_, fun z hz => ?_, fun z c hz => ⟨_, y.cell z c hz⟩, fun z z' c h1 h2 => ?_, fun b hb => ?_⟩
  · obtain ⟨o, e, _⟩ := I.at hp
    have h1 := Heap.lt_size e
    rw [← q] at h1
    exact absurd (Nat.lt_of_lt_of_le h1 y.toInCall.fresh) (Nat.lt_irrefl _)
  · obtain ⟨v, e, hV⟩ := zip_look x hz
    refine ⟨v, hV.mono Soft.no I g, ?_⟩
    by_cases hk : (callEnvC fd s.heap.objs.size a).kindOf z = some .local
    · exact .inl ⟨hk, _, y.toInCall.ns, bindL_at hk nd (.inl e)⟩
    · refine .inr ?_
      have hm : z ∈ ps.map (·.arg) := (List.of_mem_zip (mem_of_lookup hz)).1
      obtain ⟨p, hp, rfl⟩ := List.mem_map.mp hm
      have hc : (callEnvC fd s.heap.objs.size a).kindOf p.arg = some .cell := (hk0 p hp).resolve_left hk
      obtain ⟨c, hc'⟩ := Option.isSome_iff_exists.mp (cellsFrom_some (x := p.arg) fd.scope.names (s.heap.objs.size + 1) [] (.inl hc))
      refine ⟨.inl hc, c, hc', ?_⟩
      have := y.cell p.arg c hc'
      rwa [bindC_at hk nd (.inl e)] at this
  · have := cellsFrom_some (x := z) fd.scope.names (s.heap.objs.size + 1) [] (.inl hz)
    exact Option.isSome_iff_exists.mp this
  · exact name_of_addr y.apart (mem_of_lookup h1) (mem_of_lookup h2)
  · have hge : s.heap.objs.size ≤ b := by
      rcases hb with rfl | ⟨x, hx⟩
      · exact Nat.le_refl _
      · exact Nat.le_of_lt (y.above x b (mem_of_lookup hx))
    cases q : B.get? b with
    | none => rfl
    | some o => exact absurd (Heap.lt_size (I.keep _ _ q)) (Nat.not_lt.mpr hge)

theorem okFn_parts {d : DefRec} (h : okFn T d = true) : d.scope.kind = .function ∧ d.scope.isCoroutine = false ∧ d.scope.isGenerator = false ∧ d.params.posonlyargs = [] ∧ d.params.vararg = none ∧ d.params.kwonlyargs = [] ∧ d.params.kwarg = none ∧
    (d.params.args.map (·.arg)).Nodup ∧ (∀ p ∈ d.params.args, d.scope.names.lookup p.arg = some .local ∨ d.scope.names.lookup p.arg = some .cell) ∧ d.body.all (okS T 60 d.scope) = true := by
  unfold okFn at h
  simp only [Bool.and_eq_true, Bool.not_eq_true', List.isEmpty_iff, Option.isNone_iff_eq_none, decide_eq_true_eq] at h
  obtain ⟨⟨⟨⟨⟨⟨⟨⟨⟨⟨a, b⟩, c⟩, e⟩, f⟩, g⟩, i⟩, j⟩, k⟩, _⟩, l⟩ := h
  refine ⟨beq_iff_eq.mp a, b, c, e, f, g, i, j, fun p hp => ?_, l⟩
  have := List.all_eq_true.mp k p hp
  rcases Bool.or_eq_true_iff.mp this with q | q
  · exact .inl (by simpa using q)
  · exact .inr (by simpa using q)

theorem AOk.room {A : Around} {n : Nat} (a : AOk A (n + 1)) : A.handled = none ∧ A.depth + 3 * n + 5 < recursionLimit ∧ A.units + 10 * n + 84 < cLine := ⟨a.hd, by have := a.dp; omega, by have := a.un; omega⟩

/-- a def is called: what its body comes to -/
theorem run_fn {a : Addr} {o : Obj} {fd : FuncData} {d : DefRec} {ws : List Value} {vs : List V} {f : Fl} {L' : Loc} (G : GoodF T CA B (model prog w) n F) (ao : A.handled = none ∧ A.depth + 3 * n + 5 < recursionLimit ∧ A.units + 10 * n + 84 < cLine) (hl : B.NoLimit)
    (ho : B.get? a = some o) (hd : o.data = .func fd) (hp : fd.params = d.params) (hb : fd.body = .stmts d.body) (hsc : fd.scope = d.scope) (hcl : fd.closure = []) (hgl : fd.globals = mainGlobals) (hbi : fd.builtins = builtinsNs) (hcr : B.CodeRec fd.code fd.qualname)
    (ok : okFn T d = true) (hbind : bindArgs fd ⟨ws, []⟩ = pure ((d.params.args.map (·.arg)).zip ws)) (he : exs F.ex (bindP (d.params.args.map (·.arg)) vs) σ d.body = some (f, L', σ'))
    (I : Inv CA B s.heap ρ σ) (x : VAll s.heap ρ vs ws) {R : Result → Shared → Prop}
    (k : ∀ fl h' tk ρ', Inv CA B h' ρ' σ' → Go No s.heap ρ h' ρ' → FlIn h' ρ' f fl → R (.ok (.ret (match fl with | .ret v => v | _ => .none))) { s with heap := h', toks := tk }) : codeAny (model prog w) A (.call (.ref a) ⟨ws, []⟩) R s := by
  obtain ⟨p1, p2, p3, p4, p5, p6, p7, p8, p9, p10⟩ := okFn_parts ok
  have hk0 : ∀ p ∈ d.params.args, fd.scope.names.lookup p.arg = some .local ∨ fd.scope.names.lookup p.arg = some .cell := by rw [hsc]; exact p9
  refine codeAny_call_cells (by have := ao.2.1; omega) (I.keep _ _ ho) hd (hl.keeps I.keep) ?_ hb hbind hcl ?_ (fun s1 y => ?_) (by rw [hsc]; exact p2) (by rw [hsc]; exact p3) (by rw [hsc]; exact p1)
  · obtain ⟨c, oc, vs', t, e1, e2, e3⟩ := hcr
    exact ⟨c, oc, vs', t, e1, I.keep _ _ e2, e3⟩
  · intro z hz
    obtain ⟨p, hp', hq⟩ := List.mem_map.mp (List.of_mem_zip (show (z.1, z.2) ∈ _ from hz)).1
    have := hk0 p hp'
    rw [hq] at this
    rcases this with q | q
    · exact .inl q
    · exact .inr ⟨q, cellsFrom_some _ _ _ (.inl q)⟩
  · have l := frame_in (fd := fd) (a := a) I x p8 hk0 y
    obtain ⟨h1, tk1, rfl, kp⟩ := y.done
    have g1 : Go No s.heap ρ h1 ρ := Go.grow kp
    have I1 : Inv CA B h1 ρ σ := I.grow kp
    have eo : EnvOk (callEnvC fd s.heap.objs.size a) := ⟨by show fd.scope.kind = _; rw [hsc]; exact p1, hgl, hbi⟩
    have ao' : AOk (A.deeper (callEnvC fd s.heap.objs.size a)) n := ⟨ao.1, by show A.depth + 1 + _ + _ < _; have := ao.2.1; omega, by show A.units + 3 + _ + _ < _; have := ao.2.2; omega⟩
    refine exs_ok (m := 60) G ao' eo (by show d.body.all (okS T 60 fd.scope) = true; rw [hsc]; exact p10) he I1 l _ _ fun fl h' tk ρ' I2 g2 l2 hf => ?_
    refine k fl h' tk ρ' I2 ⟨fun b o e hb _ => ?_, fun b o e => ?_, ?_⟩ hf
    · refine g2.ext b o (kp b o e) hb fun hX => ?_
      have hlt := Heap.lt_size e
      rcases hX with q | ⟨z, hz⟩
      · rw [q] at hlt; exact absurd hlt (Nat.lt_irrefl _)
      · have := y.above z b (mem_of_lookup hz)
        exact absurd hlt (Nat.lt_asymm this)
    · exact g2.live b o (kp b o e)
    · obtain ⟨τ, e, hτ⟩ := g2.pre
      refine ⟨τ, e, fun p hp => ?_⟩
      cases q : s.heap.get? p.2 with
      | none => rfl
      | some o' => have := hτ p hp; rw [kp _ _ q] at this; cases this

theorem call_fn {a : Addr} {d : DefRec} {ws : List Value} {vs : List V} {r : V} (G : GoodF T CA B (model prog w) n F) (ao : AOk A (n + 1)) (hl : B.NoLimit) (fa : FnAt T B a d) (he : callD F d vs σ = some (r, σ')) (I : Inv CA B s.heap ρ σ) (x : VAll s.heap ρ vs ws) :
    EvOk CA B (model prog w) A (call (.ref a) ws) s ρ r σ' := by
  obtain ⟨⟨o, fd, ho, hd, hp, hb, hsc, hcl, hgl, hbi, hcr, hdf⟩, ok⟩ := fa
  have pp := okFn_parts ok
  obtain ⟨p1, p2, p3, p4, p5, p6, p7, p8, p9, p10⟩ := pp
  unfold callD at he
  split at he
  · rename_i hlen
    have hbind : bindArgs fd ⟨ws, []⟩ = pure ((d.params.args.map (·.arg)).zip ws) := bind_plain (by rw [hp]; exact p4) (by rw [hp]; exact p5) (by rw [hp]; exact p6) (by rw [hp]; exact p7) (by rw [hp]) hdf p8 (by rw [x.length, hlen])
    intro Q E k
    split at he
    · rename_i v L1 σ1 h1
      have he' : gc σ v σ1 = (r, σ') := Option.some.inj he
      refine wpAny_call (run_fn G ao.room hl ho hd hp hb hsc hcl hgl hbi hcr ok hbind h1 I x fun fl h' tk ρ' I2 g2 hf => ?_)
      cases fl <;> first | exact hf.elim | skip
      obtain ⟨τ, e, hτ⟩ := g2.pre
      subst e
      obtain ⟨ρ2, J, g3, hV⟩ := gc_ok he' I I2 g2 hf
      exact k _ h' tk ρ2 J g3 hV
    · rename_i L1 σ1 h1
      have he' : gc σ .none σ1 = (r, σ') := Option.some.inj he
      refine wpAny_call (run_fn G ao.room hl ho hd hp hb hsc hcl hgl hbi hcr ok hbind h1 I x fun fl h' tk ρ' I2 g2 hf => ?_)
      cases fl <;> first | exact hf.elim | skip
      obtain ⟨τ, e, hτ⟩ := g2.pre
      subst e
      obtain ⟨ρ2, J, g3, hV⟩ := gc_ok (u := .none) he' I I2 g2 .none
      exact k _ h' tk ρ2 J g3 hV
    · cases he
  · cases he
end
end Mine
end
section
open PySem PySem.W PyProof.Rows PySem.Calls
set_option linter.unusedSectionVars false
namespace Mine
variable [Hid]
section
variable {T : Tbl} {CA : Str → Option Addr} {K : Frag} {mg mb : Str → Option Value} {B : Heap} {prog : Program} {w : World} {A : Around} {n : Nat} {F : Funs} {s : Shared} {ρ τ : Rho} {σ σ' : Sto} {env : Env} {L : Loc} {d : V} {h h0 : Heap}

theorem lookup_rev {l : List (Str × Value)} (nd : (l.map (·.1)).Nodup) (x : Str) : l.reverse.lookup x = l.lookup x := by
  induction l with
  | nil => rfl
  | cons p l ih =>
    obtain ⟨y, v⟩ := p
    rw [List.map_cons, List.nodup_cons] at nd
    rw [List.reverse_cons, List.lookup_append, ih nd.2, List.lookup_cons, List.lookup_cons]
    cases q : x == y with
    | false => cases l.lookup x <;> rfl
    | true =>
      have e : x = y := by simpa using q
      have : l.lookup x = none := by
        cases hq : l.lookup x with
        | none => rfl
        | some u => exact absurd (List.mem_map_of_mem (f := (·.1)) (mem_of_lookup hq)) (e ▸ nd.1)
      rw [this]; rfl

theorem zip_fst_nodup {xs : List Str} : ∀ {ws : List Value}, xs.Nodup → ((xs.zip ws).map (·.1)).Nodup := by
  induction xs with
  | nil => intro ws _; exact List.nodup_nil
  | cons x xs ih =>
    intro ws nd
    cases ws with
    | nil => exact List.nodup_nil
    | cons w ws =>
      rw [List.nodup_cons] at nd
      rw [List.zip_cons_cons, List.map_cons, List.nodup_cons]
      refine ⟨fun hm => ?_, ih nd.2⟩
      obtain ⟨p, hp, e⟩ := List.mem_map.mp hm
      have := (List.of_mem_zip (show (p.1, p.2) ∈ _ from hp)).1
      rw [e] at this
      exact nd.1 this

/-- a def without cells, its arguments bound by way of its defaults -/
theorem run_fn0 {a : Addr} {o : Obj} {fd : FuncData} {d : DefRec} {ws us : List Value} {vs : List V} {f : Fl} {L' : Loc} (G : GoodF T CA B (model prog w) n F) (ao : A.handled = none ∧ A.depth + 3 * n + 5 < recursionLimit ∧ A.units + 10 * n + 84 < cLine) (hl : B.NoLimit)
    (ho : B.get? a = some o) (hd : o.data = .func fd) (hb : fd.body = .stmts d.body) (hsc : fd.scope = d.scope) (hcl : fd.closure = []) (hgl : fd.globals = mainGlobals) (hbi : fd.builtins = builtinsNs) (hcr : B.CodeRec fd.code fd.qualname)
    (ok : okFn T d = true) (hcell : ∀ x ∈ d.scope.names, x.2 ≠ .cell) (hbind : BindsTo s fd ⟨ws, []⟩ ((d.params.args.map (·.arg)).zip us)) (he : exs F.ex (bindP (d.params.args.map (·.arg)) vs) σ d.body = some (f, L', σ'))
    (I : Inv CA B s.heap ρ σ) (x : VAll s.heap ρ vs us) {R : Result → Shared → Prop}
    (k : ∀ fl h' tk ρ', Inv CA B h' ρ' σ' → Go No s.heap ρ h' ρ' → FlIn h' ρ' f fl → R (.ok (.ret (match fl with | .ret v => v | _ => .none))) { s with heap := h', toks := tk }) : codeAny (model prog w) A (.call (.ref a) ⟨ws, []⟩) R s := by
  obtain ⟨p1, p2, p3, p4, p5, p6, p7, p8, p9, p10⟩ := okFn_parts ok
  have hloc : ∀ x ∈ (d.params.args.map (·.arg)).zip us, d.scope.names.lookup x.1 = some .local := by
    intro z hz
    obtain ⟨p, hp', hq⟩ := List.mem_map.mp (List.of_mem_zip (show (z.1, z.2) ∈ _ from hz)).1
    have := p9 p hp'
    rw [hq] at this
    rcases this with q | q
    · exact q
    · exact absurd rfl (hcell _ (mem_of_lookup q))
  refine codeAny_call_def (by have := ao.2.1; omega) (I.keep _ _ ho) hd (hl.keeps I.keep) ?_ hb hbind (by rw [hsc]; exact hcell) (by rw [hsc]; exact hloc) (fun h1 hns kp => ?_) (by rw [hsc]; exact p2) (by rw [hsc]; exact p3) (by rw [hsc]; exact p1)
  · obtain ⟨c, oc, vs', t, e1, e2, e3⟩ := hcr
    exact ⟨c, oc, vs', t, e1, I.keep _ _ e2, e3⟩
  · have g1 : Go No s.heap ρ h1 ρ := Go.grow kp
    have I1 : Inv CA B h1 ρ σ := I.grow kp
    have eo : EnvOk (callEnv fd s.heap.objs.size a) := ⟨by show fd.scope.kind = _; rw [hsc]; exact p1, hgl, hbi⟩
    have ao' : AOk (A.deeper (callEnv fd s.heap.objs.size a)) n := ⟨ao.1, by show A.depth + 1 + _ + _ < _; have := ao.2.1; omega, by show A.units + 3 + _ + _ < _; have := ao.2.2; omega⟩
    have hcells : (callEnv fd s.heap.objs.size a).cells = [] := hcl
    have l : LocIn B h1 ρ (callEnv fd s.heap.objs.size a) (bindP (d.params.args.map (·.arg)) vs) := by
      refine ⟨⟨_, hns⟩, fun p hp q => ?_, fun z d' hz hv => ?_, fun z hz => ?_, fun z c hz => ?_, fun z z' c hz => ?_, fun b hb' => ?_⟩
      · obtain ⟨o, e, _⟩ := I.at hp
        have h1 := Heap.lt_size e
        rw [← q] at h1
        exact absurd h1 (Nat.lt_irrefl _)
      · obtain ⟨v, e, hV⟩ := zip_look x hz
        refine ⟨v, hV.mono Soft.no I g1, .inl ⟨?_, _, hns, ?_⟩⟩
        · show fd.scope.names.lookup z = _
          rw [hsc]
          exact hloc (z, v) (mem_of_lookup e)
        · show List.lookup z _ = _
          rw [lookup_rev (zip_fst_nodup p8)]; exact e
      · have hz' : fd.scope.names.lookup z = some .cell := hz
        rw [hsc] at hz'
        exact absurd rfl (hcell _ (mem_of_lookup hz'))
      · rw [hcells] at hz; cases hz
      · rw [hcells] at hz; cases hz
      · have hge : s.heap.objs.size ≤ b := by
          rcases hb' with rfl | ⟨x, hx⟩
          · exact Nat.le_refl _
          · rw [hcells] at hx; cases hx
        cases q : B.get? b with
        | none => rfl
        | some o => exact absurd (Heap.lt_size (I.keep _ _ q)) (Nat.not_lt.mpr hge)
    refine exs_ok (m := 60) G ao' eo (by show d.body.all (okS T 60 fd.scope) = true; rw [hsc]; exact p10) he I1 l _ _ fun fl h' tk ρ' I2 g2 l2 hf => ?_
    refine k fl h' tk ρ' I2 ⟨fun b o e hb _ => ?_, fun b o e => ?_, ?_⟩ hf
    · refine g2.ext b o (kp b o e) hb fun hX => ?_
      have hlt := Heap.lt_size e
      rcases hX with q | ⟨z, hz⟩
      · rw [q] at hlt; exact absurd hlt (Nat.lt_irrefl _)
      · rw [hcells] at hz; cases hz
    · exact g2.live b o (kp b o e)
    · obtain ⟨τ, e, hτ⟩ := g2.pre
      refine ⟨τ, e, fun p hp => ?_⟩
      cases q : s.heap.get? p.2 with
      | none => rfl
      | some o' => have := hτ p hp; rw [kp _ _ q] at this; cases this

theorem mk_ok {c : Str} {C : Addr} {vs : List V} {ws : List Value} {r : V} (g : Gnd T CA K mg mb B) (G : GoodF T CA B (model prog w) n F) (ao : AOk A (n + 1)) (hC : CA c = some C) (he : mkC T F c vs σ = some (r, σ')) (I : Inv CA B s.heap ρ σ) (x : VAll s.heap ρ vs ws) :
    EvOk CA B (model prog w) A (call (.ref C) ws) s ρ r σ' := by
  unfold mkC at he
  split at he
  · rename_i d hd
    obtain ⟨f, o, fd, hi, hf, hof, hfd, hb, hsc, hcl, hgl, hbi, hcr, ok, hcell, hdf, hbind⟩ := g.init c C d hd hC
    obtain ⟨_, _, _, hmk, _⟩ := g.cset c C hC
    dsimp only at he
    split at he
    · rename_i hlen
      split at he
      · rename_i L1 σ1 h1
        have he' : gc σ (.obj σ.length) σ1 = (r, σ') := Option.some.inj he
        intro Q E k
        refine wpAny_call ?_
        obtain ⟨hh, gg, dd, tt, oo⟩ := s
        dsimp only at I x
        have X : K.In hh := g.X.keeps I.keep
        refine make_core (makes_of X hmk) (looks_findIn X hi) (fun self => bind_fn X self (beq_iff_eq.mp hf)) (.inl rfl) ?_
        -- the object and its dict
        have k1 : ∀ b o, hh.get? b = some o → ((hh.push emptyDict).push (instObj C hh.objs.size)).get? b = some o := fun b o e => Heap.get?_push_of_some _ (Heap.get?_push_of_some _ e)
        generalize hH : (hh.push emptyDict).push (instObj C hh.objs.size) = H at k1
        have hdx : H.get? hh.objs.size = some (dictOf [] 0) := by rw [← hH]; exact Heap.get?_push_of_some _ (Heap.get?_push_size _ rfl)
        have hx : H.get? (hh.objs.size + 1) = some (instObj C hh.objs.size) := by
          rw [← hH, show hh.objs.size + 1 = (hh.push emptyDict).objs.size from (Heap.size_push ..).symm]; exact Heap.get?_push_size _ rfl
        obtain ⟨n1, n2⟩ := I.none_of_size
        obtain ⟨I1, g1⟩ := I.add k1 (p := (hh.objs.size + 1, hh.objs.size)) (ob := .inst c []) n1 n2 (.inst hC hx hdx True.intro)
        have hself : VIn H (ρ ++ [(hh.objs.size + 1, hh.objs.size)]) (.obj σ.length) (.ref (hh.objs.size + 1)) := by
          refine VIn.obj (p := (hh.objs.size + 1, hh.objs.size)) ?_
          rw [← I.len, List.getElem?_append_right (Nat.le_refl _)]; simp
        have xl := x.length
        obtain ⟨us, hus, hbd⟩ := hbind (.ref (hh.objs.size + 1) :: ws) ⟨H, gg, dd, tt, oo⟩ I1.keep (by
          simp only [List.length_cons, List.length_append] at hlen ⊢
          rw [xl, show d.params.args.length - (vs.length + 1) = d.params.args.length - 1 - vs.length by omega]; omega)
        rw [List.length_cons, xl, show d.params.args.length - (vs.length + 1) = d.params.args.length - 1 - vs.length by omega] at hus
        have hfree : ∀ (l : List V) (k : Nat), freeL l = true → freeL (l.drop k) = true := by
          intro l
          induction l with
          | nil => intro k _; simp [freeL]
          | cons a l ih =>
            intro k hk
            cases k with
            | zero => exact hk
            | succ k => rw [freeL, Bool.and_eq_true] at hk; exact ih k hk.2
        have hus' : VAll H (ρ ++ [(hh.objs.size + 1, hh.objs.size)]) ((T.dfl c).drop ((T.dfl c).length - (d.params.args.length - 1 - vs.length))) us :=
          VAll.hide I1 hus
        have hall := VAll.cons hself ((x.mono Soft.no I g1).append hus')
        refine run_fn0 (A := A.under _) (us := .ref (hh.objs.size + 1) :: (ws ++ us)) G ⟨ao.hd, ?_, ?_⟩ g.nolimit hof hfd hb hsc hcl hgl hbi hcr ok hcell hbd h1 I1 hall fun fl h' tk ρ' I2 g2 hfl => ?_
        · rw [depth_under_make]; have := ao.dp; omega
        · show A.units + 1 + _ + _ < _
          have := ao.un; omega
        · cases fl <;> first | exact hfl.elim | skip
          refine ⟨rfl, ?_⟩
          have g12 := g1.trans g2
          obtain ⟨τ, e, hτ⟩ := g12.pre
          subst e
          have hself' := hself.mono Soft.no I1 g2
          obtain ⟨ρ2, J, g3, hV⟩ := gc_ok he' I I2 g12 hself'
          exact k _ h' tk ρ2 J g3 hV
      · cases he
    · cases he
  · cases he
end
end Mine
end
section
open PySem PySem.W PyProof.Rows PySem.Calls
set_option linter.unusedSectionVars false
namespace Mine
variable [Hid]
section
variable {T : Tbl} {CA : Str → Option Addr} {K : Frag} {mg mb : Str → Option Value} {B : Heap} {prog : Program} {w : World} {A : Around} {n : Nat} {F : Funs} {s : Shared} {ρ τ : Rho} {σ σ' : Sto} {env : Env} {L : Loc} {d : V} {h h0 : Heap}

def Keeper' (prog : Program) (w : World) (B : Heap) (f : Value) : Prop := ∀ h : Heap, (∀ b o, B.get? b = some o → h.get? b = some o) → ∃ k, (k = Keeper.frame ∨ k = Keeper.machine ∨ k = Keeper.boundFrame) ∧ Looks (model prog w) h (keeperOf f) k

theorem keep_bi (b : Bi) : Keeper' prog w B (biV b) := fun h _ => ⟨.machine, .inr (.inl rfl), by cases b <;> exact Looks.of_pure rfl⟩
theorem keep_builtin (id : String) : Keeper' prog w B (.builtin id) := fun h _ => ⟨.machine, .inr (.inl rfl), Looks.of_pure rfl⟩
theorem keep_fn {a : Addr} {o : Obj} {fd : FuncData} (ho : B.get? a = some o) (hd : o.data = .func fd) : Keeper' prog w B (.ref a) := fun h k => by
  refine ⟨.frame, .inl rfl, (Looks.ld (part := none) (k _ _ ho)).andThen ?_⟩
  simp only [hd]
  exact .now
theorem keep_cls {C : Addr} (X : K.In B) (hk : keepIn K (.ref C) = true) : Keeper' prog w B (.ref C) := fun h k => keeps_K hk h (X.keeps k)

theorem callW {f : Value} {first : List Value} {args : List Expr} {vs : List V} {m : Nat} {pos : Pos} (G : GoodF T CA B (model prog w) n F) (ao : AOk A n) (eo : EnvOk env) (hk : Keeper' prog w B f) (ok : args.all (fun e => okE T m env.scope e && !isStar e) = true)
    (he : evs (F.ev L) σ args = some (vs, σ')) (I : Inv CA B s.heap ρ σ) (l : LocIn B s.heap ρ env L) {Q E : Value → Shared → Prop}
    (k : ∀ ws h' tk ρ', Inv CA B h' ρ' σ' → Go No s.heap ρ h' ρ' → VAll h' ρ' vs ws → wpAny (model prog w) A (call f (first ++ ws)) Q E { s with heap := h', toks := tk }) :
    wpAny (model prog w) A (callWith pos f first (backTo pos (starEach args env)) []) Q E s := by
  have hpl : (backTo pos (starEach args env)).any (·.1) = false := backTo_plain (by
    rw [List.all_eq_true] at ok ⊢
    intro e he
    have := ok e he
    rw [Bool.and_eq_true] at this
    exact this.2)
  refine callWith_of (P := fun h => ∀ b o, B.get? b = some o → h.get? b = some o) (by rw [hpl]; rfl) hk ?_
  cases args with
  | nil =>
    cases he
    refine evalArgs_nil3 ⟨I.keep, ?_⟩
    exact k [] s.heap s.toks ρ I Go.refl .nil
  | cons e args =>
    have hs : isStar e = false := by
      simp only [List.all_cons, Bool.and_eq_true] at ok
      simpa using ok.1.2
    have key := evs_ok (pos := pos) (m := m) G ao eo ok he I l
    rw [starEach_cons hs, backTo_cons] at key ⊢
    refine evalArgs_plain (key _ _ fun ws h' tk ρ' I1 g1 hw => ⟨I1.keep, ?_⟩)
    exact k ws h' tk ρ' I1 g1 hw

theorem callN_ok {x : Str} {q pos : Pos} {args : List Expr} {vs : List V} {m : Nat} {σ1 : Sto} (g : Gnd T CA K mg mb B) (G : GoodF T CA B (model prog w) n F) (ao : AOk A (n + 1)) (eo : EnvOk env) (okx : x != Str.ofString "__debug__" && env.scope.names.lookup x == some .globalImplicit)
    (ok : args.all (fun e => okE T m env.scope e && !isStar e) = true) (h1 : evs (F.ev L) σ args = some (vs, σ1)) (he : callN T F x vs σ1 = some (d, σ')) (I : Inv CA B s.heap ρ σ) (l : LocIn B s.heap ρ env L) :
    EvOk CA B (model prog w) A (eval (.Call (.Name x q) args [] pos) env) s ρ d σ' := by
  rw [Bool.and_eq_true] at okx
  have hd : (x == ("__debug__" : Str)) = false := by simpa using okx.1
  have hg : env.kindOf x = some .globalImplicit := beq_iff_eq.mp okx.2
  intro Q E k
  unfold callN at he
  split at he
  · rename_i b hb
    obtain ⟨v, hv, e⟩ := Option.map_eq_some_iff.mp he
    cases e
    obtain ⟨m1, m2⟩ := g.bi x b hb
    refine wpAny_Call_NameR (Name_function_global eo.kind hg (loadGlobal_builtin (by rw [eo.gl]; exact g.ns I) m1 (by rw [eo.bi]; exact g.nb I) m2 ?_) hd)
    refine callW G ao.down eo (keep_bi b) ok h1 I l fun ws h' tk ρ' I1 g1 hw => ?_
    exact (biC_ok ao g.ro hv I1 hw).mono g1 k
  · rename_i df hf
    obtain ⟨a, ha, fa⟩ := g.fn x df hf
    obtain ⟨o, fd, ho, hdd, _⟩ := fa.at_
    refine wpAny_Call_NameR (Name_function_global eo.kind hg (loadGlobal_global (by rw [eo.gl]; exact g.ns I) ha ?_) hd)
    refine callW G ao.down eo (keep_fn ho hdd) ok h1 I l fun ws h' tk ρ' I1 g1 hw => ?_
    exact (call_fn G ao g.nolimit fa he I1 hw).mono g1 k
  · rename_i c hc
    obtain ⟨C, hC, ha⟩ := g.cls x c hc
    obtain ⟨_, _, _, _, hkp⟩ := g.cset c C hC
    refine wpAny_Call_NameR (Name_function_global eo.kind hg (loadGlobal_global (by rw [eo.gl]; exact g.ns I) ha ?_) hd)
    refine callW G ao.down eo (keep_cls g.X hkp) ok h1 I l fun ws h' tk ρ' I1 g1 hw => ?_
    exact (mk_ok g G ao hC he I1 hw).mono g1 k
  · cases he

/-- a call of a method, by a name -/
theorem methTree {M : Model} {E : Value → Shared → Prop} {y m : Str} {q apos pos : Pos} {args : List Expr} {Q : Value → Shared → Prop} (hn : args.length < 20) (hl : (apos.endLine == pos.line) = true) (hpl : (backTo pos (starEach args env)).any (·.1) = false)
    (h : wpAny M A (eval (.Name y q) env) (fun ov s₁ => ∀ pl, wpAny M A (getMethod ov m pl) (fun fx s₂ => wpAny M A (callWith pos fx.1 fx.2 (backTo pos (starEach args env)) []) Q E s₂) E s₁) E s) :
    wpAny M A (eval (.Call (.Attribute (.Name y q) m apos) args [] pos) env) Q E s := by
  show wpAny M A (do
    let ov ← eval (.Name y q) env
    standAt apos.atName
    methodCall (.Name y q) m apos pos env ov (args.length + 0) (backTo pos (starEach args env)) []) Q E s
  refine wpAny_bind (wpAny_mono h (fun ov s₁ h₁ => wpAny_bind (wpAny_standAt ?_)) fun _ _ x => x)
  have hfew : methodCallForm (args.length + 0) (backTo pos (starEach args env)) [] = true := by
    unfold methodCallForm
    simp only [Nat.add_zero, List.all_nil, Bool.and_true, List.isEmpty_nil, if_true, Bool.and_eq_true, decide_eq_true_eq]
    refine ⟨?_, by omega⟩
    rw [List.all_eq_true]
    intro x hx
    rw [List.any_eq_false] at hpl
    simpa using hpl x hx
  unfold methodCall
  rw [hfew]
  refine wpAny_bind (wpAny_holding ?_)
  unfold calleeOf
  rw [if_pos rfl]
  refine wpAny_mono (h₁ _) (fun fx s₂ h₂ => ?_) fun _ _ x => x
  unfold methodCallPos
  rw [if_pos (by rw [hl]; rfl)]
  exact wpAny_bind (wpAny_pure h₂)
end
end Mine
end
section
open PySem PySem.W PyProof.Rows PySem.Calls
set_option linter.unusedSectionVars false
namespace Mine
variable [Hid]
section
variable {T : Tbl} {CA : Str → Option Addr} {K : Frag} {mg mb : Str → Option Value} {B : Heap} {prog : Program} {w : World} {A : Around} {n : Nat} {F : Funs} {s : Shared} {ρ τ : Rho} {σ σ' : Sto} {env : Env} {L : Loc} {d : V} {h h0 : Heap}

/-- a list of the store turned -/
theorem turn_list {a : Addr} {k : Nat} {l' : List V} {vs' : List Value} {its : Array Value} {c : Nat} (I : Inv CA B s.heap ρ σ) (hp : ρ[k]? = some (a, a)) (ha : s.heap.get? a = some (listOf its c)) (f : Array Value → Array Value) (hf : f its = vs'.toArray)
    (r : VAll s.heap ρ l' vs') : Inv CA B (s.heap.update a (Obj.mapSeq f)) ρ (σ.set k (.list l')) ∧ Go No s.heap ρ (s.heap.update a (Obj.mapSeq f)) ρ := by
  have U := PySem.IsL.update (n := c) ha f
  exact I.turn (p := (a, a)) hp (Heap.SameBut.update ..) ⟨_, U⟩ fun g => .list ⟨_, by rw [← hf]; exact U⟩ (r.mono Soft.no I g)

theorem list_of_set {vs : List Value} {l : List V} (r : VAll s.heap ρ l vs) : vs.toArray.size = l.length := by rw [List.size_toArray, r.length]

theorem noDict {a : Addr} {its : Array Value} {c : Nat} (ha : h.get? a = some (listOf its c)) : ∀ b, Value.ref a = .ref b → ∃ o, h.get? b = some o ∧ o.dict = none := fun b e => by
  cases e; exact ⟨_, ha, rfl⟩

theorem list_meth {y m : Str} {q apos pos : Pos} {args : List Expr} {k : Nat} {l0 l : List V} {vs : List V} {mm : Nat} {σ1 σ2 : Sto} (G : GoodF T CA B (model prog w) n F) (ao : AOk A n) (eo : EnvOk env)
    (hn : args.length < 20) (hl : (apos.endLine == pos.line) = true) (oky : okE T (mm + 1) env.scope (.Name y q) = true) (ok : args.all (fun e => okE T mm env.scope e && !isStar e) = true)
    (h0 : F.ev L σ (.Name y q) = some (.obj k, σ1)) (h1 : evs (F.ev L) σ1 args = some (vs, σ2)) (e0 : σ1[k]? = some (.list l0)) (e1 : σ2[k]? = some (.list l)) (he : listM m k l vs σ2 = some (d, σ'))
    (I : Inv CA B s.heap ρ σ) (lc : LocIn B s.heap ρ env L) : EvOk CA B (model prog w) A (eval (.Call (.Attribute (.Name y q) m apos) args [] pos) env) s ρ d σ' := by
  have hpl : (backTo pos (starEach args env)).any (·.1) = false := backTo_plain (by
    rw [List.all_eq_true] at ok ⊢
    intro e he
    have := ok e he
    rw [Bool.and_eq_true] at this
    exact this.2)
  intro Q E kk
  refine methTree hn hl hpl (G.ev A env L σ _ _ _ _ ao eo oky h0 s ρ I lc _ _ fun ov ha ta ρa Ia ga va => fun pl => ?_)
  obtain ⟨a, us, c, rfl, hpa, hxa, ra⟩ := Ia.list (s := { s with heap := ha, toks := ta }) e0 va
  have lc1 := lc.mono I ga
  have hT : ({ s with heap := ha, toks := ta } : Shared).TypeIs (.ref a) "list" := ⟨_, hxa, rfl⟩
  unfold listM at he
  split at he
  · rename_i hm
    subst hm
    split at he
    · rename_i v
      split at he
      · rename_i hsz
        cases he
        refine getMethod_builtin hT PySem.F.plainAttrs_list PySem.F.slot_list_append PySem.F.type_list_append (noDict hxa) ?_
        refine callW (m := mm) G ao eo (keep_builtin _) ok h1 Ia lc1 fun ws hb tb ρb Ib gb wb => ?_
        cases wb with
        | @cons _ wv _ _ w1 w2 =>
          cases w2
          have gab := ga.trans gb
          have vb := va.mono Soft.no Ia gb
          obtain ⟨a', us', c', e', hpb, hxb, rb⟩ := Ib.list (s := { s with heap := hb, toks := tb }) e1 vb
          cases e'
          have hsz' := of_decide_eq_true hsz
          refine wpAny_list_append_plain ⟨c', hxb⟩ (fun hc pc sc => ?_) (by rw [list_of_set rb]; exact most_lt (Nat.le_of_lt hsz'))
          have T := Ib.turn (p := (a, a)) (ob := .list (l ++ [v])) hpb sc (by obtain ⟨z, e⟩ := pc; exact ⟨_, e⟩) fun g => by
            have e : us'.toArray.push wv = (us' ++ [wv]).toArray := by simp
            rw [e] at pc
            exact .list pc ((rb.append (.cons w1 .nil)).mono Soft.no Ib g)
          exact kk _ hc tb ρb T.1 (gab.trans T.2) .none
      · cases he
    · cases he
  · split at he
    · rename_i hm
      subst hm
      split at he
      · rename_i j
        split at he
        · rename_i r er
          split at he
          · rename_i hc
            cases he
            rw [Bool.and_eq_true] at hc
            have hne := of_decide_eq_true hc.1
            have hsz := of_decide_eq_true hc.2
            unfold most at hsz
            refine getMethod_builtin hT PySem.F.plainAttrs_list PySem.F.slot_list_extend PySem.F.type_list_extend (noDict hxa) ?_
            cases args with
            | nil => cases h1
            | cons e args =>
              cases args with
              | cons e2 args =>
                unfold evs at h1
                split at h1
                · split at h1
                  · rename_i q2
                    cases h1
                    unfold evs at q2
                    split at q2
                    · split at q2
                      · cases q2
                      · cases q2
                    · cases q2
                  · cases h1
                · cases h1
              | nil =>
                simp only [List.all_cons, List.all_nil, Bool.and_true, Bool.and_eq_true] at ok
                have h1' : F.ev L σ1 e = some (.obj j, σ2) := by
                  unfold evs at h1
                  split at h1
                  · rename_i v s1 hv
                    simp only [evs] at h1
                    cases h1
                    exact hv
                  · cases h1
                rw [starEach_cons (by simpa using ok.2), backTo_cons]
                refine PySem.P.extend_list (G.ev A env L σ1 e _ _ mm ao eo ok.1 h1' { s with heap := ha, toks := ta } ρa Ia lc1 _ _ fun v hb tb ρb Ib gb vb => ?_)
                have gab := ga.trans gb
                have vb0 := va.mono Soft.no Ia gb
                obtain ⟨a', us', c', e', hpb, hxb, rb⟩ := Ib.list (s := { s with heap := hb, toks := tb }) e1 vb0
                cases e'
                obtain ⟨b, us2, c2, rfl, hpb2, hxb2, rb2⟩ := Ib.list (s := { s with heap := hb, toks := tb }) er vb
                have z1 := list_of_set (s := { s with heap := hb, toks := tb }) rb
                have z2 := list_of_set (s := { s with heap := hb, toks := tb }) rb2
                have hs1 : us'.toArray.size + us2.toArray.size ≤ sizeLine := by rw [z1, z2, sizeLine_val]; omega
                have hT2 := turn_list (s := { s with heap := hb, toks := tb }) (l' := l ++ r) (vs' := us' ++ us2) Ib hpb hxb (fun xs => xs ++ us2.toArray) (by simp) (rb.append rb2)
                refine ⟨b, us'.toArray, us2.toArray, c', c2, by omega, by omega, ?_, rfl, hxb, hxb2, ?_⟩
                · intro q
                  simp only [Bool.and_eq_true, Builtin.List.listTooLong, decide_eq_true_eq] at q
                  omega
                · exact kk _ _ tb ρb hT2.1 (gab.trans hT2.2) .none
          · cases he
        · cases he
      · cases he
    · split at he
      · rename_i hm
        subst hm
        split at he
        · split at he
          · rename_i v hv
            split at he
            · rename_i hc
              cases he
              rw [Bool.and_eq_true] at hc
              have hsz := of_decide_eq_true hc.2
              refine getMethod_builtin hT PySem.F.plainAttrs_list PySem.F.slot_list_pop PySem.F.type_list_pop (noDict hxa) ?_
              cases args with
              | cons e args =>
                unfold evs at h1
                split at h1
                · split at h1
                  · cases h1
                  · cases h1
                · cases h1
              | nil =>
                cases h1
                rw [e0] at e1
                cases e1
                have hg : l0[l0.length - 1]? = some d := by rw [← hv, List.getLast?_eq_getElem?]
                obtain ⟨u, hu, hV⟩ := ra.get hg
                have z1 := list_of_set (s := { s with heap := ha, toks := ta }) ra
                have hlen := ra.length
                have hT2 := turn_list (s := { s with heap := ha, toks := ta }) (l' := l0.dropLast) (vs' := us.dropLast) Ia hpa hxa (fun xs => xs.eraseIdxIfInBounds (us.toArray.size - 1)) (by
                  rw [List.eraseIdxIfInBounds_toArray, List.size_toArray]
                  congr 1
                  have hpos : 0 < us.length := by
                    have := (List.getElem?_eq_some_iff.mp hu).1; omega
                  rw [List.eraseIdx_eq_dropLast (by omega)]) ra.dropLast
                refine PySem.P.pop_list (y := u) hxa ?_ ?_ (by rw [z1]; exact most_lt hsz)
                · rw [z1, ← hlen]; rw [← hlen] at hu; simpa using hu
                · exact kk _ _ ta ρa hT2.1 (ga.trans hT2.2) (hV.mono Soft.no Ia hT2.2)
            · cases he
          · cases he
        · cases he
      · cases he
end
end Mine
end
section
open PySem PySem.W PyProof.Rows PySem.Calls
set_option linter.unusedSectionVars false
namespace Mine
variable [Hid]
section
variable {T : Tbl} {CA : Str → Option Addr} {K : Frag} {mg mb : Str → Option Value} {B : Heap} {prog : Program} {w : World} {A : Around} {n : Nat} {F : Funs} {s : Shared} {ρ τ : Rho} {σ σ' : Sto} {env : Env} {L : Loc} {d : V} {h h0 : Heap}

theorem FsIn.lookNone {h : Heap} {a : Str} : ∀ {fs : List (Str × V)} {es : List DictEntry}, FsIn h ρ fs es → fs.lookup a = none → getL a es = some none
  | [], [], _, _ => rfl
  | (x, d') :: fs, e :: es, ⟨⟨t, hk⟩, hV, r⟩, hl => by
    have hx : e.key.isStr a = (x == a) := by rw [hk]; rfl
    rw [List.lookup_cons] at hl
    by_cases q : x = a
    · subst q
      simp only [beq_self_eq_true] at hl
      cases hl
    · have q1 : (x == a) = false := by simpa using q
      have q2 : (a == x) = false := by simpa using (Ne.symm q)
      rw [q2] at hl
      have ih := FsIn.lookNone r hl
      unfold getL at ih ⊢
      rw [List.find?_cons, hx, q1]
      dsimp only
      cases hf : es.find? (fun x => x.key.isStr a) with
      | some e' => rw [hf] at ih; cases ih
      | none =>
        rw [hf] at ih
        dsimp only at ih ⊢
        have hr : e.refKey = false := by unfold DictEntry.refKey; rw [hk]
        rw [List.any_cons, hr]
        exact ih

theorem inst_meth {y m : Str} {q apos pos : Pos} {args : List Expr} {k : Nat} {c : Str} {fs : List (Str × V)} {df : DefRec} {vs : List V} {mm : Nat} {σ1 σ2 : Sto} (g : Gnd T CA K mg mb B) (G : GoodF T CA B (model prog w) n F) (ao : AOk A (n + 1)) (eo : EnvOk env)
    (hn : args.length < 20) (hl : (apos.endLine == pos.line) = true) (oky : okE T (mm + 1) env.scope (.Name y q) = true) (ok : args.all (fun e => okE T mm env.scope e && !isStar e) = true)
    (h0 : F.ev L σ (.Name y q) = some (.obj k, σ1)) (h1 : evs (F.ev L) σ1 args = some (vs, σ2)) (e0 : σ1[k]? = some (.inst c fs)) (hfs : fs.lookup m = none) (hm : m ≠ Str.ofString "__init__") (hd : T.meth c m = some df) (he : callD F df (.obj k :: vs) σ2 = some (d, σ'))
    (I : Inv CA B s.heap ρ σ) (lc : LocIn B s.heap ρ env L) : EvOk CA B (model prog w) A (eval (.Call (.Attribute (.Name y q) m apos) args [] pos) env) s ρ d σ' := by
  have hpl : (backTo pos (starEach args env)).any (·.1) = false := backTo_plain (by
    rw [List.all_eq_true] at ok ⊢
    intro e he
    have := ok e he
    rw [Bool.and_eq_true] at this
    exact this.2)
  intro Q E kk
  refine methTree hn hl hpl (G.ev A env L σ _ _ _ _ ao.down eo oky h0 s ρ I lc _ _ fun ov ha ta ρa Ia ga va => fun pl => ?_)
  obtain ⟨x, dx, C, es, j, rfl, hpx, hc, hx, hdx, hfi⟩ := Ia.inst (s := { s with heap := ha, toks := ta }) e0 va
  obtain ⟨f, m1, m2, m3, fa⟩ := g.meth c C m df hd hc hm
  obtain ⟨o, fd, ho, hdd, _⟩ := fa.at_
  have It : InstAt ha x (instObj C dx) C (some (dictOf es j)) := ⟨hx, rfl, rfl, hdx⟩
  refine method_fn (g.X.keeps Ia.keep) It (plainGet_of m3).1 (plainGet_of m3).2 m1 (beq_iff_eq.mp m2) (by show (lookIn m (dictOf es j)).map _ = _; rw [lookIn_dict, hfi.lookNone hfs]; rfl) ?_
  refine callW (m := mm) G ao.down eo (keep_fn ho hdd) ok h1 Ia (lc.mono I ga) fun ws hb tb ρb Ib gb wb => ?_
  exact (call_fn G ao g.nolimit fa he Ib (.cons (va.mono Soft.no Ia gb) wb)).mono (ga.trans gb) kk

theorem methC_ok {y m : Str} {q apos pos : Pos} {args : List Expr} {mm : Nat} {ov : V} {σ1 : Sto} (g : Gnd T CA K mg mb B) (G : GoodF T CA B (model prog w) n F) (ao : AOk A (n + 1)) (eo : EnvOk env)
    (hn : args.length < 20) (hl : (apos.endLine == pos.line) = true) (oky : okE T (mm + 1) env.scope (.Name y q) = true) (ok : args.all (fun e => okE T mm env.scope e && !isStar e) = true)
    (h0 : F.ev L σ (.Name y q) = some (ov, σ1)) (he : methC T F m ov σ1 (evs (F.ev L) σ1 args) = some (d, σ'))
    (I : Inv CA B s.heap ρ σ) (lc : LocIn B s.heap ρ env L) : EvOk CA B (model prog w) A (eval (.Call (.Attribute (.Name y q) m apos) args [] pos) env) s ρ d σ' := by
  unfold methC at he
  split at he
  · rename_i k
    split at he
    · rename_i l0 e0
      split at he
      · rename_i vs σ2 h1
        split at he
        · rename_i l e1
          exact list_meth G ao.down eo hn hl oky ok h0 h1 e0 e1 he I lc
        · cases he
      · cases he
    · rename_i c fs e0
      split at he
      · cases he
      · rename_i hfs
        split at he
        · cases he
        · rename_i hm
          split at he
          · rename_i df hd
            split at he
            · rename_i vs σ2 h1
              exact inst_meth g G ao eo hn hl oky ok h0 h1 e0 hfs hm hd he I lc
            · cases he
          · cases he
    · cases he
  · cases he
end
end Mine
end
section
open PySem PySem.W PyProof.Rows PySem.Calls
set_option linter.unusedSectionVars false
namespace Mine
variable [Hid]
section
variable {T : Tbl} {CA : Str → Option Addr} {K : Frag} {mg mb : Str → Option Value} {B : Heap} {prog : Program} {w : World} {A : Around} {n : Nat} {F : Funs} {s : Shared} {ρ τ : Rho} {σ σ' : Sto} {env : Env} {L : Loc} {d : V} {h h' h0 : Heap} {P Y : Addr → Prop}

/-- what no value looks at: frames, cells, iterators, a zip's own tuple -/
def Aside (P : Addr → Prop) (h : Heap) (b : Addr) : Prop := ∃ o, h.get? b = some o ∧ ((∃ es n, o.data = .dict es n) ∨ (∃ v, o.data = .cell v) ∨ ((∃ fs, o.data = .fields fs) ∧ o.cls ≠ .type "range") ∨ (P b ∧ o.cls = .type "tuple" ∧ ∃ its n, o.data = .seq its n))

/-- only what Y names has changed -/
structure But (P Y : Addr → Prop) (B : Heap) (h : Heap) (ρ : Rho) (h' : Heap) : Prop where
  ext : ∀ b o, h.get? b = some o → ¬ Y b → h'.get? b = some o
  aside : ∀ b, Y b → Aside P h b
  nb : ∀ b, Y b → B.get? b = none
  off : ∀ b, Y b → ∀ p ∈ ρ, b ≠ p.2

theorem But.tup (g : But P Y B h ρ h') {a : Addr} {vs : Array Value} (x : IsTup h a vs) (hh : ¬ P a) : IsTup h' a vs := by
  obtain ⟨o, e, hc, n, hd⟩ := x
  refine ⟨o, g.ext a o e fun hY => ?_, hc, n, hd⟩
  obtain ⟨o', e', q⟩ := g.aside a hY
  rw [e] at e'; cases e'
  rw [hd] at q
  rcases q with ⟨_, _, q⟩ | ⟨_, q⟩ | ⟨⟨_, q⟩, _⟩ | ⟨q, _⟩
  · cases q
  · cases q
  · cases q
  · exact hh q
theorem But.obj (g : But P Y B h ρ h') {a : Addr} {o : Obj} (e : h.get? a = some o) (hd : o.data = .plain) : h'.get? a = some o := by
  refine g.ext a o e fun hY => ?_
  obtain ⟨o', e', q⟩ := g.aside a hY
  rw [e] at e'; cases e'
  rw [hd] at q
  rcases q with ⟨_, _, q⟩ | ⟨_, q⟩ | ⟨⟨_, q⟩, _⟩ | ⟨_, _, _, _, q⟩ <;> cases q
theorem But.range (g : But P Y B h ρ h') {r : Addr} {a b c : Int} {t u v : Tok} (x : IsRange h r a b c t u v) : IsRange h' r a b c t u v := by
  refine g.ext r _ x fun hY => ?_
  obtain ⟨o', e', q⟩ := g.aside r hY
  rw [show h.get? r = _ from x] at e'; cases e'
  rcases q with ⟨_, _, q⟩ | ⟨_, q⟩ | ⟨_, q⟩ | ⟨_, q, _⟩
  · cases q
  · cases q
  · exact q rfl
  · simp at q

section
variable {H1 H2 : Hid} (p1 : ∀ a, P a → H1.H a) (p2 : ∀ a, H2.H a → H1.H a)
include p1 p2
mutual
theorem VIn.but (g : But P Y B h ρ h') : ∀ {d : V} {v : Value}, @VIn H1 h ρ d v → @VIn H2 h' ρ d v
  | _, _, @VIn.none H1 _ _ => @VIn.none H2 _ _
  | _, _, @VIn.bool H1 _ _ b => @VIn.bool H2 _ _ b
  | _, _, @VIn.int H1 _ _ i t => @VIn.int H2 _ _ i t
  | _, _, @VIn.str H1 _ _ x t => @VIn.str H2 _ _ x t
  | _, _, @VIn.tup H1 _ _ _ _ _ ht r hh => @VIn.tup H2 _ _ _ _ _ (g.tup ht fun q => hh (p1 _ q)) (VAll.but g r) fun q => hh (p2 _ q)
  | _, _, @VIn.obj H1 _ _ _ _ e => @VIn.obj H2 _ _ _ _ e
  | _, _, @VIn.rng H1 _ _ _ _ _ _ _ _ r => @VIn.rng H2 _ _ _ _ _ _ _ _ (g.range r)
  | _, _, @VIn.lst H1 _ _ a => @VIn.lst H2 _ _ a
theorem VAll.but (g : But P Y B h ρ h') : ∀ {l : List V} {vs : List Value}, @VAll H1 h ρ l vs → @VAll H2 h' ρ l vs
  | _, _, @VAll.nil H1 _ _ => @VAll.nil H2 _ _
  | _, _, @VAll.cons H1 _ _ _ _ _ _ a r => @VAll.cons H2 _ _ _ _ _ _ (VIn.but g a) (VAll.but g r)
end
theorem FsIn.but (g : But P Y B h ρ h') : ∀ {fs : List (Str × V)} {es : List DictEntry}, @FsIn H1 h ρ fs es → @FsIn H2 h' ρ fs es
  | [], [], _ => True.intro
  | (_, _) :: _, _ :: _, ⟨a, b, c⟩ => ⟨a, VIn.but p1 p2 g b, FsIn.but g c⟩

theorem Inv.but (I : @Inv H1 CA B h ρ σ) (g : But P Y B h ρ h') (hid : ∀ a, H2.H a → ∃ o, h'.get? a = some o ∧ o.cls = .type "tuple" ∧ ∃ its n, o.data = .seq its n) : @Inv H2 CA B h' ρ σ := by
  obtain ⟨Ikeep, Ilen, Iobs, Ind, Ifr, Ihid⟩ := I
  refine @Inv.mk H2 CA B h' ρ σ (fun b o e => g.ext b o (Ikeep b o e) fun hY => by rw [g.nb b hY] at e; cases e) Ilen (fun i ob p e f => ?_) Ind Ifr fun a ha => ⟨(Ihid a (p2 a ha)).1, hid a ha⟩
  have hm := List.mem_of_getElem? f
  have hp : ∀ o, h.get? p.2 = some o → h'.get? p.2 = some o := fun o q => g.ext _ o q fun hY => g.off _ hY p hm rfl
  have := Iobs i ob p e f
  cases this with
  | list pl r => exact @ObIn.list H2 _ _ _ _ _ _ (PlainList.keep pl hp) (VAll.but p1 p2 g r)
  | inst hc hx hd hf => exact @ObIn.inst H2 _ _ _ _ _ _ _ _ _ _ hc (g.obj hx rfl) (hp _ hd) (FsIn.but p1 p2 g hf)

/-- what is aside but neither frame nor cell -/
theorem LocIn.but (l : @LocIn H1 B h ρ env L) (g : But P Y B h ρ h') (hy : ∀ b, Y b → ∀ o, h.get? b = some o → (∀ es n, o.data ≠ .dict es n) ∧ ∀ v, o.data ≠ .cell v) : @LocIn H2 B h' ρ env L := by
  have hns : ∀ m, h.Ns env.locals m → h'.Ns env.locals m := fun m ⟨o, es, ep, e, hd, r⟩ => ⟨o, es, ep, g.ext _ _ e fun hY => (hy _ hY _ e).1 _ _ hd, hd, r⟩
  have hcl : ∀ c v, h.IsCell c v → h'.IsCell c v := fun c v ⟨o, e, hd⟩ => ⟨o, g.ext _ _ e fun hY => (hy _ hY _ e).2 _ hd, hd⟩
  obtain ⟨lns, loff, lrd, lcell, lcells, lapart, lnb⟩ := l
  refine @LocIn.mk H2 B h' ρ env L (lns.elim fun m hm => ⟨m, hns m hm⟩) loff (fun x d hx hv => ?_) lcell (fun x c hx => (lcells x c hx).elim fun v hv => ⟨v, hcl c _ hv⟩) lapart lnb
  obtain ⟨v, hV, q⟩ := lrd x d hx hv
  refine ⟨v, VIn.but p1 p2 g hV, ?_⟩
  rcases q with ⟨k, m, hm, e⟩ | ⟨k, c, hc, e⟩
  · exact .inl ⟨k, m, hns m hm, e⟩
  · exact .inr ⟨k, c, hc, hcl c _ e⟩
end

theorem But.go (g : But P Y B h ρ h') (live : ∀ b o, h.get? b = some o → ∃ o', h'.get? b = some o') {X : Addr → Prop} (hX : ∀ b o, h.get? b = some o → Y b → X b) : Go X h ρ h' ρ :=
  ⟨fun b o e _ q => g.ext b o e fun hY => q (hX b o e hY), live, [], (List.append_nil _).symm, fun _ hp => nomatch hp⟩

theorem LocIn.XB (l : LocIn B h ρ env L) (I : Inv CA B h ρ σ) : ∀ b, XOf env b → Aside Hid.H h b ∧ B.get? b = none ∧ ∀ p ∈ ρ, b ≠ p.2 := fun b hb => by
  refine ⟨?_, l.nb b hb, ?_⟩
  · rcases hb with rfl | ⟨x, hx⟩
    · obtain ⟨m, o, es, ep, e, hd, _⟩ := l.ns
      exact ⟨o, e, .inl ⟨_, _, hd⟩⟩
    · obtain ⟨v, o, e, hd⟩ := l.cells x b hx
      exact ⟨o, e, .inr (.inl ⟨_, hd⟩)⟩
  · rcases hb with rfl | ⟨x, hx⟩
    · exact fun p hp => l.off p hp
    · obtain ⟨v, o, e, hd⟩ := l.cells x b hx
      exact I.offD e (by rw [hd]; simp) (by rw [hd]; simp)

/-- a name is bound -/
theorem store_ok {x : Str} {v : Value} {Q : Unit → Shared → Prop} {E : Value → Shared → Prop} (eo : EnvOk env) (hk : env.kindOf x = some .local ∨ env.kindOf x = some .cell) (I : Inv CA B s.heap ρ σ) (l : LocIn B s.heap ρ env L) (hv : VIn s.heap ρ d v)
    (k : ∀ h' tk, Inv CA B h' ρ σ → Go (XOf env) s.heap ρ h' ρ → LocIn B h' ρ env (upd L x d) → (env.kindOf x = some .local → Go (fun b => b = env.locals) s.heap ρ h' ρ) → (∀ b o, s.heap.get? b = some o → ¬ XOf env b → h'.get? b = some o) → Q () { s with heap := h', toks := tk }) : wpAny (model prog w) A (storeName env x v) Q E s := by
  rcases hk with hk | hk
  · obtain ⟨m, hm⟩ := l.ns
    refine wpAny_storeName_local hk hm (fun h' hn hs => ?_) (by rw [eo.kind]; rfl)
    have hl : ∃ o, h'.get? env.locals = some o := by obtain ⟨o, _, _, e, _⟩ := hn; exact ⟨o, e⟩
    have live : ∀ b o, s.heap.get? b = some o → ∃ o', h'.get? b = some o' := fun b o e => by
      by_cases hb : b = env.locals
      · rw [hb]; exact hl
      · exact ⟨o, (hs.2 b hb).trans e⟩
    have g : But Hid.H (fun b => b = env.locals) B s.heap ρ h' := by
      refine ⟨fun b o e hb => (hs.2 b hb).trans e, ?_, ?_, ?_⟩
      · rintro b rfl; exact (l.XB I _ (.inl rfl)).1
      · rintro b rfl; exact (l.XB I _ (.inl rfl)).2.1
      · rintro b rfl; exact (l.XB I _ (.inl rfl)).2.2
    have hcl : ∀ c v, s.heap.IsCell c v → h'.IsCell c v := fun c v ⟨o, e, hd⟩ => ⟨o, (hs.2 c fun q => by
      obtain ⟨o', _, _, e', hd', _⟩ := hm
      rw [q, e'] at e; cases e; rw [hd'] at hd; cases hd).trans e, hd⟩
    refine k h' _ (Inv.but (fun _ q => q) (fun _ q => q) I g fun a ha => ?hid) (g.go live fun b _ _ hb => .inl hb) ⟨⟨_, hn⟩, l.off, fun z dz hz hkz => ?_, l.cell, fun y c hc => (l.cells y c hc).elim fun v hv => ⟨v, hcl c _ hv⟩, l.apart, l.nb⟩ (fun _ => g.go live fun _ _ _ hb => hb) fun b o e hb => (hs.2 b fun q => hb (.inl q)).trans e
    case hid =>
      obtain ⟨o, e, hc, its, n, hd⟩ := (I.hid a ha).2
      refine ⟨o, (hs.2 a fun q => ?_).trans e, hc, its, n, hd⟩
      obtain ⟨o', _, _, e', hd', _⟩ := hm
      rw [q, e'] at e; cases e; rw [hd'] at hd; cases hd
    unfold upd at hz
    split at hz
    · rename_i hzx
      subst hzx
      cases hz
      exact ⟨v, VIn.but (fun _ q => q) (fun _ q => q) g hv, .inl ⟨hk, _, hn, if_pos rfl⟩⟩
    · rename_i hzx
      obtain ⟨u, hU, q⟩ := l.rd z dz hz hkz
      refine ⟨u, VIn.but (fun _ q => q) (fun _ q => q) g hU, ?_⟩
      rcases q with ⟨k1, m1, hm1, e1⟩ | ⟨k1, c, hc, e1⟩
      · refine .inl ⟨k1, _, hn, ?_⟩
        rw [if_neg hzx]
        obtain ⟨o, es, ep, e, hd, _, hf⟩ := hm
        obtain ⟨o', es', ep', e', hd', _, hf'⟩ := hm1
        rw [e] at e'; cases e'
        rw [hd] at hd'; cases hd'
        rw [← hf, hf']; exact e1
      · exact .inr ⟨k1, c, hc, hcl c _ e1⟩
  · obtain ⟨c, hc⟩ := l.cell x hk
    obtain ⟨v0, hv0⟩ := l.cells x c hc
    refine wpAny_storeName_cell eo.kind hk hc hv0 fun h' hn hs => ?_
    have hl : ∃ o, h'.get? c = some o := by obtain ⟨o, e, _⟩ := hn; exact ⟨o, e⟩
    have live : ∀ b o, s.heap.get? b = some o → ∃ o', h'.get? b = some o' := fun b o e => by
      by_cases hb : b = c
      · rw [hb]; exact hl
      · exact ⟨o, (hs.2 b hb).trans e⟩
    have g : But Hid.H (fun b => b = c) B s.heap ρ h' := by
      refine ⟨fun b o e hb => (hs.2 b hb).trans e, ?_, ?_, ?_⟩
      · rintro b rfl; exact (l.XB I _ (.inr ⟨x, hc⟩)).1
      · rintro b rfl; exact (l.XB I _ (.inr ⟨x, hc⟩)).2.1
      · rintro b rfl; exact (l.XB I _ (.inr ⟨x, hc⟩)).2.2
    have hns : ∀ m, s.heap.Ns env.locals m → h'.Ns env.locals m := fun m ⟨o, es, ep, e, hd, r⟩ => ⟨o, es, ep, (hs.2 _ fun q => by
      obtain ⟨o', e', hd'⟩ := hv0
      rw [q, e'] at e; cases e; rw [hd] at hd'; cases hd').trans e, hd, r⟩
    have hcl : ∀ c' v, c' ≠ c → s.heap.IsCell c' v → h'.IsCell c' v := fun c' v hne ⟨o, e, hd⟩ => ⟨o, (hs.2 c' hne).trans e, hd⟩
    refine k h' s.toks (Inv.but (fun _ q => q) (fun _ q => q) I g fun a ha => ?hid) (g.go live fun b _ _ hb => .inr ⟨x, by rw [hb]; exact hc⟩) ⟨l.ns.elim fun m hm => ⟨m, hns m hm⟩, l.off, fun z dz hz hkz => ?_, l.cell, fun y c' hc' => ?_, l.apart, l.nb⟩ (fun q => by rw [hk] at q; cases q) fun b o e hb => (hs.2 b fun q => hb (.inr ⟨x, by rw [q]; exact hc⟩)).trans e
    case hid =>
      obtain ⟨o, e, hc', its, n, hd⟩ := (I.hid a ha).2
      refine ⟨o, (hs.2 a fun q => ?_).trans e, hc', its, n, hd⟩
      obtain ⟨o', e', hd'⟩ := hv0
      rw [q, e'] at e; cases e; rw [hd'] at hd; cases hd
    · unfold upd at hz
      split at hz
      · rename_i hzx
        subst hzx
        cases hz
        exact ⟨v, VIn.but (fun _ q => q) (fun _ q => q) g hv, .inr ⟨.inl hk, c, hc, hn⟩⟩
      · rename_i hzx
        obtain ⟨u, hU, q⟩ := l.rd z dz hz hkz
        refine ⟨u, VIn.but (fun _ q => q) (fun _ q => q) g hU, ?_⟩
        rcases q with ⟨k1, m1, hm1, e1⟩ | ⟨k1, c', hc', e1⟩
        · exact .inl ⟨k1, m1, hns m1 hm1, e1⟩
        · exact .inr ⟨k1, c', hc', hcl c' _ (fun q => hzx (l.apart z x c (q ▸ hc') hc)) e1⟩
    · by_cases hcc : c' = c
      · rw [hcc]; exact ⟨_, hn⟩
      · exact (l.cells y c' hc').elim fun v hv => ⟨v, hcl c' _ hcc hv⟩
end
end Mine
end
section
open PySem PySem.W PyProof.Rows PySem.Calls
set_option linter.unusedSectionVars false
namespace Mine
variable [Hid]
section
variable {T : Tbl} {CA : Str → Option Addr} {K : Frag} {mg mb : Str → Option Value} {B : Heap} {prog : Program} {w : World} {A : Around} {n : Nat} {F : Funs} {s : Shared} {ρ τ : Rho} {σ σ' : Sto} {env : Env} {L L' : Loc} {d : V} {h h' h0 : Heap} {Y : Addr → Prop}

def okNm (sc : Scope) : Expr → Bool
  | .Name x _ => sc.names.lookup x == some .local || sc.names.lookup x == some .cell
  | _ => false

theorem okNm_kind {x : Str} {q : Pos} (h : okNm env.scope (.Name x q) = true) : env.kindOf x = some .local ∨ env.kindOf x = some .cell := by
  unfold okNm at h
  rcases Bool.or_eq_true_iff.mp h with q | q
  · exact .inl (beq_iff_eq.mp q)
  · exact .inr (beq_iff_eq.mp q)

theorem inorder_ok (eo : EnvOk env) {E : Value → Shared → Prop} : ∀ {es : List Expr} {xs : List Str} {ds : List V} {vs : List Value} {L : Loc} {s : Shared} {Q : Unit → Shared → Prop}, es.all (okNm env.scope) = true → names? es = some xs → xs.length = ds.length → Inv CA B s.heap ρ σ → LocIn B s.heap ρ env L → VAll s.heap ρ ds vs →
    (∀ h' tk, Inv CA B h' ρ σ → Go (XOf env) s.heap ρ h' ρ → LocIn B h' ρ env (updL L xs ds) → ((∀ x ∈ xs, env.kindOf x = some .local) → Go (fun b => b = env.locals) s.heap ρ h' ρ) → Q () { s with heap := h', toks := tk }) → wpAny (model prog w) A (assignInOrder ((assignEach es env).map (·.2)) vs) Q E s
  | [], xs, ds, vs, L, s, Q, _, hn, hl, I, l, hv, k => by
    cases hn
    cases ds with
    | cons => cases hl
    | nil => exact wpAny_pure (k s.heap s.toks I Go.refl l fun _ => Go.refl)
  | e :: es, xs, ds, vs, L, s, Q, ok, hn, hl, I, l, hv, k => by
    simp only [List.all_cons, Bool.and_eq_true] at ok
    cases e with
    | Name x q =>
      unfold names? at hn
      obtain ⟨ys, hys, e⟩ := Option.map_eq_some_iff.mp hn
      subst e
      cases ds with
      | nil => cases hl
      | cons d ds =>
        cases hv with
        | @cons _ v _ vs hv hvs =>
          show wpAny _ _ (do holding vs (assign (.Name x q) env v); assignInOrder ((assignEach es env).map (·.2)) vs) Q E s
          refine wpAny_bind (wpAny_holding (wpAny_assign_Name (store_ok eo (okNm_kind ok.1) I l hv fun h1 t1 I1 g1 l1 q1 _ => ?_)))
          exact inorder_ok eo ok.2 hys (by simpa using hl) I1 l1 (hvs.mono l.soft I g1) fun h2 t2 I2 g2 l2 q2 => k h2 t2 I2 (g1.trans g2) l2 fun hx => (q1 (hx x (.head _))).trans (q2 fun y hy => hx y (.tail _ hy))
    | _ => cases ok.1

theorem assignEach_len {xs : List Str} : ∀ {es : List Expr}, es.all (okNm env.scope) = true → names? es = some xs → (assignEach es env).length = xs.length ∧ (assignEach es env).findIdx? (·.1) = none := by
  induction xs with
  | nil =>
    intro es ok hn
    cases es with
    | nil => exact ⟨rfl, rfl⟩
    | cons e es =>
      cases e with
      | Name x q => unfold names? at hn; obtain ⟨ys, hys, e⟩ := Option.map_eq_some_iff.mp hn; cases e
      | _ => cases hn
  | cons x xs ih =>
    intro es ok hn
    cases es with
    | nil => cases hn
    | cons e es =>
      simp only [List.all_cons, Bool.and_eq_true] at ok
      cases e with
      | Name y q =>
        unfold names? at hn
        obtain ⟨ys, hys, e⟩ := Option.map_eq_some_iff.mp hn
        obtain ⟨rfl, rfl⟩ := List.cons.inj e
        obtain ⟨a, b⟩ := ih ok.2 hys
        have e : assignEach (.Name y q :: es) env = (false, assign (.Name y q) env) :: assignEach es env := rfl
        rw [e]
        refine ⟨by rw [List.length_cons, a]; rfl, ?_⟩
        rw [List.findIdx?_cons]
        simp [b]
      | _ => cases ok.1

theorem okTarget_tuple {es : List Expr} {k : Nat} {q : Pos} (h : okTarget env.scope (.Tuple es k q) = true) : es.all (okNm env.scope) = true := by
  unfold okTarget at h
  rw [List.all_eq_true] at h ⊢
  intro e he
  have := h e he
  cases e <;> first | exact this | cases this

theorem names_t {k : Nat} {q : Pos} : ∀ {es : List Expr} {xs : List Str}, names? es = some xs → tNames (.Tuple es k q) = xs
  | [], xs, h => by cases h; rfl
  | e :: es, xs, h => by
    cases e with
    | Name x q' =>
      unfold names? at h
      obtain ⟨ys, hys, e⟩ := Option.map_eq_some_iff.mp h
      subst e
      have := names_t (k := k) (q := q) hys
      simp only [tNames, List.filterMap_cons] at this ⊢
      rw [this]
    | _ => cases h

/-- a target is bound -/
theorem asg_ok {t : Expr} {v : Value} {Q : Unit → Shared → Prop} {E : Value → Shared → Prop} (hh : A.handled = none) (eo : EnvOk env) (ok : okTarget env.scope t = true) (hb : bindT L σ t d = some L') (I : Inv CA B s.heap ρ σ) (l : LocIn B s.heap ρ env L) (hv : VIn s.heap ρ d v)
    (k : ∀ h' tk, Inv CA B h' ρ σ → Go (XOf env) s.heap ρ h' ρ → LocIn B h' ρ env L' → ((∀ x ∈ tNames t, env.kindOf x = some .local) → Go (fun b => b = env.locals) s.heap ρ h' ρ) → Q () { s with heap := h', toks := tk }) : wpAny (model prog w) A (assign t env v) Q E s := by
  unfold bindT at hb
  split at hb
  · cases hb
    exact wpAny_assign_Name (store_ok eo (okNm_kind (q := ⟨0, 0, 0, 0⟩) ok) I l hv fun h1 t1 I1 g1 l1 q1 _ => k h1 t1 I1 g1 l1 fun hx => q1 (hx _ (.head _)))
  · rename_i es k0 q
    have ok' := okTarget_tuple ok
    split at hb
    · rename_i xs ds hxs
      split at hb
      · rename_i hlen
        cases hb
        have hlen' := of_decide_eq_true hlen
        cases hv with
        | tup ht r hH =>
          obtain ⟨a, b⟩ := assignEach_len (env := env) ok' hxs
          refine wpAny_assign_Tuple hh ht (by rw [a, hlen', List.size_toArray, r.length]) b fun h1 he => ?_
          have kp : ∀ b o, s.heap.get? b = some o → h1.get? b = some o := fun b o e => he b o (fun q => by rw [q] at e; exact absurd (Heap.lt_size e) (Nat.lt_irrefl _)) e
          have g1 : Go No s.heap ρ h1 ρ := Go.grow kp
          refine inorder_ok (CA := CA) eo ok' hxs hlen' (I.grow kp) (l.mono I g1) (by rw [List.toList_toArray]; exact r.mono Soft.no I g1) fun h2 t2 I2 g2 l2 q2 => ?_
          exact k h2 t2 I2 (g1.weaken.trans g2) l2 fun hx => g1.weaken.trans (q2 fun y hy => hx y (by rw [names_t hxs]; exact hy))
      · cases hb
    · rename_i xs j hxs
      split at hb
      · rename_i ds hds
        split at hb
        · rename_i hlen
          cases hb
          have hlen' := of_decide_eq_true hlen
          obtain ⟨ad, us, c, rfl, _, hx, r⟩ := I.list hds hv
          obtain ⟨a, b⟩ := assignEach_len (env := env) ok' hxs
          have hsz : us.toArray.size = (assignEach es env).length := by rw [a, hlen', List.size_toArray, r.length]
          rw [arm_assign_Tuple]
          refine wpAny_bind (wpAny_standAt ?_)
          unfold unpack
          rw [b]
          have key := kun_itemsOf (prog := prog) (w := w) (A := A) (E := E) (items := us.toArray) (Q := fun vs s' => wpAny (model prog w) A (assignInOrder ((assignEach es env).map (·.2)) vs) Q E s') hh (PySem.IsL.isList (n := c) hx) (fun h1 he => by
            have kp : ∀ b o, s.heap.get? b = some o → h1.get? b = some o := fun b o e => he b o (fun q => by rw [q] at e; exact absurd (Heap.lt_size e) (Nat.lt_irrefl _)) e
            have g1 : Go No s.heap ρ h1 ρ := Go.grow kp
            refine inorder_ok (CA := CA) eo ok' hxs hlen' (I.grow kp) (l.mono I g1) (by rw [List.toList_toArray]; exact r.mono Soft.no I g1) fun h2 t2 I2 g2 l2 q2 => ?_
            exact k h2 t2 I2 (g1.weaken.trans g2) l2 fun hx => g1.weaken.trans (q2 fun y hy => hx y (by rw [names_t hxs]; exact hy)))
          rw [hsz] at key
          exact wpAny_bind (wpAny_holding key)
        · cases hb
      · cases hb
    · cases hb
  · cases hb
end
end Mine
end
section
open PySem PySem.W PyProof.Rows PySem.Calls
set_option linter.unusedSectionVars false
namespace Mine
variable [Hid]
section
variable {T : Tbl} {CA : Str → Option Addr} {K : Frag} {mg mb : Str → Option Value} {B : Heap} {prog : Program} {w : World} {A : Around} {n : Nat} {F : Funs} {s : Shared} {ρ ρ' τ : Rho} {σ σ' : Sto} {env : Env} {L L' : Loc} {d : V} {h h' h0 : Heap} {X Y : Addr → Prop}

inductive ItAt (h : Heap) (ρ : Rho) : It → List V → Nat → Value → List Addr → Prop
  | tup {a I : Addr} {us : List Value} {l : List V} {i : Nat} : IsTup h a us.toArray → VAll h ρ l us → ¬ Hid.H a → h.IsTupleIter I a i → ItAt h ρ (.one (.tup l)) l i (.ref I) [I]
  | list {n : Nat} {a I : Addr} {l : List V} {i : Nat} : ρ[n]? = some (a, a) → h.IsListIter I a i → ItAt h ρ (.one (.obj n)) l i (.ref I) [I]
  | rng {I : Addr} {a b : Int} {l : List V} {i : Nat} : IsRangeIter h I (a + i) ((b - a).toNat - i : Int) 1 → i ≤ (b - a).toNat → l = ((List.range (b - a).toNat).map fun (k : Nat) => V.int (a + k)) → ItAt h ρ (.one (.rng a b)) l i (.ref I) [I]
  | zip {m k : Nat} {z TI TO i1 i2 l1 l2 : Addr} {l : List V} {i : Nat} {x y : Value} : ZipApart z TI TO i1 i2 l1 l2 → ρ[m]? = some (l1, l1) → ρ[k]? = some (l2, l2) → IsZip h z TI TO .none → IsPair h TI (.ref i1) (.ref i2) → IsPair h TO x y → h.IsListIter i1 l1 i → h.IsListIter i2 l2 i → Hid.H TO →
    ItAt h ρ (.two m k) l i (.ref z) [z, TO, i1, i2]

theorem ItAt.aside {it : It} {all : List V} {i : Nat} {Iv : Value} {own : List Addr} (x : ItAt h ρ it all i Iv own) : ∀ b ∈ own, Aside Hid.H h b ∧ ∀ o, h.get? b = some o → (∀ es n, o.data ≠ .dict es n) ∧ (∀ v, o.data ≠ .cell v) ∧ ¬ (o.cls = .type "list" ∨ o.cls = .type "dict") := by
  have li : ∀ {I a i}, h.IsListIter I a i → Aside Hid.H h I ∧ ∀ o, h.get? I = some o → (∀ es n, o.data ≠ .dict es n) ∧ (∀ v, o.data ≠ .cell v) ∧ ¬ (o.cls = .type "list" ∨ o.cls = .type "dict") := fun ⟨o, e, hc, hd⟩ => by
    refine ⟨⟨o, e, .inr (.inr (.inl ⟨⟨_, hd⟩, by rw [hc]; simp⟩))⟩, fun o' e' => ?_⟩
    rw [e] at e'; cases e'
    rw [hd, hc]; simp
  cases x with
  | @tup a I us l i ht r hH hi =>
    intro b hb
    rw [List.mem_singleton.mp hb]
    obtain ⟨o, e, hc, hd⟩ := hi
    refine ⟨⟨o, e, .inr (.inr (.inl ⟨⟨_, hd⟩, by rw [hc]; simp⟩))⟩, fun o' e' => ?_⟩
    rw [e] at e'; cases e'
    rw [hd, hc]; simp
  | list hp hi => intro b hb; rw [List.mem_singleton.mp hb]; exact li hi
  | @rng I a b l i hi _ hl =>
    intro b hb
    rw [List.mem_singleton.mp hb]
    refine ⟨⟨_, hi, .inr (.inr (.inl ⟨⟨_, rfl⟩, by simp⟩))⟩, fun o' e' => ?_⟩
    rw [show h.get? I = _ from hi] at e'; cases e'
    simp
  | @zip m k z TI TO i1 i2 l1 l2 l i x y D h1 h2 hz hTI hTO hi1 hi2 hH =>
    intro b hb
    simp only [List.mem_cons, List.not_mem_nil, or_false] at hb
    rcases hb with rfl | rfl | rfl | rfl
    · refine ⟨⟨_, hz, .inr (.inr (.inl ⟨⟨_, rfl⟩, by simp⟩))⟩, fun o' e' => ?_⟩
      rw [show h.get? b = _ from hz] at e'; cases e'
      simp
    · refine ⟨⟨_, hTO, .inr (.inr (.inr ⟨hH, rfl, _, _, rfl⟩))⟩, fun o' e' => ?_⟩
      rw [show h.get? b = _ from hTO] at e'; cases e'
      simp
    · exact li hi1
    · exact li hi2

theorem ItAt.go (I : Inv CA B h ρ σ) (S : Soft X h) (g : Go X h ρ h' ρ') {it : It} {all : List V} {i : Nat} {Iv : Value} {own : List Addr} (x : ItAt h ρ it all i Iv own) : ItAt h' ρ' it all i Iv own := by
  have li : ∀ {J a i}, h.IsListIter J a i → h'.IsListIter J a i := fun ⟨o, e, hc, hd⟩ => ⟨o, g.stands S I e (by rw [hc]; simp) (by rw [hd]; simp) (by rw [hd]; simp), hc, hd⟩
  cases x with
  | tup ht r hH hi =>
    obtain ⟨o, e, hc, hd⟩ := hi
    exact .tup (g.isTup S I ht) (r.mono S I g) hH ⟨o, g.stands S I e (by rw [hc]; simp) (by rw [hd]; simp) (by rw [hd]; simp), hc, hd⟩
  | list hp hi => exact .list (g.get hp) (li hi)
  | rng hi hle hl => exact .rng (g.stands S I hi (by simp) (by simp) (by simp)) hle hl
  | zip D h1 h2 hz hTI hTO hi1 hi2 hH =>
    exact .zip D (g.get h1) (g.get h2) (g.stands S I hz (by simp) (by simp) (by simp)) (g.stands S I hTI (by simp) (by simp) (by simp)) (g.stands S I hTO (by simp) (by simp) (by simp)) (li hi1) (li hi2) hH

/-- the change that an iterator's turn brings -/
theorem ItAt.but (I : Inv CA B h ρ σ) {it : It} {all : List V} {i : Nat} {Iv : Value} {own : List Addr} (x : ItAt h ρ it all i Iv own) (hB : ∀ b ∈ own, B.get? b = none) (e1 : ∀ b o, b ∉ own → h.get? b = some o → h'.get? b = some o) : But Hid.H (· ∈ own) B h ρ h' := by
  refine ⟨fun b o e hb => e1 b o hb e, fun b hb => (x.aside b hb).1, hB, fun b hb => ?_⟩
  obtain ⟨⟨o, e, _⟩, q⟩ := x.aside b hb
  exact I.off e (q o e).2.2

theorem Inv.but1 (I : Inv CA B h ρ σ) (g : But Hid.H Y B h ρ h') (hid : ∀ a, Hid.H a → Y a → (∃ o its n, h.get? a = some o ∧ o.data = .seq its n) → ∃ o, h'.get? a = some o ∧ o.cls = .type "tuple" ∧ ∃ its n, o.data = .seq its n) : Inv CA B h' ρ σ :=
  Inv.but (fun _ q => q) (fun _ q => q) I g fun a ha => by
    obtain ⟨o, e, hc, its, n, hd⟩ := (I.hid a ha).2
    by_cases hY : Y a
    · exact hid a ha hY ⟨o, its, n, e, hd⟩
    · exact ⟨o, g.ext a o e hY, hc, its, n, hd⟩

theorem letGo_ok {t : Expr} {r : Addr} {v : Value} {o : Obj} {nm : String} {Q : Unit → Shared → Prop} {E : Value → Shared → Prop} (e : s.heap.get? r = some o) (hc : o.cls = .type nm) (hn : ["enumerate", "zip", "dict_itemiterator", "dict_reverseitemiterator", "odict_iterator", "itertools.zip_longest", "itertools.pairwise"].contains nm = false) (h : Q () s) :
    wpAny (model prog w) A (letOwnedTupleGo t (.ref r) v) Q E s := by
  have k : wpAny (model prog w) A (do
    let (.ref r, .ref a) := ((.ref r : Value), v) | return
    let o ← load r
    match o.cls, o.data with
    | .type n, .fields vs =>
      if ["enumerate", "zip", "dict_itemiterator", "dict_reverseitemiterator", "odict_iterator", "itertools.zip_longest", "itertools.pairwise"].contains n && vs[0]? == some (rawInt a) then
        rule "for.unpacks-the-owned-tuple"
        updateField r 0 .none
    | _, _ => pure ()) Q E s := by
    cases v with
    | ref a =>
      refine wpAny_bind (wpAny_load e ?_)
      rw [hc]
      cases o.data <;> first | exact wpAny_pure h | skip
      dsimp only
      rw [hn, Bool.false_and]
      exact wpAny_pure h
    | _ => exact wpAny_pure h
  cases t <;> first | exact wpAny_pure h | exact k

theorem zipT_get : ∀ {l r : List V} {i : Nat} {a b : V}, l[i]? = some a → r[i]? = some b → (zipT l r)[i]? = some (.tup [a, b])
  | [], _, _, _, _, h, _ => by simp at h
  | _ :: _, [], _, _, _, _, h => by simp at h
  | _ :: _, _ :: _, 0, _, _, h1, h2 => by simp at h1 h2; subst h1; subst h2; rfl
  | _ :: l, _ :: r, i + 1, _, _, h1, h2 => by unfold zipT; simpa using zipT_get (l := l) (r := r) (i := i) (by simpa using h1) (by simpa using h2)
theorem zipT_end : ∀ {l r : List V} {i : Nat}, l[i]? = none ∨ r[i]? = none → (zipT l r)[i]? = none
  | [], _, _, _ => by unfold zipT; simp
  | _ :: _, [], _, _ => by unfold zipT; simp
  | _ :: _, _ :: _, 0, h => by simp at h
  | _ :: l, _ :: r, i + 1, h => by unfold zipT; simpa using zipT_end (l := l) (r := r) (i := i) (by simpa using h)

def isTuple : Expr → Bool
  | .Tuple .. => true
  | _ => false

/-- the next turn's value -/
theorem step_ok {t : Expr} {it : It} {all : List V} {i : Nat} {Iv : Value} {own : List Addr} {P : Option Value → Shared → Prop} {E : Value → Shared → Prop} (hh : A.handled = none) (x : ItAt s.heap ρ it all i Iv own) (hB : ∀ b ∈ own, B.get? b = none) (hst : still σ it all = true) (ht : (∃ v, it = .one v) ∨ isTuple t = true) (I : Inv CA B s.heap ρ σ)
    (hi : ∀ d v h1 tk, all[i]? = some d → (∀ (Q : Unit → Shared → Prop) (E : Value → Shared → Prop), (∀ h', But Hid.H (· ∈ own) B s.heap ρ h' → (∀ b o, s.heap.get? b = some o → ∃ o', h'.get? b = some o') → Inv CA B h' ρ σ → VIn h' ρ d v → ItAt h' ρ it all (i + 1) Iv own → Q () { s with heap := h', toks := tk }) →
      wpAny (model prog w) A (letOwnedTupleGo t Iv v) Q E { s with heap := h1, toks := tk }) → P (some v) { s with heap := h1, toks := tk })
    (hd : all[i]? = none → ∀ h' tk, But Hid.H (· ∈ own) B s.heap ρ h' → P none { s with heap := h', toks := tk }) :
    wpAny (model prog w) A (pyNext Iv) P E s := by
  have x0 := x
  have lv : ∀ {J : Addr} {h1 : Heap}, (∃ o, h1.get? J = some o) → (∀ b o, b ≠ J → s.heap.get? b = some o → h1.get? b = some o) → ∀ b o, s.heap.get? b = some o → ∃ o', h1.get? b = some o' := fun {J h1} hJ he b o e => by
    by_cases hb : b = J
    · rw [hb]; exact hJ
    · exact ⟨o, he b o hb e⟩
  cases x with
  | @tup a J us l i htu r hH hit =>
    have hne : a ≠ J := by
      rintro rfl
      obtain ⟨o, e, hc, _⟩ := htu
      obtain ⟨o', e', hc', _⟩ := hit
      rw [e] at e'; cases e'; rw [hc] at hc'; simp at hc'
    cases hx : all[i]? with
    | some d =>
      obtain ⟨v, hv, hV⟩ := r.get hx
      refine wpAny_pyNext_tuple_item hit htu (x := v) (by simpa using hv) fun h1 hit1 hs => ?_
      have g := x0.but I hB (h' := h1) (fun b o hb e => hs.extBut b o (fun q => hb (by simp [q])) e)
      obtain ⟨o, e, hc, hd1⟩ := id hit1
      refine hi d v h1 s.toks hx fun Q E kq => letGo_ok e hc (by decide) (kq h1 g (lv ⟨o, e⟩ hs.extBut) (I.but1 g fun b _ hb ⟨o, its, n, e, hq⟩ => ?_) (VIn.but (fun _ q => q) (fun _ q => q) g hV) (.tup (g.tup htu hH) (VAll.but (fun _ q => q) (fun _ q => q) g r) hH hit1))
      obtain ⟨o', e', _, hd'⟩ := hit
      rw [List.mem_singleton.mp hb, e'] at e; cases e; rw [hd'] at hq; cases hq
    | none =>
      have hn : us.toArray[i]? = none := by
        rw [List.getElem?_toArray, List.getElem?_eq_none_iff, r.length]; exact List.getElem?_eq_none_iff.mp hx
      exact wpAny_pyNext_tuple_end hh hit htu hn fun h1 hs => hd hx h1 s.toks (x0.but I hB fun b o hb e => hs b o (fun q => hb (by simp [q])) e)
  | @list n a J l i hp hit =>
    have hst := still_one.mp hst
    unfold items at hst
    dsimp only at hst
    split at hst
    · rename_i l0 e0
      split at hst
      · cases hst
        obtain ⟨a', us, c, e', hp', hl, r⟩ := I.list e0 (VIn.obj (p := (a, a)) hp)
        cases e'
        have hL : s.heap.IsList a us.toArray := PySem.IsL.isList (n := c) hl
        have hne : a ≠ J := by
          rintro rfl
          obtain ⟨o, e, hc, _⟩ := hL
          obtain ⟨o', e', hc', _⟩ := hit
          rw [e] at e'; cases e'; rw [hc] at hc'; simp at hc'
        cases hx : all[i]? with
        | some d =>
          obtain ⟨v, hv, hV⟩ := r.get hx
          refine wpAny_pyNext_list_item hit hL (x := v) (by simpa using hv) fun h1 hit1 hs => ?_
          have g := x0.but I hB (h' := h1) (fun b o hb e => hs.extBut b o (fun q => hb (by simp [q])) e)
          obtain ⟨o, e, hc, hd1⟩ := id hit1
          refine hi d v h1 s.toks hx fun Q E kq => letGo_ok e hc (by decide) (kq h1 g (lv ⟨o, e⟩ hs.extBut) (I.but1 g fun b _ hb ⟨o, its, n, e, hq⟩ => ?_) (VIn.but (fun _ q => q) (fun _ q => q) g hV) (.list hp hit1))
          obtain ⟨o', e', _, hd'⟩ := hit
          rw [List.mem_singleton.mp hb, e'] at e; cases e; rw [hd'] at hq; cases hq
        | none =>
          have hn : us.toArray[i]? = none := by
            rw [List.getElem?_toArray, List.getElem?_eq_none_iff, r.length]; exact List.getElem?_eq_none_iff.mp hx
          exact wpAny_pyNext_list_end hh hit hL hn fun h1 hs => hd hx h1 s.toks (x0.but I hB fun b o hb e => hs b o (fun q => hb (by simp [q])) e)
      · cases hst
    · cases hst
  | @rng J a b l i hit hle hl =>
    cases hx : all[i]? with
    | some d =>
      rw [hl, List.getElem?_map] at hx
      obtain ⟨k, hk, e⟩ := Option.map_eq_some_iff.mp hx
      have hlt := (List.getElem?_eq_some_iff.mp hk).1
      rw [List.length_range] at hlt
      have hki : k = i := by rw [List.getElem?_range hlt] at hk; cases hk; rfl
      subst hki
      subst e
      refine wpAny_pyNext_range_item hit (by omega) fun h1 hit1 hs => ?_
      have g := x0.but I hB (h' := h1) (fun b o hb e => hs.extBut b o (fun q => hb (by simp [q])) e)
      refine hi _ _ h1 _ (by rw [hl, List.getElem?_map, hk]; rfl) fun Q E kq => letGo_ok hit1 rfl (by decide) (kq h1 g (lv ⟨_, hit1⟩ hs.extBut) (I.but1 g fun b _ hb ⟨o, its, n, e, hq⟩ => ?_) (.int _ _) (.rng (by
        rw [show a + ((k + 1 : Nat) : Int) = a + k + 1 by push_cast; omega, show (((b - a).toNat : Int) - ((k + 1 : Nat) : Int)) = (b - a).toNat - k - 1 by push_cast; omega]; exact hit1) hlt hl))
      rw [List.mem_singleton.mp hb, show s.heap.get? J = _ from hit] at e; cases e; cases hq
    | none =>
      have hge : (b - a).toNat ≤ i := by
        rw [hl, List.getElem?_eq_none_iff, List.length_map, List.length_range] at hx; exact hx
      exact wpAny_pyNext_range_end hh hit (by omega) fun h1 hs => hd hx h1 s.toks (x0.but I hB fun b o hb e => hs b o (fun q => hb (by simp [q])) e)
  | @zip m k z TI TO i1 i2 l1 l2 l i x y D h1 h2 hz hTI hTO hi1 hi2 hH =>
    · obtain ⟨ll, rr, e1, e2, hmk, hall⟩ := still_two hst
      subst hall
      obtain ⟨a1, us1, c1, e', hp1, hL1, r1⟩ := I.list e1 (VIn.obj (p := (l1, l1)) h1)
      cases e'
      obtain ⟨a2, us2, c2, e', hp2, hL2, r2⟩ := I.list e2 (VIn.obj (p := (l2, l2)) h2)
      cases e'
      have hl1 : s.heap.IsList l1 us1.toArray := PySem.IsL.isList (n := c1) hL1
      have hl2 : s.heap.IsList l2 us2.toArray := PySem.IsL.isList (n := c2) hL2
      have noSeq : ∀ b, Hid.H b → b ∈ [z, TO, i1, i2] → (∃ o its n, s.heap.get? b = some o ∧ o.data = .seq its n) → b = TO := by
        intro b _ hb ⟨o, its, n, e, hq⟩
        simp only [List.mem_cons, List.not_mem_nil, or_false] at hb
        rcases hb with q | q | q | q
        · rw [q, show s.heap.get? z = _ from hz] at e; cases e; cases hq
        · exact q
        · obtain ⟨o', e', _, hd'⟩ := hi1
          rw [q, e'] at e; cases e; rw [hd'] at hq; cases hq
        · obtain ⟨o', e', _, hd'⟩ := hi2
          rw [q, e'] at e; cases e; rw [hd'] at hq; cases hq
      by_cases hend : ll[i]? = none ∨ rr[i]? = none
      · have hx := zipT_end hend
        have hend' : us1.toArray[i]? = none ∨ us2.toArray[i]? = none := by
          rcases hend with q | q
          · exact .inl (by rw [List.getElem?_toArray, List.getElem?_eq_none_iff, r1.length]; exact List.getElem?_eq_none_iff.mp q)
          · exact .inr (by rw [List.getElem?_toArray, List.getElem?_eq_none_iff, r2.length]; exact List.getElem?_eq_none_iff.mp q)
        exact wpAny_pyNext_zip_end hh D hz hTI hTO hi1 hi2 hl1 hl2 hend' fun h' he => hd hx h' s.toks (x0.but I hB fun b o hb e => he b o (fun q => hb (by simp [q])) (fun q => hb (by simp [q])) (fun q => hb (by simp [q])) (fun q => hb (by simp [q])) e)
      · rw [not_or] at hend
        obtain ⟨d1, hd1⟩ := Option.ne_none_iff_exists'.mp hend.1
        obtain ⟨d2, hd2⟩ := Option.ne_none_iff_exists'.mp hend.2
        obtain ⟨v1, hv1, hV1⟩ := r1.get hd1
        obtain ⟨v2, hv2, hV2⟩ := r2.get hd2
        have hx := zipT_get hd1 hd2
        refine wpAny_pyNext_zip_item D hz hTI hTO hi1 hi2 hl1 hl2 (x := v1) (y := v2) (by simpa using hv1) (by simpa using hv2) fun h' hz' hTO' hi1' hi2' hT' _ he => ?_
        rcases ht with ⟨v, q⟩ | ht
        · cases q
        · cases t <;> first | cases ht | skip
          rename_i es kx pos
          refine hi _ _ h' s.toks hx fun Q E kk => wpAny_letOwnedTupleGo_zip hz' fun h3 hz3 hs3 => ?_
          have hTn : s.heap.objs.size ≠ z := fun q => by
            have := Heap.lt_size hz; rw [q] at this; exact Nat.lt_irrefl _ this
          have up : ∀ b o, b ∉ [z, TO, i1, i2] → s.heap.get? b = some o → h3.get? b = some o := fun b o hb e => hs3.extBut b o (fun q => hb (by simp [q])) (he b o (fun q => hb (by simp [q])) (fun q => hb (by simp [q])) (fun q => hb (by simp [q])) (fun q => hb (by simp [q])) e)
          have g := x0.but I hB (h' := h3) up
          have hTO3 : IsPair h3 TO v1 v2 := hs3.extBut _ _ D.TOz hTO'
          have hi13 : h3.IsListIter i1 l1 (i + 1) := hi1'.extBut hs3.extBut D.i1z
          have hi23 : h3.IsListIter i2 l2 (i + 1) := hi2'.extBut hs3.extBut D.i2z
          have hTI3 : IsPair h3 TI (.ref i1) (.ref i2) := hs3.extBut _ _ D.TIz (he _ _ D.TIz D.TITO D.TIi1 D.TIi2 hTI)
          have hT3 : IsPair h3 s.heap.objs.size v1 v2 := hs3.extBut _ _ hTn hT'
          have I3 : Inv CA B h3 ρ σ := I.but1 g fun b hb hbo hq => by
            rw [noSeq b hb hbo hq]; exact ⟨_, hTO3, rfl, _, _, rfl⟩
          refine kk h3 g (fun b o e => ?_) I3 (.tup (vs := [v1, v2]) ⟨_, hT3, rfl, 0, rfl⟩ (.cons (VIn.but (fun _ q => q) (fun _ q => q) g hV1) (.cons (VIn.but (fun _ q => q) (fun _ q => q) g hV2) .nil)) (I.notHid I.none_of_size.1)) (.zip D h1 h2 hz3 hTI3 hTO3 hi13 hi23 hH)
          by_cases hb : b ∈ [z, TO, i1, i2]
          · simp only [List.mem_cons, List.not_mem_nil, or_false] at hb
            rcases hb with rfl | rfl | rfl | rfl
            · exact ⟨_, hz3⟩
            · exact ⟨_, hTO3⟩
            · obtain ⟨o, e, _⟩ := hi13; exact ⟨o, e⟩
            · obtain ⟨o, e, _⟩ := hi23; exact ⟨o, e⟩
          · exact ⟨o, up b o hb e⟩
end
end Mine
end
section
open PySem PySem.W PyProof.Rows PySem.Calls
set_option linter.unusedSectionVars false
namespace Mine
variable [Hid]
section
variable {T : Tbl} {CA : Str → Option Addr} {K : Frag} {mg mb : Str → Option Value} {B : Heap} {prog : Program} {w : World} {A : Around} {n : Nat} {F : Funs} {s : Shared} {ρ ρ' ρb τ : Rho} {σ σ' : Sto} {env : Env} {L L' : Loc} {d : V} {h h' h0 hb : Heap} {X X0 Y P : Addr → Prop}

theorem Go.skip (g1 : Go X0 hb ρb h ρ) (g2 : Go X h ρ h' ρ') (hX : ∀ b, X b → hb.get? b = none ∨ X0 b) : Go X0 hb ρb h' ρ' := by
  obtain ⟨x1, xl, τ, rfl, x2⟩ := g1
  obtain ⟨y1, yl, τ', rfl, y2⟩ := g2
  refine ⟨fun b o e hb hX0 => y1 b o (x1 b o e hb hX0) (fun p hp => ?_) (fun q => ?_), fun b o e => ?_, τ ++ τ', List.append_assoc .., fun p hp => ?_⟩
  · rcases List.mem_append.mp hp with hp | hp
    · exact hb p hp
    · intro q; have := x2 p hp; rw [← q, e] at this; cases this
  · rcases hX b q with q | q
    · rw [e] at q; cases q
    · exact hX0 q
  · obtain ⟨o', e'⟩ := xl b o e; exact yl b o' e'
  · rcases List.mem_append.mp hp with hp | hp
    · exact x2 p hp
    · cases q : hb.get? p.2 with
      | none => rfl
      | some o => obtain ⟨o', e'⟩ := xl _ _ q; rw [y2 p hp] at e'; cases e'

/-- a change of what the base does not know -/
theorem Go.skipBut (g1 : Go X0 hb ρb h ρ) (g2 : But P Y B h ρ h') (hY : ∀ b, Y b → hb.get? b = none) : Go X0 hb ρb h' ρ := by
  obtain ⟨x1, xl, τ, rfl, x2⟩ := g1
  refine ⟨fun b o e hb hX0 => g2.ext b o (x1 b o e hb hX0) fun q => ?_, fun b o e => ?_, τ, rfl, x2⟩
  · rw [hY b q] at e; cases e
  · by_cases q : Y b
    · rw [hY b q] at e; cases e
    · obtain ⟨o', e'⟩ := xl b o e; exact ⟨o', g2.ext b o' e' q⟩

theorem self_ok {it : It} {all : List V} {i : Nat} {Iv : Value} {own : List Addr} {Q : Value → Shared → Prop} {E : Value → Shared → Prop} (x : ItAt s.heap ρ it all i Iv own) (h : Q Iv s) : wpAny (model prog w) A (pyIter Iv) Q E s := by
  cases x with
  | tup _ _ _ hi => exact wpAny_pyIter_tupleiter hi h
  | list _ hi => exact wpAny_pyIter_listiter hi h
  | rng hi _ _ => exact wpAny_pyIter_rangeiter hi h
  | zip _ _ _ hz => exact wpAny_pyIter_zip hz h

/-- an iterator is made -/
theorem iter_ok {wv : V} {v : Value} {vs : List V} {Q : Value → Shared → Prop} {E : Value → Shared → Prop} (hi : items σ wv = some vs) (I : Inv CA B s.heap ρ σ) (hv : VIn s.heap ρ wv v)
    (k : ∀ h' Iv own, (∀ b o, s.heap.get? b = some o → h'.get? b = some o) → ItAt h' ρ (.one wv) vs 0 Iv own → (∀ b ∈ own, s.heap.get? b = none ∧ B.get? b = none ∧ ¬ Hid.H b) → Q Iv { s with heap := h' }) : wpAny (model prog w) A (pyIter v) Q E s := by
  have fresh : ∀ b ∈ [s.heap.objs.size], s.heap.get? b = none ∧ B.get? b = none ∧ ¬ Hid.H b := fun b hb => by
    rw [List.mem_singleton.mp hb]; exact ⟨I.none_of_size.1, I.none_of_size.2, I.notHid I.none_of_size.1⟩
  unfold items at hi
  split at hi
  · rename_i l
    split at hi
    · cases hi
      cases hv with
      | @tup a us _ ht r hH =>
        have kp := push_keep (h := s.heap) { cls := .type "tuple_iterator", data := .fields #[.ref a, .int 0 0] }
        exact wpAny_pyIter_tuple ht (k _ _ _ kp (.tup ((Go.grow (X := No) (ρ := ρ) kp).isTup Soft.no I ht) (r.mono Soft.no I (Go.grow kp)) hH ⟨_, Heap.get?_push_size _ rfl, rfl, rfl⟩) fresh)
    · cases hi
  · rename_i m
    split at hi
    · rename_i l e
      split at hi
      · cases hi
        obtain ⟨a, us, c, rfl, hp, hl, r⟩ := I.list e hv
        have kp := push_keep (h := s.heap) { cls := .type "list_iterator", data := .fields #[.ref a, .int 0 0] }
        exact wpAny_pyIter_list (PySem.IsL.isList (n := c) hl) (k _ _ _ kp (.list hp ⟨_, Heap.get?_push_size _ rfl, rfl, rfl⟩) fresh)
      · cases hi
    · cases hi
  · rename_i a b
    split at hi
    · rename_i hc
      cases hi
      simp only [Bool.and_eq_true, decide_eq_true_eq, small, most] at hc
      cases hv with
      | rng hr =>
        have hsz : Builtin.Range.rangeSize a b 1 = ((b - a).toNat : Int) := by
          unfold Builtin.Range.rangeSize
          rw [if_pos (by omega)]
          split
          · rw [Int.ediv_one]; omega
          · omega
        have kp := push_keep (h := s.heap) { cls := .type "range_iterator", data := .fields #[rawInt a, rawInt (Builtin.Range.rangeSize a b 1), rawInt 1] }
        refine wpAny_pyIter_range hr ?_ (k _ _ _ kp (.rng (a := a) (b := b) ?_ (Nat.zero_le _) rfl) fresh)
        · exact small_one (by omega) (by omega) (by omega) (by omega)
        · have := Heap.get?_push_size s.heap (o := { cls := .type "range_iterator", data := .fields #[rawInt a, rawInt (Builtin.Range.rangeSize a b 1), rawInt 1] }) rfl
          rw [hsz] at this ⊢
          rw [show a + ((0 : Nat) : Int) = a by simp, show ((b - a).toNat : Int) - ((0 : Nat) : Int) = (b - a).toNat by simp]
          exact this
    · cases hi
  · cases hi

theorem drop_some {all rest : List V} {i : Nat} {v : V} (h : all.drop i = v :: rest) : all[i]? = some v ∧ all.drop (i + 1) = rest := by
  constructor
  · have := congrArg (·[0]?) h
    simpa [List.getElem?_drop] using this
  · rw [← List.drop_drop, h]; rfl
theorem drop_none {all : List V} {i : Nat} (h : all.drop i = []) : all[i]? = none := by
  rw [List.getElem?_eq_none_iff]; exact List.drop_eq_nil_iff.mp h

/-- own places are neither frame nor cell -/
theorem ItAt.soft {it : It} {all : List V} {i : Nat} {Iv : Value} {own : List Addr} (x : ItAt h ρ it all i Iv own) : ∀ b, b ∈ own → ∀ o, h.get? b = some o → (∀ es n, o.data ≠ .dict es n) ∧ ∀ v, o.data ≠ .cell v := fun b hb o e => ⟨((x.aside b hb).2 o e).1, ((x.aside b hb).2 o e).2.1⟩

/-- a for goes over its items -/
theorem for_ok {t iter : Expr} {b : List Stmt} {wv : V} {all : List V} {Iv : Value} {own : List Addr} {m : Nat} {f : Fl} {R : Result → Shared → Prop} (G : GoodF T CA B (model prog w) n F) (ao : AOk A n) (eo : EnvOk env) (okT : okTarget env.scope t = true) (okB : b.all (okS T m env.scope) = true)
    (hown : ∀ b ∈ own, hb.get? b = none ∧ B.get? b = none ∧ ¬ Hid.H b)
    (he : forL (fun σ => still σ (.one wv) all) (fun v L σ => match bindT L σ t v with | some L1 => exs F.ex L1 σ b | none => none) all L σ = some (f, L', σ'))
    (I : Inv CA B s.heap ρ σ) (g : Go (XOf env) hb ρb s.heap ρ) (l : LocIn B s.heap ρ env L) (x : ItAt s.heap ρ (.one wv) all 0 Iv own)
    (k : ∀ fl h' tk ρ', Inv CA B h' ρ' σ' → Go (XOf env) hb ρb h' ρ' → LocIn B h' ρ' env L' → FlIn h' ρ' f fl → R (.ok fl) { s with heap := h', toks := tk }) : codeAny (model prog w) A (.forLoop t Iv b [] env) R s := by
  refine codeAny_forLoop_any (fun c s' => ∃ rest L1 σ1 h1 tk ρ1 i, s' = { s with heap := h1, toks := tk } ∧ all.drop i = rest ∧ c = rest.length ∧
    forL (fun σ => still σ (.one wv) all) (fun v L σ => match bindT L σ t v with | some L1 => exs F.ex L1 σ b | none => none) rest L1 σ1 = some (f, L', σ') ∧
    Inv CA B h1 ρ1 σ1 ∧ Go (XOf env) hb ρb h1 ρ1 ∧ LocIn B h1 ρ1 env L1 ∧ ItAt h1 ρ1 (.one wv) all i Iv own) ?_ all.length
    ⟨all, L, σ, s.heap, s.toks, ρ, 0, rfl, rfl, rfl, he, I, g, l, x⟩
  rintro c s' ⟨rest, L1, σ1, h1, tk, ρ1, i, rfl, hrest, rfl, he1, I1, g1, l1, x1⟩
  have hst : still σ1 (.one wv) all = true := by
    cases rest with
    | nil =>
      unfold forL at he1
      split at he1
      · assumption
      · cases he1
    | cons =>
      unfold forL at he1
      split at he1
      · assumption
      · cases he1
  refine step_ok (s := { s with heap := h1, toks := tk }) (t := t) ao.hd x1 (fun b hb => (hown b hb).2.1) hst (.inl ⟨_, rfl⟩) I1 ?_ ?_
  · intro dv v h2' tk2 hi go
    refine go _ _ fun h2 gb lv I2 hv x2 => ?_
    cases rest with
    | nil => rw [drop_none hrest] at hi; cases hi
    | cons v0 rest =>
      obtain ⟨e1, e2⟩ := drop_some hrest
      rw [e1] at hi; cases hi
      unfold forL at he1
      rw [if_pos hst] at he1
      have l2 : LocIn B h2 ρ1 env L1 := LocIn.but (fun _ q => q) (fun _ q => q) l1 gb x1.soft
      have g2 := g1.skipBut gb fun b hb => (hown b hb).1
      cases hbt : bindT L1 σ1 t dv with
      | none => rw [hbt] at he1; cases he1
      | some L2 =>
        rw [hbt] at he1
        dsimp only at he1
        refine asg_ok (s := { s with heap := h2, toks := tk2 }) ao.hd eo okT hbt I2 l2 hv fun h3 tk3 I3 g3 l3 _ => ?_
        have g3' := g2.trans g3
        have x3 := x2.go I2 l2.soft g3
        cases hbd : exs F.ex L2 σ1 b with
        | none => rw [hbd] at he1; cases he1
        | some r =>
          obtain ⟨fl, L3, σ3⟩ := r
          rw [hbd] at he1
          refine exs_ok (s := { s with heap := h3, toks := tk3 }) (m := m) G ao eo okB hbd I3 l3 _ _ fun fv h4 tk4 ρ4 I4 g4 l4 hf => ?_
          cases fl with
          | next =>
            cases fv <;> first | exact hf.elim | skip
            exact ⟨rest.length, Nat.lt_succ_self _, rest, L3, σ3, h4, tk4, ρ4, i + 1, rfl, e2, rfl, he1, I4, g3'.trans g4, l4, x3.go I3 l3.soft g4⟩
          | ret r =>
            cases he1
            cases fv <;> first | exact hf.elim | skip
            exact k _ h4 tk4 ρ4 I4 (g3'.trans g4) l4 hf
  · intro hn h2 tk2 gb
    cases rest with
    | cons v0 rest => obtain ⟨e1, _⟩ := drop_some hrest; rw [e1] at hn; cases hn
    | nil =>
      unfold forL at he1
      rw [if_pos hst] at he1
      cases he1
      refine wpAny_execs_nil (k .next h2 tk2 ρ1 (I1.but1 gb fun a ha hb => ((hown a hb).2.2 ha).elim) (g1.skipBut gb fun b hb => (hown b hb).1) (LocIn.but (fun _ q => q) (fun _ q => q) l1 gb x1.soft) True.intro)
end
end Mine
end
section
open PySem PySem.W PyProof.Rows PySem.Calls
set_option linter.unusedSectionVars false
namespace Mine
variable [Hid]
section
variable {T : Tbl} {CA : Str → Option Addr} {K : Frag} {mg mb : Str → Option Value} {B : Heap} {prog : Program} {w : World} {A : Around} {n : Nat} {F : Funs} {s : Shared} {ρ ρ' ρb τ : Rho} {σ σ' : Sto} {env : Env} {L L' : Loc} {d : V} {h h' h0 hb : Heap} {X X0 Y P : Addr → Prop}

theorem turn_at {elt : Expr} {gens : List Comprehension} {sc : Scope} {pos : Pos} {depth : Nat} {it acc : Value} {g : Comprehension} {Q : Fin → Shared → Prop} {E : Value → Shared → Prop} (hg : gens[depth]? = some g) (ha : g.is_async = 0) (hz : ∀ g', gens[depth + 1]? = some g' → g'.is_async = 0 ∧ isSet g'.iter = false)
    (h : wpAny (model prog w) A (pyNext it) (fun r s1 => match r with
      | none => Q (.done .next) s1
      | some v => wpAny (model prog w) A (letOwnedTupleGo g.target it v) (fun _ s1' => wpAny (model prog w) A (assign g.target env v) (fun _ s2 =>
          wpAny (model prog w) A (forIn g.ifs true fun c r => if r = true then do let ok ← isTrue c env (eval c env); pure (ForInStep.yield ok) else pure (ForInStep.yield r)) (fun ok s3 =>
            if ok = true then (match gens[depth + 1]? with
              | some g' => wpAny (model prog w) A (eval g'.iter env) (fun x s4 => wpAny (model prog w) A (pyIter x) (fun it' s5 =>
                  codeAny (model prog w) A (.compStart (.ListComp elt gens sc pos) (depth + 1) it' acc env) (fun r s' => match r with | .ok _ => Q (.again (.compLoop (.ListComp elt gens sc pos) depth it acc env)) s' | .error e => cameBackBy (model prog w) A env E e s') s5) E s4) E s3
              | none => wpAny (model prog w) A (eval elt env) (fun x s4 => wpAny (model prog w) A (call (.builtin "list.append") [acc, x]) (fun _ s5 => Q (.again (.compLoop (.ListComp elt gens sc pos) depth it acc env)) s5) E s4) E s3)
            else Q (.again (.compLoop (.ListComp elt gens sc pos) depth it acc env)) s3) E s2) E s1') E s1) E s) :
    wpAny (model prog w) A (compTurn (.ListComp elt gens sc pos) depth it acc env) Q E s := by
  unfold compTurn
  dsimp only
  rw [hg]
  dsimp only
  have hae : (g.is_async != 0) = false := by rw [ha]; rfl
  rw [hae]
  simp only [Bool.false_eq_true, if_false]
  refine wpAny_bind (wpAny_standAt (wpAny_bind (wpAny_mono h (fun r s₁ h₁ => ?_) fun _ _ h' => h')))
  cases r with
  | none => exact wpAny_pure h₁
  | some v =>
    refine wpAny_bind (wpAny_mono h₁ (fun _ s₁' h₁' => ?_) fun _ _ h' => h')
    refine wpAny_bind (wpAny_mono h₁' (fun _ s₂ h₂ => wpAny_bind (wpAny_mono h₂ (fun ok s₃ h₃ => ?_) fun _ _ h' => h')) fun _ _ h' => h')
    cases ok with
    | false => exact wpAny_pure h₃
    | true =>
      simp only [if_true] at h₃
      cases hg' : gens[depth + 1]? with
      | none =>
        rw [hg'] at h₃
        exact wpAny_bind (wpAny_bind (wpAny_mono h₃ (fun x s₄ h₄ => wpAny_bind (wpAny_mono h₄ (fun _ s₅ h₅ => wpAny_pure (wpAny_pure h₅)) fun _ _ h' => h')) fun _ _ h' => h'))
      | some g' =>
        rw [hg'] at h₃
        obtain ⟨z1, z2⟩ := hz g' hg'
        have hae' : (g'.is_async != 0) = false := by rw [z1]; rfl
        have hfs : ∀ x, foldedSetIterable g'.iter env x = pure x := by
          intro x
          cases hq : g'.iter <;> first | rfl | (rw [hq] at z2; cases z2)
        simp only [hae', Bool.false_eq_true, if_false]
        refine wpAny_bind (wpAny_mono h₃ (fun x s₄ h₄ => wpAny_bind (wpAny_standAt (wpAny_bind ?_))) fun _ _ h' => h')
        refine wpAny_of_eq (hfs x) ?_
        refine wpAny_bind (wpAny_holding (wpAny_mono h₄ (fun it' s₅ h₅ => wpAny_bind (wpAny_runOwn (codeAny_mono h₅ fun r s' hr => ?_))) fun _ _ h' => h'))
        cases r with
        | ok f => exact wpAny_pure hr
        | error e => exact hr

theorem start_at {elt : Expr} {gens : List Comprehension} {sc : Scope} {pos : Pos} {depth : Nat} {it acc : Value} {g : Comprehension} {R : Result → Shared → Prop} (hg : gens[depth]? = some g) (ha : g.is_async = 0)
    (h0 : codeAny (model prog w) A (.compLoop (.ListComp elt gens sc pos) depth it acc env) R s)
    (h : wpAny (model prog w) A (pyIter it) (fun it' s' => codeAny (model prog w) A (.compLoop (.ListComp elt gens sc pos) depth it' acc env) R s') (notedBy (model prog w) A env fun x s' => R (.error x) s') s) :
    codeAny (model prog w) A (.compStart (.ListComp elt gens sc pos) depth it acc env) R s := by
  refine codeAny_of_tree ?_
  show wpAny _ _ ((compStart (.ListComp elt gens sc pos) depth it acc env).onRaise (fun x => do noteFrame x env; standAt theWindowsPlace)) _ _ s
  refine wpAny_notedAt ?_
  unfold compStart
  have hcl : (clausesOf (.ListComp elt gens sc pos))[depth]? = some g := hg
  rw [hcl]
  have hae : (g.is_async != 0) = false := by rw [ha]; rfl
  simp only [Option.elim, hae, Bool.false_eq_true, if_false]
  show wpAny _ _ (ask >>= _) _ _ s
  refine wpAny_bind (wpAny_askSetting (wpAny_ite ?_))
  split
  · first
      | exact wpAny_bind (wpAny_pure (wpAny_pure (And.intro rfl h0)))
      | exact wpAny_pure (And.intro rfl h0)
  · first
      | exact wpAny_bind (wpAny_rule (wpAny_bind (wpAny_standAt (wpAny_bind (wpAny_mono h (fun it' s' h' => wpAny_pure (And.intro rfl h')) fun _ _ x => x)))))
      | (refine wpAny_bind (wpAny_rule ?_); show wpAny _ _ (standAt g.iter.pos >>= _) _ _ s; exact wpAny_bind (wpAny_standAt (wpAny_bind (wpAny_mono h (fun it' s' h' => wpAny_pure (And.intro rfl h')) fun _ _ x => x))))

/-- the tests of a clause -/
theorem tests_ok {m : Nat} (G : GoodF T CA B (model prog w) n F) (a : AOk A n) (eo : EnvOk env) {E : Value → Shared → Prop} : ∀ {es : List Expr} {b : Bool} {σ σ' : Sto} {s : Shared} {ρ : Rho} {Q : Bool → Shared → Prop}, es.all (okE T m env.scope) = true → tests (fun σ e => F.tst L σ e) σ es = some (b, σ') → Inv CA B s.heap ρ σ → LocIn B s.heap ρ env L →
    (∀ h' tk ρ', Inv CA B h' ρ' σ' → Go No s.heap ρ h' ρ' → Q b { s with heap := h', toks := tk }) →
    wpAny (model prog w) A (forIn es true fun c r => if r = true then do let ok ← isTrue c env (eval c env); pure (ForInStep.yield ok) else pure (ForInStep.yield r)) Q E s
  | [], b, σ, σ', s, ρ, Q, _, he, I, l, k => by
    cases he
    exact wpAny_pure (k s.heap s.toks ρ I Go.refl)
  | e :: es, b, σ, σ', s, ρ, Q, ok, he, I, l, k => by
    simp only [List.all_cons, Bool.and_eq_true] at ok
    have hrest : ∀ (es : List Expr) (s : Shared), Q false s → wpAny (model prog w) A (forIn es false fun c r => if r = true then do let ok ← isTrue c env (eval c env); pure (ForInStep.yield ok) else pure (ForInStep.yield r)) Q E s := by
      intro es
      induction es with
      | nil => intro s h; exact wpAny_pure h
      | cons e es ih =>
        intro s h
        rw [List.forIn_cons]
        simp only [Bool.false_eq_true, if_false]
        exact wpAny_bind (wpAny_pure (ih s h))
    unfold tests at he
    rw [List.forIn_cons]
    simp only [if_true]
    split at he
    · rename_i σ1 h1
      refine wpAny_bind (wpAny_bind (G.tst A env L σ e true σ1 m a eo ok.1 h1 s ρ I l _ _ fun h1 tk1 ρ1 I1 g1 => wpAny_pure ?_))
      exact tests_ok (s := { s with heap := h1, toks := tk1 }) G a eo ok.2 he I1 (l.mono I g1) fun h2 tk2 ρ2 I2 g2 => k h2 tk2 ρ2 I2 (g1.trans g2)
    · rename_i σ1 h1
      cases he
      refine wpAny_bind (wpAny_bind (G.tst A env L σ e false σ' m a eo ok.1 h1 s ρ I l _ _ fun h1 tk1 ρ1 I1 g1 => wpAny_pure ?_))
      exact hrest es _ (k h1 tk1 ρ1 I1 g1)
    · cases he
end
end Mine
end
section
open PySem PySem.W PyProof.Rows PySem.Calls
set_option linter.unusedSectionVars false
namespace Mine
variable [Hid]
section
variable {T : Tbl} {CA : Str → Option Addr} {K : Frag} {mg mb : Str → Option Value} {B : Heap} {prog : Program} {w : World} {A : Around} {n : Nat} {F : Funs} {s : Shared} {ρ ρ' ρb τ : Rho} {σ σ' : Sto} {env : Env} {L L' : Loc} {d : V} {h h' h0 hb : Heap} {X X0 Y P : Addr → Prop}

noncomputable def emitC (F : Funs) (n : Nat) (elt : Expr) (gs : List Comprehension) (L1 : Loc) (σ2 : Sto) : Option Sto := match gs with
  | [] => (match F.ev L1 σ2 elt with
    | some (w, σ3) => (match σ3[n]? with
      | some (.list l) => if decide (l.length < most) then some (σ3.set n (.list (l ++ [w]))) else none
      | _ => none)
    | none => none)
  | g :: gs' => (match F.ev L1 σ2 g.iter with
    | some (w, σ3) => (match items σ3 w with
      | some ws => clauses F n elt (g :: gs') L1 (.one w) ws σ3
      | none => none)
    | none => none)
noncomputable def turnC (F : Funs) (n : Nat) (elt t : Expr) (ifs : List Expr) (gs : List Comprehension) (L : Loc) (v : V) (σ : Sto) : Option Sto := match bindT L σ t v with
      | some L1 => (match tests (fun σ e => F.tst L1 σ e) σ ifs with
        | some (false, σ2) => some σ2
        | some (true, σ2) => emitC F n elt gs L1 σ2
        | none => none)
      | none => none
theorem clauses_cons {F : Funs} {n : Nat} {elt : Expr} {g : Comprehension} {gs : List Comprehension} {L : Loc} {it : It} {vs : List V} {σ : Sto} :
    clauses F n elt (g :: gs) L it vs σ = compL (fun σ => still σ it vs) (turnC F n elt g.target g.ifs gs L) vs σ := by
  obtain ⟨t, i, ifs, a⟩ := g
  rw [clauses]
  cases gs <;> rfl

theorem updL_out {x : Str} : ∀ {xs : List Str} {vs : List V} {L : Loc}, x ∉ xs → updL L xs vs x = L x
  | [], _, _, _ => by unfold updL; rfl
  | y :: xs, [], _, _ => by unfold updL; rfl
  | y :: xs, v :: vs, L, h => by
    unfold updL
    rw [updL_out fun q => h (.tail _ q)]
    exact if_neg fun q => h (by rw [q]; exact .head _)
theorem bindT_out {t : Expr} {x : Str} (hb : bindT L σ t d = some L') (hx : x ∉ tNames t) : L' x = L x := by
  unfold bindT at hb
  split at hb
  · cases hb; exact if_neg fun q => hx (by rw [q]; exact .head _)
  · split at hb
    · rename_i hxs
      split at hb
      · cases hb; rw [names_t hxs] at hx; exact updL_out hx
      · cases hb
    · rename_i hxs
      split at hb
      · split at hb
        · cases hb; rw [names_t hxs] at hx; exact updL_out hx
        · cases hb
      · cases hb
    · cases hb
  · cases hb

theorem LocIn.less (l : LocIn B h ρ env L') (hL : ∀ x d, L x = some d → L' x = some d) : LocIn B h ρ env L :=
  ⟨l.ns, l.off, fun x d hx hv => l.rd x d (hL x d hx) hv, l.cell, l.cells, l.apart, l.nb⟩

structure OkG (T : Tbl) (m : Nat) (env : Env) (g : Comprehension) : Prop where
  as_ : g.is_async = 0
  tg : okTarget env.scope g.target = true
  loc : ∀ x ∈ tNames g.target, env.kindOf x = some .local
  set : isSet g.iter = false
  ifs : g.ifs.all (okE T m env.scope) = true

theorem LocIn.softL (l : LocIn B h ρ env L) : Soft (fun b => b = env.locals) h := by
  rintro b o rfl e
  obtain ⟨m, o', es, ep, e', hd, _⟩ := l.ns
  rw [e] at e'; cases e'
  exact .inl ⟨_, _, hd⟩

def emitP (prog : Program) (w : World) (A : Around) (gens : List Comprehension) (depth : Nat) (elt : Expr) (sc : Scope) (pos : Pos) (env : Env) (acc : Value) (Q' : Shared → Prop) (E : Value → Shared → Prop) (s3 : Shared) : Prop := match gens[depth + 1]? with
  | some g' => wpAny (model prog w) A (eval g'.iter env) (fun x s4 => wpAny (model prog w) A (pyIter x) (fun it' s5 =>
      codeAny (model prog w) A (.compStart (.ListComp elt gens sc pos) (depth + 1) it' acc env) (fun r s' => match r with | .ok _ => Q' s' | .error e => cameBackBy (model prog w) A env E e s') s5) E s4) E s3
  | none => wpAny (model prog w) A (eval elt env) (fun x s4 => wpAny (model prog w) A (call (.builtin "list.append") [acc, x]) (fun _ s5 => Q' s5) E s4) E s3

theorem comp_loop {elt : Expr} {gens gs : List Comprehension} {g : Comprehension} {depth : Nat} {sc : Scope} {pos : Pos} {m n0 : Nat} {D : Addr} (G : GoodF T CA B (model prog w) n F) (ao : AOk A n) (eo : EnvOk env) (hdrop : gens.drop depth = g :: gs)
    (okg : OkG T m env g) (okgs : ∀ g' ∈ gs, g'.is_async = 0 ∧ isSet g'.iter = false)
    (hin : ∀ {L1 : Loc} {σ2 σ3 : Sto} {s : Shared} {ρ : Rho} {Q' : Shared → Prop} {E : Value → Shared → Prop}, (∀ x ∈ gs.flatMap fun g => tNames g.target, L1 x = none) → emitC F n0 elt gs L1 σ2 = some σ3 → Inv CA B s.heap ρ σ2 → LocIn B s.heap ρ env L1 → ρ[n0]? = some (D, D) →
      (∀ h' tk ρ', Inv CA B h' ρ' σ3 → Go (fun b => b = env.locals) s.heap ρ h' ρ' → LocIn B h' ρ' env L1 → Q' { s with heap := h', toks := tk }) → emitP prog w A gens depth elt sc pos env (.ref D) Q' E s)
    (hnd : ((g :: gs).flatMap fun g => tNames g.target).Nodup)
    {P2 : Addr → Prop} {it : It} {all : List V} {Iv : Value} {own : List Addr} {L : Loc} {σ σ' : Sto} {s : Shared} {ρ ρb : Rho} {hb : Heap} {X0 : Addr → Prop} {R : Result → Shared → Prop} (hL : ∀ x ∈ (g :: gs).flatMap fun g => tNames g.target, L x = none)
      (hown : ∀ b ∈ own, hb.get? b = none ∧ B.get? b = none ∧ ¬ P2 b) (hz : (∃ v, it = .one v) ∨ isTuple g.target = true) (le : ∀ a, P2 a → Hid.H a) (hX : hb.get? env.locals = none ∨ X0 env.locals)
      (he : clauses F n0 elt (g :: gs) L it all σ = some σ') (I : Inv CA B s.heap ρ σ) (gg : Go X0 hb ρb s.heap ρ) (l : LocIn B s.heap ρ env L) (x : ItAt s.heap ρ it all 0 Iv own) (hD : ρ[n0]? = some (D, D))
      (k : ∀ h' tk ρ', @Inv ⟨P2⟩ CA B h' ρ' σ' → Go X0 hb ρb h' ρ' → @LocIn ⟨P2⟩ B h' ρ' env L → ρ'[n0]? = some (D, D) → R (.ok .next) { s with heap := h', toks := tk }) : codeAny (model prog w) A (.compLoop (.ListComp elt gens sc pos) depth Iv (.ref D) env) R s := by
  rw [clauses_cons] at he
  refine codeAny_loop rfl (fun c s' => ∃ rest σ1 h1 tk ρ1 i, s' = { s with heap := h1, toks := tk } ∧ all.drop i = rest ∧ c = rest.length ∧
    compL (fun σ => still σ it all) (turnC F n0 elt g.target g.ifs gs L) rest σ1 = some σ' ∧
    Inv CA B h1 ρ1 σ1 ∧ Go X0 hb ρb h1 ρ1 ∧ LocIn B h1 ρ1 env L ∧ ItAt h1 ρ1 it all i Iv own ∧ ρ1[n0]? = some (D, D)) ?_ all.length
    ⟨all, σ, s.heap, s.toks, ρ, 0, rfl, rfl, rfl, he, I, gg, l, x, hD⟩
  rintro c s' ⟨rest, σ1, h1, tk, ρ1, i, rfl, hrest, rfl, he1, I1, g1, l1, x1, hD1⟩
  have hst : still σ1 it all = true := by
    cases rest with
    | nil =>
      unfold compL at he1
      split at he1
      · assumption
      · cases he1
    | cons =>
      unfold compL at he1
      split at he1
      · assumption
      · cases he1
  have hg0 : gens[depth]? = some g := by
    have := congrArg (·[0]?) hdrop
    simpa [List.getElem?_drop] using this
  have hg1 : gens[depth + 1]? = gs[0]? := by
    have := congrArg (·[1]?) hdrop
    simpa [List.getElem?_drop] using this
  show wpAny _ A ((compTurn (.ListComp elt gens sc pos) depth Iv (.ref D) env).onRaise (fun x => do noteFrame x env; theTreesLotGoes x)) _ _ _
  refine wpAny_noted ?_
  refine turn_at hg0 okg.as_ (fun g' hg' => ?_) ?_
  · rw [hg1] at hg'
    exact okgs g' (List.mem_of_getElem? hg')
  refine step_ok (s := { s with heap := h1, toks := tk }) (t := g.target) ao.hd x1 (fun b hb => (hown b hb).2.1) hst hz I1 ?_ ?_
  · intro dv v h2' tk2 hi go
    refine go _ _ fun h2 gb lv I2 hv x2 => ?_
    cases rest with
    | nil => rw [drop_none hrest] at hi; cases hi
    | cons v0 rest =>
      obtain ⟨e1, e2⟩ := drop_some hrest
      rw [e1] at hi; cases hi
      unfold compL at he1
      rw [if_pos hst] at he1
      have l2 : LocIn B h2 ρ1 env L := LocIn.but (fun _ q => q) (fun _ q => q) l1 gb x1.soft
      have g2 := g1.skipBut gb fun b hb => (hown b hb).1
      cases hbt : bindT L σ1 g.target dv with
      | none => unfold turnC at he1; rw [hbt] at he1; cases he1
      | some L1 =>
        cases hq : turnC F n0 elt g.target g.ifs gs L dv σ1 with
        | none => rw [hq] at he1; cases he1
        | some σ4 =>
          rw [hq] at he1
          dsimp only at he1
          unfold turnC at hq
          rw [hbt] at hq
          dsimp only at hq
          have hback : ∀ x d, L x = some d → L1 x = some d := fun y dy hy => by
            rw [bindT_out hbt fun hm => ?_]
            · exact hy
            · have := hL y (by rw [List.flatMap_cons]; exact List.mem_append.mpr (.inl hm))
              rw [this] at hy; cases hy
          have hL1 : ∀ x ∈ gs.flatMap fun g => tNames g.target, L1 x = none := fun y hy => by
            rw [List.flatMap_cons] at hnd hL
            rw [bindT_out hbt fun hm => ?_]
            · exact hL y (List.mem_append.mpr (.inr hy))
            · exact (List.nodup_append.mp hnd).2.2 y hm y hy rfl
          refine asg_ok (s := { s with heap := h2, toks := tk2 }) ao.hd eo okg.tg hbt I2 l2 hv fun h3 tk3 I3 g3 l3 q3 => ?_
          have g3' : Go X0 hb ρb h3 ρ1 := g2.skip (q3 okg.loc) fun b hb => by rw [hb]; exact hX
          have x3 := x2.go I2 l2.soft g3
          cases htst : tests (fun σ e => F.tst L1 σ e) σ1 g.ifs with
          | none => rw [htst] at hq; cases hq
          | some r =>
            obtain ⟨b, σ2⟩ := r
            rw [htst] at hq
            refine tests_ok (s := { s with heap := h3, toks := tk3 }) (m := m) G ao eo okg.ifs htst I3 l3 fun h4 tk4 ρ4 I4 g4 => ?_
            have l4 := l3.mono I3 g4
            have x4 := x3.go I3 Soft.no g4
            have g4' := g3'.trans g4.weaken
            have hD4 := g4.get hD1
            cases b with
            | false =>
              cases hq
              rw [if_neg (by decide)]
              exact ⟨rfl, rest.length, Nat.lt_succ_self _, rest, _, h4, tk4, ρ4, i + 1, rfl, e2, rfl, he1, I4, g4', l4.less hback, x4, hD4⟩
            | true =>
              rw [if_pos rfl]
              refine hin (s := { s with heap := h4, toks := tk4 }) hL1 hq I4 l4 hD4 fun h5 tk5 ρ5 I5 g5 l5 => ?_
              exact ⟨rfl, rest.length, Nat.lt_succ_self _, rest, σ4, h5, tk5, ρ5, i + 1, rfl, e2, rfl, he1, I5, g4'.skip g5 (fun b hb => by rw [hb]; exact hX), l5.less hback, x4.go I4 l4.softL g5, g5.get hD4⟩
  · intro hn h2 tk2 gb
    cases rest with
    | cons v0 rest => obtain ⟨e1, _⟩ := drop_some hrest; rw [e1] at hn; cases hn
    | nil =>
      unfold compL at he1
      rw [if_pos hst] at he1
      cases he1
      refine k h2 tk2 ρ1 (Inv.but (fun _ q => q) le I1 gb fun a ha => ?_) (g1.skipBut gb fun b hb => (hown b hb).1) (LocIn.but (fun _ q => q) le l1 gb x1.soft) hD1
      obtain ⟨o, e, hc, its, nn, hd⟩ := (I1.hid a (le a ha)).2
      exact ⟨o, gb.ext a o e fun hm => (hown a hm).2.2 ha, hc, its, nn, hd⟩

/-- the clauses of a comprehension, from one on -/
theorem comp_ok {elt : Expr} {gens : List Comprehension} {sc : Scope} {pos : Pos} {m n0 : Nat} {D : Addr} (G : GoodF T CA B (model prog w) n F) (ao : AOk A n) (eo : EnvOk env) (okElt : okE T m env.scope elt = true) : ∀ (gs : List Comprehension) (g : Comprehension) (depth : Nat), gens.drop depth = g :: gs →
    OkG T m env g → (∀ g' ∈ gs, OkG T m env g' ∧ okE T m env.scope g'.iter = true) → ((g :: gs).flatMap fun g => tNames g.target).Nodup →
    ∀ {P2 : Addr → Prop} {it : It} {all : List V} {Iv : Value} {own : List Addr} {L : Loc} {σ σ' : Sto} {s : Shared} {ρ ρb : Rho} {hb : Heap} {X0 : Addr → Prop} {R : Result → Shared → Prop}, (∀ x ∈ (g :: gs).flatMap fun g => tNames g.target, L x = none) →
      (∀ b ∈ own, hb.get? b = none ∧ B.get? b = none ∧ ¬ P2 b) → ((∃ v, it = .one v) ∨ isTuple g.target = true) → (∀ a, P2 a → Hid.H a) → (hb.get? env.locals = none ∨ X0 env.locals) →
      clauses F n0 elt (g :: gs) L it all σ = some σ' → Inv CA B s.heap ρ σ → Go X0 hb ρb s.heap ρ → LocIn B s.heap ρ env L → ItAt s.heap ρ it all 0 Iv own → ρ[n0]? = some (D, D) →
      (∀ h' tk ρ', @Inv ⟨P2⟩ CA B h' ρ' σ' → Go X0 hb ρb h' ρ' → @LocIn ⟨P2⟩ B h' ρ' env L → ρ'[n0]? = some (D, D) → R (.ok .next) { s with heap := h', toks := tk }) → codeAny (model prog w) A (.compLoop (.ListComp elt gens sc pos) depth Iv (.ref D) env) R s := by
  intro gs
  induction gs with
  | nil =>
    intro g depth hdrop okg _ hnd P2 it all Iv own L σ σ' s ρ ρb hb X0 R hL hown hz le hX he I gg l x hD k
    refine comp_loop G ao eo hdrop okg (fun g' hg' => nomatch hg') ?_ hnd hL hown hz le hX he I gg l x hD k
    intro L1 σ2 σ3 s ρ Q' E _ hem I l hD kk
    have hg1 : gens[depth + 1]? = none := by
      have := congrArg (·[1]?) hdrop
      simpa [List.getElem?_drop] using this
    unfold emitP
    rw [hg1]
    unfold emitC at hem
    dsimp only at hem ⊢
    split at hem
    · rename_i wv σ4 h1
      split at hem
      · rename_i ll e1
        split at hem
        · rename_i hsz
          cases hem
          refine G.ev A env L1 σ2 elt wv σ4 m ao eo okElt h1 s ρ I l _ _ fun v h5 tk5 ρ5 I5 g5 hv => ?_
          have hD5 := g5.get hD
          obtain ⟨a', us, c, e', hp, hx, r⟩ := I5.list (s := { s with heap := h5, toks := tk5 }) e1 (VIn.obj (p := (D, D)) hD5)
          cases e'
          have hsz' := of_decide_eq_true hsz
          refine wpAny_list_append_plain ⟨c, hx⟩ (fun hc pc sc => ?_) (by rw [list_of_set (s := { s with heap := h5, toks := tk5 }) r]; exact most_lt (Nat.le_of_lt hsz'))
          have T := I5.turn (p := (D, D)) (ob := .list (ll ++ [wv])) hD5 sc (by obtain ⟨z, e⟩ := pc; exact ⟨_, e⟩) fun g => by
            have e : us.toArray.push v = (us ++ [v]).toArray := by simp
            rw [e] at pc
            exact .list pc ((r.append (.cons hv .nil)).mono Soft.no I5 g)
          have gg := g5.trans T.2
          exact kk hc tk5 ρ5 T.1 gg.weaken (l.mono I gg)
        · cases hem
      · cases hem
    · cases hem
  | cons g' gs ih =>
    intro g depth hdrop okg okgs hnd P2 it all Iv own L σ σ' s ρ ρb hb X0 R hL hown hz le hX he I gg l x hD k
    refine comp_loop G ao eo hdrop okg (fun g' hg' => ⟨(okgs g' hg').1.as_, (okgs g' hg').1.set⟩) ?_ hnd hL hown hz le hX he I gg l x hD k
    intro L1 σ2 σ3 s ρ Q' E hL1 hem I l hD kk
    have hg1 : gens[depth + 1]? = some g' := by
      have := congrArg (·[1]?) hdrop
      simpa [List.getElem?_drop] using this
    have hdrop' : gens.drop (depth + 1) = g' :: gs := by rw [← List.drop_drop, hdrop]; rfl
    unfold emitP
    rw [hg1]
    unfold emitC at hem
    dsimp only at hem ⊢
    split at hem
    · rename_i wv σ4 h1
      split at hem
      · rename_i ws hws
        refine G.ev A env L1 σ2 g'.iter wv σ4 m ao eo (okgs g' (.head _)).2 h1 s ρ I l _ _ fun v h5 tk5 ρ5 I5 g5 hv => ?_
        refine iter_ok (s := { s with heap := h5, toks := tk5 }) hws I5 hv fun h6 Iv6 own6 kp x6 hf => ?_
        have I6 := I5.grow kp
        have g6 : Go No h5 ρ5 h6 ρ5 := Go.grow kp
        have l6 := (l.mono I g5).mono I5 g6
        have hnd' : ((g' :: gs).flatMap fun g => tNames g.target).Nodup := by
          rw [List.flatMap_cons] at hnd
          exact (List.nodup_append.mp hnd).2.1
        have body := fun (R : Result → Shared → Prop) (k : ∀ h' tk ρ', Inv CA B h' ρ' σ3 → Go (fun b => b = env.locals) h5 ρ5 h' ρ' → LocIn B h' ρ' env L1 → ρ'[n0]? = some (D, D) → R (.ok .next) { s with heap := h', toks := tk }) =>
          ih g' (depth + 1) hdrop' (okgs g' (.head _)).1 (fun g2 hg2 => okgs g2 (.tail _ hg2)) hnd' (P2 := Hid.H) (it := .one wv) (all := ws) (Iv := Iv6) (own := own6) (L := L1) (σ := σ4) (σ' := σ3) (s := { s with heap := h6, toks := tk5 }) (ρ := ρ5) (ρb := ρ5) (hb := h5) (X0 := fun b => b = env.locals) (R := R) hL1 hf (.inl ⟨_, rfl⟩) (fun _ q => q) (.inr rfl) hem I6 g6.weaken l6 x6 (g5.get hD) k
        refine start_at hg1 (okgs g' (.head _)).1.as_ (body _ fun h7 tk7 ρ7 I7 g7 l7 _ => kk h7 tk7 ρ7 I7 (g5.weaken.trans g7) l7) (self_ok (s := { s with heap := h6, toks := tk5 }) x6 (body _ fun h7 tk7 ρ7 I7 g7 l7 _ => kk h7 tk7 ρ7 I7 (g5.weaken.trans g7) l7))
      · cases hem
    · cases hem
end
end Mine
end
section
open PySem PySem.W PyProof.Rows PySem.Calls
set_option linter.unusedSectionVars false
namespace Mine
variable [Hid]
section
variable {T : Tbl} {CA : Str → Option Addr} {K : Frag} {mg mb : Str → Option Value} {B : Heap} {prog : Program} {w : World} {A : Around} {n : Nat} {F : Funs} {s : Shared} {ρ ρ' ρb τ : Rho} {σ σ' : Sto} {env : Env} {L L' : Loc} {d : V} {h h' h0 hb : Heap} {X X0 Y P P1 : Addr → Prop}

section
variable (kp : ∀ b o, h.get? b = some o → h'.get? b = some o) (p : ∀ a, P1 a → Hid.H a ∨ h.get? a = none)
include kp p
mutual
theorem VIn.enter : ∀ {d : V} {v : Value}, VIn h ρ d v → @VIn ⟨P1⟩ h' ρ d v
  | _, _, .none => @VIn.none ⟨P1⟩ _ _
  | _, _, .bool b => @VIn.bool ⟨P1⟩ _ _ b
  | _, _, .int i t => @VIn.int ⟨P1⟩ _ _ i t
  | _, _, .str x t => @VIn.str ⟨P1⟩ _ _ x t
  | _, _, .tup ht r hh => @VIn.tup ⟨P1⟩ _ _ _ _ _ (ht.elim fun o q => ⟨o, kp _ _ q.1, q.2⟩) (VAll.enter r) fun q => by
      rcases p _ q with q | q
      · exact hh q
      · obtain ⟨o, e, _⟩ := ht; rw [q] at e; cases e
  | _, _, .obj e => @VIn.obj ⟨P1⟩ _ _ _ _ e
  | _, _, .rng r => @VIn.rng ⟨P1⟩ _ _ _ _ _ _ _ _ (kp _ _ r)
  | _, _, .lst a => @VIn.lst ⟨P1⟩ _ _ a
theorem VAll.enter : ∀ {l : List V} {vs : List Value}, VAll h ρ l vs → @VAll ⟨P1⟩ h' ρ l vs
  | _, _, .nil => @VAll.nil ⟨P1⟩ _ _
  | _, _, .cons a r => @VAll.cons ⟨P1⟩ _ _ _ _ _ _ (VIn.enter a) (VAll.enter r)
end
theorem FsIn.enter : ∀ {fs : List (Str × V)} {es : List DictEntry}, FsIn h ρ fs es → @FsIn ⟨P1⟩ h' ρ fs es
  | [], [], _ => True.intro
  | (_, _) :: _, _ :: _, ⟨a, b, c⟩ => ⟨a, VIn.enter kp p b, FsIn.enter c⟩
theorem Inv.enter (I : Inv CA B h ρ σ) (hid : ∀ a, P1 a → ¬ Hid.H a → ∃ o, h'.get? a = some o ∧ o.cls = .type "tuple" ∧ ∃ its n, o.data = .seq its n) : @Inv ⟨P1⟩ CA B h' ρ σ := by
  refine @Inv.mk ⟨P1⟩ CA B h' ρ σ (fun b o e => kp b o (I.keep b o e)) I.len (fun i ob q e f => ?_) I.nd I.fr fun a ha => ?_
  · have := I.obs i ob q e f
    cases this with
    | list pl r => exact @ObIn.list ⟨P1⟩ _ _ _ _ _ _ (PlainList.keep pl (kp _)) (VAll.enter kp p r)
    | inst hc hx hd hf => exact @ObIn.inst ⟨P1⟩ _ _ _ _ _ _ _ _ _ _ hc (kp _ _ hx) (kp _ _ hd) (FsIn.enter kp p hf)
  · by_cases q : Hid.H a
    · obtain ⟨b, o, e, r⟩ := I.hid a q; exact ⟨b, o, kp _ _ e, r⟩
    · refine ⟨?_, hid a ha q⟩
      rcases p a ha with q' | q'
      · exact absurd q' q
      · cases e : B.get? a with
        | none => rfl
        | some o => rw [I.keep _ _ e] at q'; cases q'
theorem LocIn.enter (l : LocIn B h ρ env L) : @LocIn ⟨P1⟩ B h' ρ env L := by
  have hns : ∀ m, h.Ns env.locals m → h'.Ns env.locals m := fun m ⟨o, es, ep, e, r⟩ => ⟨o, es, ep, kp _ _ e, r⟩
  have hcl : ∀ c v, h.IsCell c v → h'.IsCell c v := fun c v ⟨o, e, r⟩ => ⟨o, kp _ _ e, r⟩
  refine @LocIn.mk ⟨P1⟩ B h' ρ env L (l.ns.elim fun m hm => ⟨m, hns m hm⟩) l.off (fun x d hx hv => ?_) l.cell (fun x c hx => (l.cells x c hx).elim fun v hv => ⟨v, hcl c _ hv⟩) l.apart l.nb
  obtain ⟨v, hV, q⟩ := l.rd x d hx hv
  refine ⟨v, VIn.enter kp p hV, ?_⟩
  rcases q with ⟨k, m, hm, e⟩ | ⟨k, c, hc, e⟩
  · exact .inl ⟨k, m, hns m hm, e⟩
  · exact .inr ⟨k, c, hc, hcl c _ e⟩
end

theorem closure_ok : ∀ (names : List (Str × NameKind)), (∀ x ∈ names, x.2 = .free → ∃ c, env.cells.lookup x.1 = some c) → ∀ acc : List (Str × Addr), ∃ cl, (forIn names acc fun (p : Str × NameKind) (cs : List (Str × Addr)) => (if p.2 == .free then do let c ← cellOf env p.1; pure (ForInStep.yield ((p.1, c) :: cs)) else pure (ForInStep.yield cs) : Sem _)) = pure cl ∧
    (∀ x c, cl.lookup x = some c → env.cells.lookup x = some c ∨ acc.lookup x = some c) ∧ (∀ x, ((x, NameKind.free) ∈ names ∨ (acc.lookup x).isSome) → (cl.lookup x).isSome)
  | [], _, acc => ⟨acc, rfl, fun _ _ h => .inr h, fun x h => h.elim (fun q => nomatch q) id⟩
  | (y, kd) :: names, h, acc => by
    by_cases hk : kd = .free
    · subst hk
      obtain ⟨c, hc⟩ := h (y, .free) (.head _) rfl
      obtain ⟨cl, e, h1, h2⟩ := closure_ok names (fun x hx => h x (.tail _ hx)) ((y, c) :: acc)
      refine ⟨cl, ?_, fun x c' hx => ?_, fun x hx => ?_⟩
      · rw [List.forIn_cons]
        have : cellOf env y = pure c := by unfold cellOf; rw [hc]
        simp only [beq_self_eq_true, if_true, this]
        exact e
      · rcases h1 x c' hx with q | q
        · exact .inl q
        · rw [List.lookup_cons] at q
          by_cases hxy : x = y
          · subst hxy
            simp only [beq_self_eq_true] at q
            cases q; exact .inl hc
          · have : (x == y) = false := by simpa using hxy
            rw [this] at q; exact .inr q
      · refine h2 x ?_
        by_cases hxy : x = y
        · subst hxy; exact .inr (by rw [List.lookup_cons]; simp)
        · have q1 : (x == y) = false := by simpa using hxy
          rcases hx with hx | hx
          · rcases List.mem_cons.mp hx with hx | hx
            · cases hx; exact absurd rfl hxy
            · exact .inl hx
          · exact .inr (by rw [List.lookup_cons, q1]; exact hx)
    · obtain ⟨cl, e, h1, h2⟩ := closure_ok names (fun x hx => h x (.tail _ hx)) acc
      refine ⟨cl, ?_, h1, fun x hx => h2 x ?_⟩
      · rw [List.forIn_cons]
        have : (kd == NameKind.free) = false := by simpa using hk
        simp only [this, Bool.false_eq_true, if_false]
        exact e
      · rcases hx with hx | hx
        · rcases List.mem_cons.mp hx with hx | hx
          · cases hx; exact absurd rfl hk
          · exact .inl hx
        · exact .inr hx

theorem closure_for {sc : Scope} (h : ∀ x ∈ sc.names, x.2 = .free → ∃ c, env.cells.lookup x.1 = some c) : ∃ cl, closureFor sc env = pure cl ∧ (∀ x c, cl.lookup x = some c → env.cells.lookup x = some c) ∧ (∀ x, (x, NameKind.free) ∈ sc.names → ∃ c, cl.lookup x = some c) := by
  obtain ⟨cl, e, h1, h2⟩ := closure_ok sc.names h []
  refine ⟨cl, ?_, fun x c hx => (h1 x c hx).resolve_right (by simp), fun x hx => Option.isSome_iff_exists.mp (h2 x (.inl hx))⟩
  unfold closureFor
  have e' : (forIn sc.names ([] : List (Str × Addr)) fun (p : Str × NameKind) (cs : List (Str × Addr)) => (match p with | (name, kind) => if kind == .free then do let c ← cellOf env name; pure (ForInStep.yield ((name, c) :: cs)) else pure (ForInStep.yield cs) : Sem _)) = pure cl := e
  simp only [bind_pure]
  exact e'

/-- what is gone over is evaluated, and an iterator made -/
theorem over_ok {t it : Expr} {m : Nat} {wv : It} {vs : List V} {σ1 : Sto} {Q : Value → Shared → Prop} {E : Value → Shared → Prop} (g : Gnd T CA K mg mb B) (G : GoodF T CA B (model prog w) n F) (ao : AOk A (n + 1)) (eo : EnvOk env) (ok : okE T m env.scope it = true) (he : overE T F L σ t it = some (wv, vs, σ1)) (I : Inv CA B s.heap ρ σ) (l : LocIn B s.heap ρ env L)
    (k : ∀ (P1 : Addr → Prop) Iv own h' tk ρ', (∀ a, Hid.H a → P1 a) → @Inv ⟨P1⟩ CA B h' ρ' σ1 → Go No s.heap ρ h' ρ' → @ItAt ⟨P1⟩ h' ρ' wv vs 0 Iv own → (∀ b ∈ own, s.heap.get? b = none ∧ B.get? b = none ∧ ¬ Hid.H b) → @LocIn ⟨P1⟩ B h' ρ' env L → ((∃ v, wv = .one v) ∨ isTuple t = true) → Q Iv { s with heap := h', toks := tk }) :
    wpAny (model prog w) A (eval it env) (fun x s1 => wpAny (model prog w) A (pyIter x) Q E s1) E s := by
  have plain : ∀ {v : V}, F.ev L σ it = some (v, σ1) → items σ1 v = some vs → wv = .one v → wpAny (model prog w) A (eval it env) (fun x s1 => wpAny (model prog w) A (pyIter x) Q E s1) E s := by
    intro v h1 h2 h3
    subst h3
    refine G.ev A env L σ it v σ1 m ao.down eo ok h1 s ρ I l _ _ fun u h1 tk1 ρ1 I1 g1 hu => ?_
    refine iter_ok (s := { s with heap := h1, toks := tk1 }) h2 I1 hu fun h2 Iv own kp x hf => ?_
    refine k Hid.H Iv own h2 tk1 ρ1 (fun _ q => q) (I1.grow kp) (g1.trans (Go.grow kp)) x (fun b hb => ⟨?_, (hf b hb).2⟩) ((l.mono I g1).mono I1 (Go.grow kp)) (.inl ⟨_, rfl⟩)
    cases q : s.heap.get? b with
    | none => rfl
    | some o => obtain ⟨o', e⟩ := g1.live b o q; rw [(hf b hb).1] at e; cases e
  unfold overE at he
  split at he
  · rename_i es ctx tp x q a b pos
    split at he
    · rename_i hzip
      split at he
      · rename_i v σ2 hv
        split at he
        · rename_i w' σ3 hw
          split at he
          · rename_i mm kk
            split at he
            · rename_i ll rr e1 e2
              cases he
              cases m with
              | zero => cases ok
              | succ m =>
                unfold okE at ok
                simp only [Bool.and_eq_true] at ok
                obtain ⟨⟨oka, hn⟩, okx⟩ := ok
                have hd : (x == ("__debug__" : Str)) = false := by simpa using okx.1
                have hg : env.kindOf x = some .globalImplicit := beq_iff_eq.mp okx.2
                obtain ⟨m1, m2⟩ := g.bi x .zip hzip
                have h1 : evs (F.ev L) σ [a, b] = some ([.obj mm, .obj kk], σ1) := by unfold evs; rw [hv]; dsimp only; unfold evs; rw [hw]; rfl
                refine wpAny_Call_NameR (Name_function_global eo.kind hg (loadGlobal_builtin (by rw [eo.gl]; exact g.ns I) m1 (by rw [eo.bi]; exact g.nb I) m2 ?_) hd)
                refine callW (m := m) G ao.down eo (keep_bi .zip) (by simpa using oka) h1 I l fun ws h2 tk2 ρ2 I2 g2 hw2 => ?_
                cases hw2 with
                | @cons _ u1 _ us y1 y2 =>
                  cases y2 with
                  | @cons _ u2 _ us y2 y3 =>
                    cases y3
                    obtain ⟨a1, us1, c1, rfl, hp1, hL1, r1⟩ := I2.list (s := { s with heap := h2, toks := tk2 }) e1 y1
                    obtain ⟨a2, us2, c2, rfl, hp2, hL2, r2⟩ := I2.list (s := { s with heap := h2, toks := tk2 }) e2 y2
                    refine call_zip_2 (s := { s with heap := h2, toks := tk2 }) (PySem.IsL.isList (n := c1) hL1) (PySem.IsL.isList (n := c2) hL2) fun h3 z1 z2 z3 z4 z5 _ kp => ?_
                    have lt1 : @LT.lt Nat instLTNat a1 h2.objs.size := Heap.lt_size hL1
                    have lt2 : @LT.lt Nat instLTNat a2 h2.objs.size := Heap.lt_size hL2
                    dsimp only at z1 z2 z3 z4 z5
                    obtain ⟨N, hN⟩ : ∃ N : Nat, N = h2.objs.size := ⟨_, rfl⟩
                    rw [← hN] at z1 z2 z3 z4 z5 lt1 lt2
                    have fresh : ∀ b, N ≤ b → h2.get? b = none := fun b hb => by
                      cases q : h2.get? b with
                      | none => rfl
                      | some o => have q2 : b < h2.objs.size := Heap.lt_size q; omega
                    show wpAny (model prog w) A (pyIter (.ref (h2.objs.size + 4))) Q E { s with heap := h3, toks := tk2 }
                    rw [← hN]
                    refine wpAny_pyIter_zip (s := { s with heap := h3, toks := tk2 }) z1 ?_
                    have p : ∀ a, (Hid.H a ∨ a = N + 3) → Hid.H a ∨ h2.get? a = none := fun a q => q.imp id fun q => fresh a (by rw [q]; exact Nat.le_add_right _ _)
                    have D : ZipApart (N + 4) (N + 2) (N + 3) N (N + 1) a1 a2 := by constructor <;> (refine fun (q : @Eq Nat _ _) => ?_) <;> omega
                    refine k (fun a => Hid.H a ∨ a = N + 3) (.ref (N + 4)) [N + 4, N + 3, N, N + 1] h3 tk2 ρ2 (fun _ q => .inl q) (Inv.enter kp p I2 fun a q q' => ?_) (g2.trans (Go.grow kp)) (@ItAt.zip ⟨fun a => Hid.H a ∨ a = N + 3⟩ _ _ _ _ _ _ _ _ _ _ _ _ _ _ _ D hp1 hp2 z1 z2 z3 z4 z5 (.inr rfl)) (fun b hb => ?_) (LocIn.enter kp p (l.mono I g2)) (.inr rfl)
                    · rcases q with q | q
                      · exact absurd q q'
                      · rw [q]; exact ⟨_, z3, rfl, _, _, rfl⟩
                    · have hge : N ≤ b := by
                        simp only [List.mem_cons, List.not_mem_nil, or_false] at hb
                        rcases hb with q | q | q | q <;> rw [q] <;> first | exact Nat.le_add_right _ _ | exact Nat.le_refl _
                      have e0 := fresh b hge
                      refine ⟨?_, ?_, I2.notHid e0⟩
                      · cases q : s.heap.get? b with
                        | none => rfl
                        | some o => obtain ⟨o', e⟩ := g2.live b o q; rw [e0] at e; cases e
                      · cases q : B.get? b with
                        | none => rfl
                        | some o => rw [I2.keep _ _ q] at e0; cases e0
            · cases he
          · cases he
        · cases he
      · cases he
    · split at he
      · rename_i v σ2 hv
        obtain ⟨l0, hl0, e⟩ := Option.map_eq_some_iff.mp he
        cases e
        exact plain hv hl0 rfl
      · cases he
  · split at he
    · rename_i v σ2 hv
      obtain ⟨l0, hl0, e⟩ := Option.map_eq_some_iff.mp he
      cases e
      exact plain hv hl0 rfl
    · cases he
end
end Mine
end
section
open PySem PySem.W PyProof.Rows PySem.Calls
set_option linter.unusedSectionVars false
namespace Mine
variable [Hid]
section
variable {T : Tbl} {CA : Str → Option Addr} {K : Frag} {mg mb : Str → Option Value} {B : Heap} {prog : Program} {w : World} {A : Around} {n : Nat} {F : Funs} {s : Shared} {ρ ρ' ρb τ : Rho} {σ σ' : Sto} {env : Env} {L L' : Loc} {d : V} {h h' h0 hb : Heap} {X X0 Y P P1 : Addr → Prop}

theorem relabel_look {names : List (Str × NameKind)} {f : Str → NameKind → NameKind} {x : Str} {k : NameKind} (h : (names.map fun (p : Str × NameKind) => (p.1, f p.1 p.2)).lookup x = some k) : ∃ k0, names.lookup x = some k0 ∧ (x, k0) ∈ names ∧ k = f x k0 := by
  induction names with
  | nil => cases h
  | cons p r ih =>
    obtain ⟨y, ky⟩ := p
    rw [List.map_cons, List.lookup_cons] at h
    by_cases q : x = y
    · subst q
      simp only [beq_self_eq_true] at h
      cases h
      exact ⟨ky, by rw [List.lookup_cons]; simp, .head _, rfl⟩
    · have q1 : (x == y) = false := by simpa using q
      dsimp only at h
      rw [q1] at h
      obtain ⟨k0, a, b, c⟩ := ih h
      exact ⟨k0, by rw [List.lookup_cons, q1]; exact a, .tail _ b, c⟩

theorem relabel_eq (sc : Scope) (env : Env) : (relabel sc env).names = sc.names.map fun (p : Str × NameKind) => (p.1, if (p.2 == .free && env.scope.kind == .function && env.kindOf p.1 == some .cell) then NameKind.cell else p.2) := by
  unfold relabel
  apply List.map_congr_left
  rintro ⟨x, k⟩ _
  dsimp only
  split <;> rfl

structure OkC (sc : Scope) (env : Env) : Prop where
  kind : sc.kind = .function
  ncell : ∀ x ∈ sc.names, x.2 ≠ .cell
  loc : ∀ x ∈ sc.names, x.2 = .local → sc.names.lookup x.1 = some .local
  free : ∀ x ∈ sc.names, x.2 = .free → env.kindOf x.1 = some .cell

theorem kind_look {sc : Scope} {x : Str} {k : NameKind} (eo : EnvOk env) (oc : OkC sc env) (h : (relabel sc env).names.lookup x = some k) : (k = .local ∧ sc.names.lookup x = some .local) ∨ (k = .cell ∧ (x, NameKind.free) ∈ sc.names ∧ env.kindOf x = some .cell) ∨ (k ≠ .local ∧ k ≠ .cell ∧ k ≠ .free) := by
  rw [relabel_eq] at h
  obtain ⟨k0, a, b, c⟩ := relabel_look (f := fun y k => if (k == .free && env.scope.kind == .function && env.kindOf y == some .cell) then NameKind.cell else k) h
  have hc := oc.ncell _ b
  by_cases hf : k0 = .free
  · subst hf
    have hk := oc.free _ b rfl
    rw [if_pos (by rw [eo.kind, hk]; rfl)] at c
    exact .inr (.inl ⟨c, b, hk⟩)
  · rw [if_neg (by simp [hf])] at c
    subst c
    by_cases hl : k = .local
    · subst hl; exact .inl ⟨rfl, a⟩
    · exact .inr (.inr ⟨hl, hc, hf⟩)

/-- a comprehension from its list on -/
theorem comp_inner {elt : Expr} {gs : List Comprehension} {g : Comprehension} {sc : Scope} {pos : Pos} {cl : List (Str × Addr)} {m : Nat} {P2 : Addr → Prop} {it : It} {all : List V} {Iv : Value} {own : List Addr} {RR : Value → Addr → Result → Shared → Prop} {E : Value → Shared → Prop} (G : GoodF T CA B (model prog w) n F) (ao : AOk A n) (eo : EnvOk env) (oc : OkC sc env)
    (okElt : okE T m (relabel sc env) elt = true) (okg : ∀ cenv : Env, cenv.scope = relabel sc env → OkG T m cenv g ∧ ∀ g' ∈ gs, OkG T m cenv g' ∧ okE T m cenv.scope g'.iter = true) (hnd : ((g :: gs).flatMap fun g => tNames g.target).Nodup) (hloc : ∀ x ∈ (g :: gs).flatMap fun g => tNames g.target, sc.names.lookup x = some .local)
    (hcl1 : ∀ x c, cl.lookup x = some c → env.cells.lookup x = some c) (hcl2 : ∀ x, (x, NameKind.free) ∈ sc.names → ∃ c, cl.lookup x = some c)
    (hown : ∀ b ∈ own, hb.get? b = none ∧ B.get? b = none ∧ ¬ P2 b) (hz : (∃ v, it = .one v) ∨ isTuple g.target = true) (le : ∀ a, P2 a → Hid.H a)
    (he : clauses F σ.length elt (g :: gs) (hide sc L) it all (σ ++ [.list []]) = some σ') (I : Inv CA B s.heap ρ σ) (gg : Go No hb ρb s.heap ρ) (l : LocIn B s.heap ρ env L) (x : ItAt s.heap ρ it all 0 Iv own)
    (k : ∀ h' tk ρ' D C, @Inv ⟨P2⟩ CA B h' ρ' σ' → Go No hb ρb h' ρ' → (∃ m, h'.Ns C m) → ρ'[σ.length]? = some (D, D) → hb.get? C = none → B.get? C = none → (∀ p ∈ ρ', C ≠ p.2) → RR (.ref D) C (.ok .next) { s with heap := h', toks := tk }) :
    wpAny (model prog w) A (newList []) (fun acc s₃ => wpAny (model prog w) A (newFunctionEnv sc env.globals cl [] env.qual none .none (some env)) (fun cenv s₄ =>
        codeAny (model prog w) A (.compStart (.ListComp elt (g :: gs) sc pos) 0 Iv acc { cenv with scope := relabel sc env }) (RR acc cenv.locals) s₄) E s₃) E s := by
  obtain ⟨I1, g1, v1⟩ := I.newList (l := []) (vs := []) .nil
  refine wpAny_newList ?_ (Nat.zero_le _)
  have l1 := l.mono I g1
  have x1 := x.go I Soft.no g1
  have gg1 := gg.trans g1
  have hD1 : (ρ ++ [(s.heap.objs.size, s.heap.objs.size)])[σ.length]? = some (s.heap.objs.size, s.heap.objs.size) := by
    rw [← I.len, List.getElem?_append_right (Nat.le_refl _)]; simp
  generalize hs : s.heap.objs.size = D at *
  generalize (s.heap.push { cls := .type "list", data := .seq ([] : List Value).toArray }) = h1 at *
  generalize ρ ++ [(D, D)] = ρ1 at *
  refine wpAny_newFunctionEnv oc.ncell (by intro y hy; simp at hy) (fun h2 hns hsb => ?_) oc.kind
  dsimp only at hns hsb ⊢
  have kp : ∀ b o, h1.get? b = some o → h2.get? b = some o := fun b o e => hsb.extBut b o (fun q => by
    rw [q] at e; exact absurd (Heap.lt_size e) (Nat.lt_irrefl _)) (Heap.get?_push_of_some _ e)
  have g2 : Go No h1 ρ1 h2 ρ1 := Go.grow kp
  have I2 := I1.grow kp
  have l2 := l1.mono I1 g2
  have x2 := x1.go I1 Soft.no g2
  have gg2 := gg1.trans g2
  have nC := I1.none_of_size
  have hC : hb.get? h1.objs.size = none := by
    cases q : hb.get? h1.objs.size with
    | none => rfl
    | some o => obtain ⟨o', e⟩ := gg1.live _ _ q; rw [nC.1] at e; cases e
  -- the comprehension's own frame
  have key : ∀ cenv : Env, cenv.scope = relabel sc env → cenv.locals = h1.objs.size → cenv.cells = cl → cenv.globals = env.globals → cenv.builtins = env.builtins → ∀ tk : Nat,
      codeAny (model prog w) A (.compStart (.ListComp elt (g :: gs) sc pos) 0 Iv (.ref D) cenv) (RR (.ref D) h1.objs.size) { s with heap := h2, toks := tk } := by
    intro cenv c1 c2 c3 c4 c5 tk
    have eoc : EnvOk cenv := ⟨by rw [c1]; exact oc.kind, by rw [c4]; exact eo.gl, by rw [c5]; exact eo.bi⟩
    have lc : LocIn B h2 ρ1 cenv (hide sc L) := by
      refine ⟨⟨_, by rw [c2]; exact hns⟩, fun p hp q => ?_, fun y dy hy hv => ?_, fun y hy => ?_, fun y c hc => ?_, fun y z c h1 h2 => ?_, fun b hb' => ?_⟩
      · obtain ⟨o, e, _⟩ := I1.at hp
        rw [← q, c2] at e
        exact absurd (Heap.lt_size e) (Nat.lt_irrefl _)
      · unfold hide at hy
        split at hy
        · cases hy
        · rename_i hnl
          have hv' : isVar ((relabel sc env).names.lookup y) = true := by
            have : cenv.kindOf y = (relabel sc env).names.lookup y := by unfold Env.kindOf; rw [c1]
            rw [← this]; exact hv
          cases hk : (relabel sc env).names.lookup y with
          | none => rw [hk] at hv'; cases hv'
          | some kk =>
            rcases kind_look eo oc hk with ⟨_, q⟩ | ⟨q1, q2, q3⟩ | ⟨q1, q2, q3⟩
            · exact absurd q hnl
            · obtain ⟨c, hc⟩ := hcl2 y q2
              obtain ⟨v, hV, q⟩ := l2.rd y dy hy (by rw [q3]; rfl)
              rcases q with ⟨q, _⟩ | ⟨_, c', hc', hcell⟩
              · rw [q3] at q; cases q
              · have e := hcl1 y c hc
                rw [hc'] at e; cases e
                exact ⟨v, hV, .inr ⟨.inl (by unfold Env.kindOf; rw [c1, hk, q1]), c, by rw [c3]; exact hc, hcell⟩⟩
            · rw [hk] at hv'
              cases kk <;> first | exact absurd rfl q1 | exact absurd rfl q2 | exact absurd rfl q3 | cases hv'
      · have hk : (relabel sc env).names.lookup y = some .cell := by rw [← c1]; exact hy
        rcases kind_look eo oc hk with ⟨q, _⟩ | ⟨_, q2, _⟩ | ⟨_, q, _⟩
        · cases q
        · rw [c3]; exact hcl2 y q2
        · exact absurd rfl q
      · rw [c3] at hc; exact l2.cells y c (hcl1 y c hc)
      · rw [c3] at h1 h2; exact l2.apart y z c (hcl1 y c h1) (hcl1 z c h2)
      · rcases hb' with q | ⟨y, hy⟩
        · rw [q, c2]; exact nC.2
        · rw [c3] at hy; exact l2.nb b (.inr ⟨y, hcl1 y b hy⟩)
    have hL : ∀ y ∈ (g :: gs).flatMap fun g => tNames g.target, hide sc L y = none := fun y hy => by
      unfold hide; rw [if_pos (hloc y hy)]
    obtain ⟨ok1, ok2⟩ := okg cenv c1
    have body := comp_ok (gens := g :: gs) (sc := sc) (pos := pos) (D := D) G ao eoc (by rw [c1]; exact okElt) gs g 0 rfl ok1 ok2 hnd (s := { s with heap := h2, toks := tk }) (X0 := No) (hb := hb) (R := RR (.ref D) h1.objs.size) hL hown hz le (.inl (by rw [c2]; exact hC)) he I2 gg2 lc x2 (g2.get hD1)
      fun h' tk' ρ' I' g' l' hD' => k h' tk' ρ' D h1.objs.size I' g' (by
        obtain ⟨lns, _⟩ := l'
        rw [← c2]; exact lns) hD' hC nC.2 (by
        obtain ⟨_, loff, _⟩ := l'
        rw [← c2]; exact loff)
    exact start_at rfl ok1.as_ body (self_ok (s := { s with heap := h2, toks := tk }) x2 body)
  refine key _ ?_ ?_ ?_ ?_ ?_ _ <;> rfl
end
end Mine
end
section
open PySem PySem.W PyProof.Rows PySem.Calls
set_option linter.unusedSectionVars false
namespace Mine
variable [Hid]
section
variable {T : Tbl} {CA : Str → Option Addr} {K : Frag} {mg mb : Str → Option Value} {B : Heap} {prog : Program} {w : World} {A : Around} {n : Nat} {F : Funs} {s : Shared} {ρ ρ' ρb τ : Rho} {σ σ' : Sto} {env : Env} {L L' : Loc} {d : V} {h h' h0 hb : Heap} {X X0 Y P P1 : Addr → Prop}

theorem comp_parts {elt : Expr} {gs : List Comprehension} {g : Comprehension} {sc : Scope} {pos : Pos} {m : Nat} (ok : okE T (m + 1) env.scope (.ListComp elt (g :: gs) sc pos) = true) :
    OkC sc env ∧ okE T m (relabel sc env) elt = true ∧ (∀ cenv : Env, cenv.scope = relabel sc env → OkG T m cenv g ∧ ∀ g' ∈ gs, OkG T m cenv g' ∧ okE T m cenv.scope g'.iter = true) ∧ ((g :: gs).flatMap fun g => tNames g.target).Nodup ∧
    (∀ x ∈ (g :: gs).flatMap fun g => tNames g.target, sc.names.lookup x = some .local) ∧ okE T m env.scope g.iter = true := by
  unfold okE at ok
  simp only [Bool.and_eq_true] at ok
  obtain ⟨⟨⟨⟨⟨h1, h2⟩, h3⟩, h4⟩, h5⟩, h6⟩ := ok
  have hrel : relabelS sc env.scope = relabel sc env := rfl
  rw [hrel] at h4 h5 h6
  have h2' := List.all_eq_true.mp h2
  have h5' := List.all_eq_true.mp h5
  have hG : ∀ cenv : Env, cenv.scope = relabel sc env → ∀ g' ∈ g :: gs, OkG T m cenv g' := by
    intro cenv hc g' hg'
    have := h5' g' hg'
    simp only [Bool.and_eq_true] at this
    obtain ⟨⟨⟨⟨a, b⟩, c⟩, e⟩, f⟩ := this
    refine ⟨by simpa using a, by rw [hc]; exact b, fun x hx => ?_, by simpa using e, by rw [hc]; exact f⟩
    have := List.all_eq_true.mp c x hx
    unfold Env.kindOf
    rw [hc]
    exact lookup_relabel_local (by simpa using this)
  refine ⟨⟨by simpa using h1, fun x hx => ?_, fun x hx hl => ?_, fun x hx hf => ?_⟩, h4, fun cenv hc => ⟨hG cenv hc g (.head _), fun g' hg' => ⟨hG cenv hc g' (.tail _ hg'), ?_⟩⟩, of_decide_eq_true h3, fun x hx => ?_, h6.1⟩
  · have := h2' x hx
    simp only [Bool.and_eq_true] at this
    simpa using this.1.1
  · have := h2' x hx
    simp only [Bool.and_eq_true] at this
    have := this.1.2
    rw [hl] at this
    simpa using this
  · have := h2' x hx
    simp only [Bool.and_eq_true] at this
    have := this.2
    rw [hf] at this
    simp only [bne_self_eq_false, Bool.false_or, Bool.and_eq_true] at this
    exact beq_iff_eq.mp this.2
  · have := List.all_eq_true.mp h6.2 g' hg'
    rw [hc]; exact this
  · obtain ⟨g', hg', hx'⟩ := List.mem_flatMap.mp hx
    have := h5' g' hg'
    simp only [Bool.and_eq_true] at this
    have := List.all_eq_true.mp this.1.1.2 x hx'
    simpa using this

/-- a list comprehension, for a value or for a name -/
theorem comp_any {elt : Expr} {gs : List Comprehension} {g : Comprehension} {sc : Scope} {pos p0 : Pos} {m : Nat} {wv : It} {vs : List V} {σ1 : Sto} {use : Option (Value → Sem Unit)} {Q E : Value → Shared → Prop} (gd : Gnd T CA K mg mb B) (G : ∀ P1 : Addr → Prop, @GoodF ⟨P1⟩ T CA B (model prog w) n F) (ao : AOk A (n + 1)) (eo : EnvOk env)
    (ok : okE T (m + 1) env.scope (.ListComp elt (g :: gs) sc pos) = true) (h1 : overE T F L σ g.target g.iter = some (wv, vs, σ1)) (h2 : clauses F σ1.length elt (g :: gs) (hide sc L) wv vs (σ1 ++ [.list []]) = some σ')
    (I : Inv CA B s.heap ρ σ) (l : LocIn B s.heap ρ env L)
    (k : ∀ h' tk ρ' D C, Inv CA B h' ρ' σ' → Go No s.heap ρ h' ρ' → (∃ m, h'.Ns C m) → ρ'[σ1.length]? = some (D, D) → s.heap.get? C = none → B.get? C = none → (∀ p ∈ ρ', C ≠ p.2) → compPost (model prog w) A E use Q (.ref D) C (.ok .next) { s with heap := h', toks := tk }) :
    wpAny (model prog w) A (comprehension (.ListComp elt (g :: gs) sc pos) sc env p0 (newList []) false (eval g.iter env) use) Q E s := by
  obtain ⟨oc, okElt, okg, hnd, hloc, okI⟩ := comp_parts ok
  obtain ⟨cl, hclos, hcl1, hcl2⟩ := closure_for (env := env) (sc := sc) fun x hx hf => l.cell x.1 (oc.free x hx hf)
  have hset : isSet g.iter = false := by
    obtain ⟨a, _⟩ := okg { env with scope := relabel sc env } rfl
    exact a.set
  have hfs : ∀ x, foldedSetIterable g.iter env x = pure x := by
    intro x
    cases hq : g.iter <;> first | rfl | (rw [hq] at hset; cases hset)
  refine wpAny_comprehension_free (use := use) rfl hfs hclos oc.kind oc.loc ?_
  refine over_ok (m := m) gd (G Hid.H) ao eo okI h1 I l fun P1 Iv own h3 tk3 ρ3 le I3 g3 x3 hf l3 hz => ?_
  exact @comp_inner ⟨P1⟩ T CA B prog w A n F { s with heap := h3, toks := tk3 } ρ3 ρ σ1 σ' env L s.heap elt gs g sc pos cl m Hid.H wv vs Iv own _ E (G P1) ao.down eo oc okElt okg hnd hloc hcl1 hcl2 hf hz le h2 I3 g3 l3 x3
    fun h' tk ρ' D C I' g' hn hD hC hB ho => k h' tk ρ' D C I' g' hn hD hC hB ho

/-- the frame of a comprehension is let go -/
theorem letgo_ok {C : Addr} (I : Inv CA B h ρ σ) (l : Go No h0 ρb h ρ) (hn : ∃ m, h.Ns C m) (hC : h0.get? C = none) (hB : B.get? C = none) (ho : ∀ p ∈ ρ, C ≠ p.2) (hs : Heap.SameBut C h h') : But Hid.H (fun b => b = C) B h ρ h' ∧ Inv CA B h' ρ σ ∧ Go No h0 ρb h' ρ := by
  have g : But Hid.H (fun b => b = C) B h ρ h' := by
    refine ⟨fun b o e hb => (hs.2 b hb).trans e, ?_, ?_, ?_⟩
    · rintro b rfl
      obtain ⟨m, o, es, ep, e, hd, _⟩ := hn
      exact ⟨o, e, .inl ⟨_, _, hd⟩⟩
    · rintro b rfl; exact hB
    · rintro b rfl; exact ho
  refine ⟨g, I.but1 g fun a _ hb ⟨o, its, nn, e, hd⟩ => ?_, l.skipBut g fun b hb => by rw [hb]; exact hC⟩
  obtain ⟨m, o', es, ep, e', hd', _⟩ := hn
  rw [hb, e'] at e; cases e; rw [hd'] at hd; cases hd

theorem comp_val {elt : Expr} {gs : List Comprehension} {g : Comprehension} {sc : Scope} {pos : Pos} {m : Nat} {wv : It} {vs : List V} {σ1 : Sto} (gd : Gnd T CA K mg mb B) (G : ∀ P1 : Addr → Prop, @GoodF ⟨P1⟩ T CA B (model prog w) n F) (ao : AOk A (n + 1)) (eo : EnvOk env)
    (ok : okE T (m + 1) env.scope (.ListComp elt (g :: gs) sc pos) = true) (h1 : overE T F L σ g.target g.iter = some (wv, vs, σ1)) (h2 : clauses F σ1.length elt (g :: gs) (hide sc L) wv vs (σ1 ++ [.list []]) = some σ')
    (I : Inv CA B s.heap ρ σ) (l : LocIn B s.heap ρ env L) : EvOk CA B (model prog w) A (eval (.ListComp elt (g :: gs) sc pos) env) s ρ (.obj σ1.length) σ' := by
  intro Q E k
  rw [eval_ListComp]
  have ha : firstAsync (g :: gs) = false := by
    obtain ⟨_, _, okg, _⟩ := comp_parts ok
    have := (okg { env with scope := relabel sc env } rfl).1.as_
    obtain ⟨t, i, f, a⟩ := g
    show (a != 0) = false
    rw [show a = 0 from this]; rfl
  have hi : firstIter (g :: gs) env = eval g.iter env := by cases g; rfl
  rw [ha, hi]
  refine comp_any (use := none) (m := m) gd G ao eo ok h1 h2 I l fun h' tk ρ' D C I' g' hn hD hC hB ho => ?_
  obtain ⟨mm, hn'⟩ := hn
  refine ⟨mm, hn', fun h'' hs => ?_⟩
  obtain ⟨gb, I2, g2⟩ := letgo_ok I' g' ⟨mm, hn'⟩ hC hB ho hs
  exact k _ h'' tk ρ' I2 g2 (VIn.obj (p := (D, D)) hD)

theorem comp_use {elt : Expr} {gs : List Comprehension} {g : Comprehension} {sc : Scope} {pos py spos : Pos} {y : Str} {m : Nat} {wv : It} {vs : List V} {σ1 : Sto} (gd : Gnd T CA K mg mb B) (G : ∀ P1 : Addr → Prop, @GoodF ⟨P1⟩ T CA B (model prog w) n F) (ao : AOk A (n + 1)) (eo : EnvOk env) (hsw : swapsWith (.ListComp elt (g :: gs) sc pos) (some (.Name y py)) spos.line env = pure true) (hy : env.kindOf y = some .local ∨ env.kindOf y = some .cell)
    (ok : okE T (m + 1) env.scope (.ListComp elt (g :: gs) sc pos) = true) (h1 : overE T F L σ g.target g.iter = some (wv, vs, σ1)) (h2 : clauses F σ1.length elt (g :: gs) (hide sc L) wv vs (σ1 ++ [.list []]) = some σ')
    (I : Inv CA B s.heap ρ σ) (l : LocIn B s.heap ρ env L) : ExOk CA B (model prog w) A env (exec (.Assign [.Name y py] (.ListComp elt (g :: gs) sc pos) spos) env) s ρ .next (upd L y (.obj σ1.length)) σ' := by
  intro Q E k
  rw [exec_Assign_Name_used _ _ _ _ hsw]
  have ha : firstAsync (g :: gs) = false := by
    obtain ⟨_, _, okg, _⟩ := comp_parts ok
    have := (okg { env with scope := relabel sc env } rfl).1.as_
    obtain ⟨t, i, f, a⟩ := g
    show (a != 0) = false
    rw [show a = 0 from this]; rfl
  refine wpAny_bind (wpAny_standAt (wpAny_bind ?_))
  show wpAny _ A (do let _ ← comprehension (.ListComp elt (g :: gs) sc pos) sc env _ (newList []) (firstAsync (g :: gs)) (firstIter (g :: gs) env) (some (assign (.Name y py) env))) _ _ s
  have hi : firstIter (g :: gs) env = eval g.iter env := by cases g; rfl
  rw [ha, hi]
  refine wpAny_bind (comp_any (use := some (assign (.Name y py) env)) (Q := fun _ s' => wpAny (model prog w) A (pure ()) (fun _ s'' => wpAny (model prog w) A (pure Flow.next) Q E s'') E s') (m := m) gd G ao eo ok h1 h2 I l fun h' tk ρ' D C I' g' hn hD hC hB ho => ?_)
  obtain ⟨mm, hn'⟩ := hn
  have l' := l.mono I g'
  show wpAny _ A (assign (.Name y py) env (.ref D)) _ _ _
  have hCx : ¬ XOf env C := fun q => by
    obtain ⟨⟨o, e, _⟩, _⟩ := l.XB I C q
    rw [hC] at e; cases e
  refine wpAny_assign_Name (store_ok (s := { s with heap := h', toks := tk }) eo hy I' l' (VIn.obj (p := (D, D)) hD) fun h2 tk2 I2 g2 l2 _ keep => ?_)
  have hn2 : h2.Ns C mm := let ⟨o, es, ep, e, r⟩ := hn'; ⟨o, es, ep, keep C o e hCx, r⟩
  refine ⟨mm, hn2, fun h3 hs => ?_⟩
  have g3 : Go (XOf env) s.heap ρ h2 ρ' := g'.weaken.trans g2
  have gb : But Hid.H (fun b => b = C) B h2 ρ' h3 := by
    refine ⟨fun b o e hb => (hs.2 b hb).trans e, ?_, ?_, ?_⟩
    · rintro b rfl
      obtain ⟨o, es, ep, e, hd, _⟩ := hn2
      exact ⟨o, e, .inl ⟨_, _, hd⟩⟩
    · rintro b rfl; exact hB
    · rintro b rfl; exact ho
  have I3 : Inv CA B h3 ρ' σ' := I2.but1 gb fun a _ hb ⟨o, its, nn, e, hd⟩ => by
    obtain ⟨o', es, ep, e', hd', _⟩ := hn2
    rw [hb, e'] at e; cases e; rw [hd'] at hd; cases hd
  have g4 := g3.skipBut gb fun b hb => by rw [hb]; exact hC
  have l3 : LocIn B h3 ρ' env (upd L y (.obj σ1.length)) := by
    have hns : ∀ m, h2.Ns env.locals m → h3.Ns env.locals m := fun m ⟨o, es, ep, e, r⟩ => ⟨o, es, ep, gb.ext _ _ e fun q => hCx (.inl q.symm), r⟩
    have hcl : ∀ x c v, env.cells.lookup x = some c → h2.IsCell c v → h3.IsCell c v := fun x c v hx ⟨o, e, r⟩ => ⟨o, gb.ext _ _ e fun q => hCx (.inr ⟨x, q ▸ hx⟩), r⟩
    refine ⟨l2.ns.elim fun m hm => ⟨m, hns m hm⟩, l2.off, fun x d hx hv => ?_, l2.cell, fun x c hx => (l2.cells x c hx).elim fun v hv => ⟨v, hcl x c _ hx hv⟩, l2.apart, l2.nb⟩
    obtain ⟨v, hV, q⟩ := l2.rd x d hx hv
    refine ⟨v, VIn.but (fun _ q => q) (fun _ q => q) gb hV, ?_⟩
    rcases q with ⟨k, m, hm, e⟩ | ⟨k, c, hc, e⟩
    · exact .inl ⟨k, m, hns m hm, e⟩
    · exact .inr ⟨k, c, hc, hcl x c _ hc e⟩
  exact wpAny_pure (wpAny_pure (k .next h3 tk2 ρ' I3 g4 l3 True.intro))
end
end Mine
end
section
open PySem PySem.W PyProof.Rows PySem.Calls
set_option linter.unusedSectionVars false
namespace Mine
variable [Hid]
section
variable {T : Tbl} {CA : Str → Option Addr} {K : Frag} {mg mb : Str → Option Value} {B : Heap} {prog : Program} {w : World} {A : Around} {n : Nat} {F : Funs} {s : Shared} {ρ ρ' ρb τ : Rho} {σ σ' : Sto} {env : Env} {L L' : Loc} {d : V} {h h' h0 hb : Heap} {X X0 Y P P1 : Addr → Prop}

theorem marks {op : CmpOp} {r : Expr} (h : isSet r = false) : behindInMarks op r = false := by
  cases r <;> first | rfl | cases h

theorem truthy_ok {b : Bool} {v : Value} {Q : Bool → Shared → Prop} {E : Value → Shared → Prop} (hv : VIn h ρ (.bool b) v) (k : Q b s) : wpAny (model prog w) A (truthy v) Q E s := by
  cases hv; exact wpAny_truthy_bool k

theorem bin_ok {m : Nat} {l r : Expr} {σ1 σ2 : Sto} {a b : V} {M : Value → Value → Sem Value} (G : GoodF T CA B (model prog w) n F) (ao : AOk A n) (eo : EnvOk env) (ok1 : okE T m env.scope l = true) (ok2 : okE T m env.scope r = true)
    (h1 : F.ev L σ l = some (a, σ1)) (h2 : F.ev L σ1 r = some (b, σ2)) (I : Inv CA B s.heap ρ σ) (lc : LocIn B s.heap ρ env L) {Q E : Value → Shared → Prop}
    (k : ∀ u v h' tk ρ', Inv CA B h' ρ' σ2 → Go No s.heap ρ h' ρ' → VIn h' ρ' a u → VIn h' ρ' b v → wpAny (model prog w) A (M u v) Q E { s with heap := h', toks := tk }) :
    wpAny (model prog w) A (eval l env) (fun u s₁ => wpAny (model prog w) A (eval r env) (fun v s₂ => wpAny (model prog w) A (M u v) Q E s₂) E s₁) E s :=
  G.ev A env L σ l a σ1 m ao eo ok1 h1 s ρ I lc _ _ fun u h1 tk1 ρ1 I1 g1 hu =>
    G.ev A env L σ1 r b σ2 m ao eo ok2 h2 { s with heap := h1, toks := tk1 } ρ1 I1 (lc.mono I g1) _ _ fun v h2 tk2 ρ2 I2 g2 hv =>
      k u v h2 tk2 ρ2 I2 (g1.trans g2) (hu.mono Soft.no I1 g2) hv

theorem evS_ok (gd : Gnd T CA K mg mb B) (G : ∀ P1 : Addr → Prop, @GoodF ⟨P1⟩ T CA B (model prog w) n F) {e : Expr} {m : Nat} (ao : AOk A (n + 1)) (eo : EnvOk env) (ok : okE T m env.scope e = true) (he : evS T F L σ e = some (d, σ')) (I : Inv CA B s.heap ρ σ) (l : LocIn B s.heap ρ env L) :
    EvOk CA B (model prog w) A (eval e env) s ρ d σ' := by
  have G0 : GoodF T CA B (model prog w) n F := G Hid.H
  cases m with
  | zero => cases ok
  | succ m =>
  cases e with
  | Constant c kk pos =>
    unfold evS at he
    cases c <;> dsimp only at he <;> first | cases he | skip
    · exact EvOk.val0 I .none fun Q E h => wpAny_Constant_none h
    · exact EvOk.val0 I (.bool _) fun Q E h => wpAny_Constant_bool h
    · exact EvOk.val I (.int _ _) fun Q E h => wpAny_Constant_int h
    · exact EvOk.val I (.str _ _) fun Q E h => wpAny_Constant_str h
  | Name x q =>
    unfold evS at he
    exact name_ok gd eo (by unfold okE at ok; exact ok) I l he
  | BinOp lf op r q =>
    unfold evS at he
    unfold okE at ok
    rw [Bool.and_eq_true] at ok
    dsimp only at he
    split at he
    · rename_i a σ1 h1
      split at he
      · rename_i b σ2 h2
        intro Q E k
        refine wpAny_BinOp (bin_ok (M := fun u v => binaryOp op u v) G0 ao.down eo ok.1 ok.2 h1 h2 I l fun u v h2 tk2 ρ2 I2 g2 hu hv => ?_)
        exact (binS_ok (s := { s with heap := h2, toks := tk2 }) he I2 hu hv).mono g2 k
      · cases he
    · cases he
  | UnaryOp op x q =>
    cases op <;> unfold evS at he <;> dsimp only at he <;> first | cases he | skip
    unfold okE at ok
    split at he
    · rename_i a σ1 h1
      cases he
      intro Q E k
      refine wpAny_UnaryOp (G0.ev A env L σ x _ _ m ao.down eo ok h1 s ρ I l _ _ fun u hp1 tk1 ρ1 I1 g1 hu => ?_)
      cases hu
      exact PySem.P.neg_int (k _ hp1 _ ρ1 I1 g1 (.int _ _))
    · cases he
  | Compare lf ops rs q =>
    cases ops with
    | nil => unfold evS at he; cases he
    | cons op ops =>
      cases ops with
      | cons => unfold evS at he; cases he
      | nil =>
        cases rs with
        | nil => unfold evS at he; cases he
        | cons r rs =>
          cases rs with
          | cons => unfold evS at he; cases he
          | nil =>
            unfold evS at he
            unfold okE at ok
            simp only [List.all_cons, List.all_nil, Bool.and_true, Bool.and_eq_true] at ok
            dsimp only at he
            split at he
            · rename_i a σ1 h1
              split at he
              · rename_i b σ2 h2
                obtain ⟨c, hc, e⟩ := Option.map_eq_some_iff.mp he
                cases e
                intro Q E k
                refine wpAny_Compare1 (bin_ok (M := fun u v => compareOp op u v) G0 ao.down eo ok.1 ok.2.1 h1 h2 I l fun u v h2 tk2 ρ2 I2 g2 hu hv => ?_) (marks (by simpa using ok.2.2))
                exact (cmpS_ok (s := { s with heap := h2, toks := tk2 }) ao hc I2 hu hv).mono g2 k
              · cases he
            · cases he
  | BoolOp op es q =>
    cases es with
    | nil => unfold evS at he; cases he
    | cons x es =>
      cases es with
      | nil => unfold evS at he; cases he
      | cons y es =>
        cases es with
        | cons => unfold evS at he; cases he
        | nil =>
          unfold evS at he
          unfold okE at ok
          simp only [List.all_cons, List.all_nil, Bool.and_true, Bool.and_eq_true] at ok
          dsimp only at he
          split at he
          · rename_i a σ1 h1
            intro Q E k
            cases op with
            | And =>
              refine wpAny_And2 (G0.ev A env L σ x _ _ m ao.down eo ok.1 h1 s ρ I l _ _ fun u hp1 tk1 ρ1 I1 g1 hu => truthy_ok hu ?_)
              cases a with
              | false =>
                cases he
                rw [if_neg (by decide)]
                exact k u hp1 tk1 ρ1 I1 g1 hu
              | true =>
                rw [if_pos rfl]
                exact EvOk.mono g1 (G0.ev A env L σ1 y d σ' m ao.down eo ok.2 he { s with heap := hp1, toks := tk1 } ρ1 I1 (l.mono I g1)) k
            | Or =>
              refine wpAny_Or2 (G0.ev A env L σ x _ _ m ao.down eo ok.1 h1 s ρ I l _ _ fun u hp1 tk1 ρ1 I1 g1 hu => truthy_ok hu ?_)
              cases a with
              | true =>
                cases he
                rw [if_pos rfl]
                exact k u hp1 tk1 ρ1 I1 g1 hu
              | false =>
                rw [if_neg (by decide)]
                exact EvOk.mono g1 (G0.ev A env L σ1 y d σ' m ao.down eo ok.2 he { s with heap := hp1, toks := tk1 } ρ1 I1 (l.mono I g1)) k
          · cases he
  | IfExp t x y q =>
    unfold evS at he
    unfold okE at ok
    simp only [Bool.and_eq_true] at ok
    dsimp only at he
    split at he
    · rename_i b σ1 h1
      intro Q E k
      refine wpAny_IfExp (G0.tst A env L σ t b σ1 m ao.down eo ok.1.1 h1 s ρ I l _ _ fun hp1 tk1 ρ1 I1 g1 => ?_)
      cases b with
      | true =>
        rw [if_pos rfl] at he ⊢
        exact EvOk.mono g1 (G0.ev A env L σ1 x d σ' m ao.down eo ok.1.2 he { s with heap := hp1, toks := tk1 } ρ1 I1 (l.mono I g1)) k
      | false =>
        rw [if_neg (by decide)] at he ⊢
        exact EvOk.mono g1 (G0.ev A env L σ1 y d σ' m ao.down eo ok.2 he { s with heap := hp1, toks := tk1 } ρ1 I1 (l.mono I g1)) k
    · cases he
  | Tuple es kk q =>
    unfold evS at he
    unfold okE at ok
    dsimp only at he
    split at he
    · rename_i vs σ1 h1
      split at he
      · rename_i hsz
        cases he
        intro Q E k
        refine Tuple_ (evs_ok (m := m) G0 ao.down eo ok h1 I l _ _ fun ws hp1 tk1 ρ1 I1 g1 hw => ?_)
        exact (tuple_new (s := { s with heap := hp1, toks := tk1 }) I1 hw (of_decide_eq_true hsz)).mono g1 k
      · cases he
    · cases he
  | List es q =>
    unfold evS at he
    unfold okE at ok
    dsimp only at he
    split at he
    · rename_i vs σ1 h1
      split at he
      · rename_i hsz
        cases he
        intro Q E k
        refine List_ (evs_ok (m := m) G0 ao.down eo ok h1 I l _ _ fun ws hp1 tk1 ρ1 I1 g1 hw => ?_)
        exact (list_new (s := { s with heap := hp1, toks := tk1 }) I1 hw (of_decide_eq_true hsz)).mono g1 k
      · cases he
    · cases he
  | Subscript o i q =>
    unfold evS at he
    unfold okE at ok
    rw [Bool.and_eq_true] at ok
    dsimp only at he
    split at he
    · rename_i ov σ1 h1
      intro Q E k
      refine Subscript_ (G0.ev A env L σ o ov σ1 m ao.down eo ok.1 h1 s ρ I l _ _ fun u hp1 tk1 ρ1 I1 g1 hu => ?_)
      by_cases hs : isSlice i = true
      · cases i <;> first | cases hs | skip
        rename_i lo hi st p
        dsimp only at he
        split at he
        · rename_i a σ2 e1
          split at he
          · rename_i b σ3 e2
            split at he
            · rename_i c σ4 e3
              split at he
              · rename_i kq ka kb kc i1 i2 i3
                split at he
                · rename_i ll hl
                  split at he
                  · rename_i hc
                    cases he
                    rw [Bool.and_eq_true] at hc
                    cases m with
                    | zero => cases ok.1
                    | succ m =>
                      have ok2 := ok.2
                      unfold okE at ok2
                      exact slice_ok (m := m) (ov := .none) (s := { s with heap := hp1, toks := tk1 }) G0 ao.down eo ok2 e1 e2 e3 i1 i2 i3 hl (of_decide_eq_true hc.1) (of_decide_eq_true hc.2) I1 (l.mono I g1) hu fun v h' tk ρ' I' g' hv => k v h' tk ρ' I' (g1.trans g') hv
                  · cases he
                · cases he
              · cases he
            · cases he
          · cases he
        · cases he
      · have hs' : isSlice i = false := by simpa using hs
        have he' : (match F.ev L σ1 i with | some (iv, σ2) => (subC T σ2 ov iv).map fun v => (v, σ2) | none => none) = some (d, σ') := by
          cases i <;> first | exact he | cases hs'
        split at he'
        · rename_i iv σ2 h2
          obtain ⟨v, hv, e⟩ := Option.map_eq_some_iff.mp he'
          cases e
          refine G0.ev A env L σ1 i iv σ' m ao.down eo ok.2 h2 { s with heap := hp1, toks := tk1 } ρ1 I1 (l.mono I g1) _ _ fun u2 h2 tk2 ρ2 I2 g2 hu2 => ?_
          exact (subC_ok (s := { s with heap := h2, toks := tk2 }) gd.ro hv I2 (hu.mono Soft.no I1 g2) hu2 hs').mono (g1.trans g2) k
        · cases he'
    · cases he
  | Attribute b a q =>
    cases b <;> unfold evS at he <;> dsimp only at he <;> first | cases he | skip
    rename_i y qy
    unfold okE at ok
    dsimp only at ok
    split at he
    · rename_i kk σ1 h1
      split at he
      · rename_i c fs e1
        split at he
        · rename_i hf
          obtain ⟨v, hv, e⟩ := Option.map_eq_some_iff.mp he
          cases e
          intro Q E k
          refine Attribute_Name_ (G0.ev A env L σ (.Name y qy) _ _ 1 ao.down eo (by unfold okE; exact ok) h1 s ρ I l _ _ fun u hp1 tk1 ρ1 I1 g1 hu => ?_)
          exact (attr_ok (s := { s with heap := hp1, toks := tk1 }) gd I1 e1 hu hf hv).mono g1 k
        · cases he
      · cases he
    · cases he
  | Call f args ks pos =>
    cases ks with
    | cons => cases f <;> (unfold evS at he; cases he)
    | nil =>
      unfold okE at ok
      simp only [Bool.and_eq_true, decide_eq_true_eq] at ok
      obtain ⟨⟨oka, okn⟩, okf⟩ := ok
      cases f with
      | Name x qx =>
        unfold evS at he
        dsimp only at he okf
        split at he
        · rename_i vs σ1 h1
          exact callN_ok gd G0 ao eo okf oka h1 he I l
        · cases he
      | Attribute b mm qm =>
        cases b with
        | Name y qy =>
          unfold evS at he
          dsimp only at he okf
          rw [Bool.and_eq_true] at okf
          split at he
          · rename_i ov σ1 h1
            cases m with
            | zero =>
              cases args with
              | nil => exact methC_ok (mm := 0) gd G0 ao eo okn okf.2 (by unfold okE; exact okf.1) oka h1 he I l
              | cons e es => simp [okE] at oka
            | succ m => exact methC_ok (mm := m + 1) gd G0 ao eo okn okf.2 (by unfold okE; exact okf.1) oka h1 he I l
          · cases he
        | _ => unfold evS at he; cases he
      | _ => unfold evS at he; cases he
  | ListComp elt gens sc pos =>
    cases gens with
    | nil => unfold evS at he; cases he
    | cons g gs =>
      have he' : (match overE T F L σ g.target g.iter with
        | some (w, vs, σ1) => (match clauses F σ1.length elt (g :: gs) (hide sc L) w vs (σ1 ++ [.list []]) with
          | some σ2 => some (V.obj σ1.length, σ2)
          | none => none)
        | none => none) = some (d, σ') := by
        obtain ⟨t, i, f, a⟩ := g
        unfold evS at he
        exact he
      split at he'
      · rename_i wv vs σ1 h1
        split at he'
        · rename_i σ2 h2
          cases he'
          exact comp_val gd G ao eo ok h1 h2 I l
        · cases he'
      · cases he'
  | _ => unfold evS at he; cases he
end
end Mine
end
section
open PySem PySem.W PyProof.Rows PySem.Calls
set_option linter.unusedSectionVars false
namespace Mine
variable [Hid]
section
variable {T : Tbl} {CA : Str → Option Addr} {K : Frag} {mg mb : Str → Option Value} {B : Heap} {prog : Program} {w : World} {A : Around} {n : Nat} {F : Funs} {s : Shared} {ρ ρ' ρb τ : Rho} {σ σ' : Sto} {env : Env} {L L' : Loc} {d : V} {h h' h0 hb : Heap} {X X0 Y P P1 : Addr → Prop}

theorem FsIn.len : ∀ {fs : List (Str × V)} {es : List DictEntry}, FsIn h ρ fs es → es.length = fs.length
  | [], [], _ => rfl
  | (_, _) :: _, _ :: _, ⟨_, _, c⟩ => by rw [List.length_cons, List.length_cons, FsIn.len c]

theorem FsIn.put {a : Str} {hsh : Int} {tk : Tok} {v : Value} (hv : VIn h ρ d v) : ∀ {fs : List (Str × V)} {es : List DictEntry}, FsIn h ρ fs es → FsIn h ρ (putF a d fs) (putL a hsh (.str a tk) v es)
  | [], [], _ => ⟨⟨tk, rfl⟩, hv, True.intro⟩
  | (x, u) :: fs, e :: es, ⟨⟨t, hk⟩, hu, r⟩ => by
    have hx : e.key.isStr a = (x == a) := by rw [hk]; rfl
    unfold putF putL
    by_cases q : x = a
    · subst q
      rw [if_pos rfl, if_pos (by rw [hx]; simp)]
      exact ⟨⟨t, hk⟩, hv, r⟩
    · rw [if_neg q, if_neg (by rw [hx]; simpa using q)]
      exact ⟨⟨t, hk⟩, hu, FsIn.put hv r⟩

theorem FsIn.nokey {a : Str} : ∀ {fs : List (Str × V)} {es : List DictEntry}, FsIn h ρ fs es → es.any (·.refKey) = false
  | [], [], _ => rfl
  | (x, u) :: fs, e :: es, ⟨⟨t, hk⟩, hu, r⟩ => by
    have hr : e.refKey = false := by unfold DictEntry.refKey; rw [hk]
    rw [List.any_cons, hr, FsIn.nokey (a := a) r]; rfl

theorem putL_len {a : Str} {hsh : Int} {k v : Value} : ∀ es : List DictEntry, (putL a hsh k v es).length ≤ es.length + 1
  | [] => Nat.le_refl _
  | e :: es => by
    unfold putL
    split
    · simp
    · have := putL_len (a := a) (hsh := hsh) (k := k) (v := v) es
      simp; omega

theorem osa_raw {x dx C : Addr} {name : Str} {tk : Tok} {v : Value} {es : List DictEntry} {n : Nat} {R : Result → Shared → Prop} (Xk : K.In s.heap) (hx : s.heap.get? x = some (instObj C dx)) (D : s.heap.get? dx = some (dictOf es n))
    (hp : plainOver K C = true) (ht : takerIn K C name = some none) (hh : (clsIn K C).any (·.hasDict) = true) (hl : es.any (·.refKey) = false) (hz : es.length ≤ 900)
    (h : ∀ h', h'.get? dx = some (dictOf (putL name (PyData.keyHash w.params name) (.str name s.toks) v es) (putN name es n)) → Heap.SameBut dx s.heap h' → R (.ok (.ret .none)) { s with heap := h', toks := s.toks + 1 }) :
    codeAny (model prog w) A (.call (.builtin "object.__setattr__") ⟨[.ref x, .str name tk, v], []⟩) R s := by
  have It : InstAt s.heap x (instObj C dx) C (some (dictOf es n)) := ⟨hx, rfl, rfl, D⟩
  refine osa_open Xk It hp ht fun b => ?_
  obtain ⟨cd, hc, hd'⟩ := any_some hh
  have e := putName_dict name (PyData.keyHash w.params name) (.str name s.toks) v es n
  have D' := Heap.get?_update_self (Obj.putName name (PyData.keyHash w.params name) (.str name s.toks) v) D (by rw [e]; rfl)
  rw [e] at D'
  refine wpAny_bind (wpAny_pure (wpAny_bind (wpAny_bind (wpAny_loadPart hx (wpAny_bind ((looks_clsIn Xk hc).here ?_))))))
  rw [hd']
  refine wpAny_pure (a := some dx) (wpAny_bind (wpAny_pure (wpAny_bind ?_)))
  unfold nsSet
  refine wpAny_bind (wpAny_bind (wpAny_askSetting (wpAny_pure (wpAny_bind (wpAny_mkText (wpAny_bind (wpAny_loadPart D ?_)))))))
  dsimp only
  have c : (!es.toArray.any (·.key.isStr name) && es.toArray.any (·.refKey)) = false := by
    rw [← Array.any_toList, ← Array.any_toList, List.toList_toArray, hl, Bool.and_false]
  rw [aRefKeyMayBeTheName_at, c]
  refine wpAny_updatePart D ?_
  refine wpAny_bind (wpAny_lookBehind D' (pastItsLine_dict (by rw [List.size_toArray, sizeLine_eq]; have := putL_len (a := name) (hsh := PyData.keyHash w.params name) (k := .str name s.toks) (v := v) es; omega)) ?_)
  exact wpAny_pure (h _ D' (Heap.SameBut.update ..))

/-- an attribute is set -/
theorem set_ok {a : Str} {fs : List (Str × V)} {k : Nat} {c : Str} {ov v : Value} {Q : Unit → Shared → Prop} {E : Value → Shared → Prop} (gd : Gnd T CA K mg mb B) (I : Inv CA B s.heap ρ σ) (hs : σ[k]? = some (.inst c fs)) (hov : VIn s.heap ρ (.obj k) ov) (hv : VIn s.heap ρ d v) (hf : T.field c a = true) (hlen : fs.length < 100)
    (kk : ∀ h' tk, Inv CA B h' ρ (σ.set k (.inst c (putF a d fs))) → Go No s.heap ρ h' ρ → Q () { s with heap := h', toks := tk }) : wpAny (model prog w) A (setAttr ov a v) Q E s := by
  obtain ⟨x, dx, C, es, j, rfl, hp, hc, hx, hd, hfs⟩ := I.inst hs hov
  obtain ⟨c1, c2, c3, c4, c5⟩ := gd.cset c C hc
  obtain ⟨_, _, _, ht⟩ := gd.get c C a hc hf
  have Xk := gd.X.keeps I.keep
  have It : InstAt s.heap x (instObj C dx) C (some (dictOf es j)) := ⟨hx, rfl, rfl, hd⟩
  refine set_plain Xk It c1 (osa_raw (s := { s with toks := s.toks + 1 }) Xk hx hd c2 ht c3 (hfs.nokey (a := a)) (by rw [hfs.len]; omega) fun h' D' hs' => ?_)
  have key := I.turn (p := (x, dx)) (ob := .inst c (putF a d fs)) hp hs' ⟨_, D'⟩ fun g => by
    have hfs' := (hfs.put (a := a) (hsh := PyData.keyHash w.params a) (tk := s.toks + 1) hv).mono Soft.no I g
    exact .inst hc (g.ext _ _ hx (I.off hx (by simp)) id) D' hfs'
  exact kk h' _ key.1 key.2
end
end Mine
end
section
open PySem PySem.W PyProof.Rows PySem.Calls
set_option linter.unusedSectionVars false
namespace Mine
variable [Hid]
section
variable {T : Tbl} {CA : Str → Option Addr} {K : Frag} {mg mb : Str → Option Value} {B : Heap} {prog : Program} {w : World} {A : Around} {n : Nat} {F : Funs} {s : Shared} {ρ ρ' ρb τ : Rho} {σ σ' : Sto} {env : Env} {L L' : Loc} {d : V} {h h' h0 hb : Heap} {X X0 Y P P1 : Addr → Prop} {Q : Flow → Shared → Prop} {E : Value → Shared → Prop}

theorem allT_ok {m : Nat} (G : GoodF T CA B (model prog w) n F) (ao : AOk A n) (eo : EnvOk env) {op : BoolOp} : ∀ {es : List Expr} {b : Bool} {σ σ' : Sto} {s : Shared} {ρ : Rho}, es.all (okE T m env.scope) = true → allT op (F.tst L) σ es = some (b, σ') → Inv CA B s.heap ρ σ → LocIn B s.heap ρ env L →
    TsOk CA B (model prog w) A (allTrue op es env) s ρ b σ'
  | [], b, σ, σ', s, ρ, _, he, I, l => by
    cases he
    intro Q E k
    cases op with
    | And => exact wpAny_allTrue_And_nil (k s.heap s.toks ρ I Go.refl)
    | Or => exact wpAny_allTrue_Or_nil (k s.heap s.toks ρ I Go.refl)
  | e :: es, b, σ, σ', s, ρ, ok, he, I, l => by
    simp only [List.all_cons, Bool.and_eq_true] at ok
    intro Q E k
    unfold allT at he
    split at he
    · rename_i c σ1 h1
      cases op with
      | And =>
        refine wpAny_allTrue_And_cons (G.tst A env L σ e c σ1 m ao eo ok.1 h1 s ρ I l _ _ fun hp tk ρ1 I1 g1 => ?_)
        cases c with
        | false => cases he; exact k hp tk ρ1 I1 g1
        | true =>
          rw [if_pos rfl]
          exact allT_ok (s := { s with heap := hp, toks := tk }) G ao eo ok.2 he I1 (l.mono I g1) _ _ fun h2 t2 ρ2 I2 g2 => k h2 t2 ρ2 I2 (g1.trans g2)
      | Or =>
        refine wpAny_allTrue_Or_cons (G.tst A env L σ e c σ1 m ao eo ok.1 h1 s ρ I l _ _ fun hp tk ρ1 I1 g1 => ?_)
        cases c with
        | true => cases he; exact k hp tk ρ1 I1 g1
        | false =>
          rw [if_neg (by decide)]
          exact allT_ok (s := { s with heap := hp, toks := tk }) G ao eo ok.2 he I1 (l.mono I g1) _ _ fun h2 t2 ρ2 I2 g2 => k h2 t2 ρ2 I2 (g1.trans g2)
    · cases he

theorem tstS_ok (G : GoodF T CA B (model prog w) n F) {e : Expr} {b : Bool} {m : Nat} (ao : AOk A (n + 1)) (eo : EnvOk env) (ok : okE T m env.scope e = true) (he : tstS F L σ e = some (b, σ')) (I : Inv CA B s.heap ρ σ) (l : LocIn B s.heap ρ env L) :
    TsOk CA B (model prog w) A (isTrue e env (eval e env)) s ρ b σ' := by
  cases m with
  | zero => cases ok
  | succ m =>
  intro Q E k
  cases e with
  | UnaryOp op x q =>
    cases op <;> unfold tstS at he <;> dsimp only at he <;> first | cases he | skip
    unfold okE at ok
    split at he
    · rename_i c σ1 h1
      cases he
      exact wpAny_isTrue_Not (G.tst A env L σ x c _ m ao.down eo ok h1 s ρ I l _ _ fun hp tk ρ1 I1 g1 => k hp tk ρ1 I1 g1)
    · cases he
  | BoolOp op es q =>
    unfold tstS at he
    unfold okE at ok
    exact wpAny_isTrue_BoolOp (allT_ok G ao.down eo ok he I l _ _ k)
  | Compare lf ops rs q =>
    cases ops with
    | nil => unfold tstS at he; cases he
    | cons op ops =>
      cases ops with
      | cons => unfold tstS at he; cases he
      | nil =>
        cases rs with
        | nil => unfold tstS at he; cases he
        | cons r rs =>
          cases rs with
          | cons => unfold tstS at he; cases he
          | nil =>
            unfold tstS at he
            unfold okE at ok
            simp only [List.all_cons, List.all_nil, Bool.and_true, Bool.and_eq_true] at ok
            dsimp only at he
            split at he
            · rename_i a σ1 h1
              split at he
              · rename_i b σ2 h2
                obtain ⟨c, hc, e⟩ := Option.map_eq_some_iff.mp he
                cases e
                refine wpAny_isTrue_Compare1 (bin_ok (Q := fun v s₃ => wpAny (model prog w) A (truthy v) Q E s₃) (M := fun u v => compareOp op u v) G ao.down eo ok.1 ok.2.1 h1 h2 I l fun u v h2 tk2 ρ2 I2 g2 hu hv => ?_) (marks (by simpa using ok.2.2))
                exact (cmpS_ok (s := { s with heap := h2, toks := tk2 }) ao hc I2 hu hv).mono g2 fun v h3 tk3 ρ3 I3 g3 hv3 => truthy_ok hv3 (k h3 tk3 ρ3 I3 g3)
              · cases he
            · cases he
  | Name x q =>
    unfold tstS at he
    dsimp only at he
    split at he
    · rename_i c σ1 h1
      cases he
      exact wpAny_isTrue_value (G.ev A env L σ (.Name x q) _ _ (m + 1) ao.down eo ok h1 s ρ I l _ _ fun v h3 tk3 ρ3 I3 g3 hv3 => truthy_ok hv3 (k h3 tk3 ρ3 I3 g3))
    · cases he
  | Call f as ks q =>
    unfold tstS at he
    dsimp only at he
    split at he
    · rename_i c σ1 h1
      cases he
      exact wpAny_isTrue_value (G.ev A env L σ (.Call f as ks q) _ _ (m + 1) ao.down eo ok h1 s ρ I l _ _ fun v h3 tk3 ρ3 I3 g3 hv3 => truthy_ok hv3 (k h3 tk3 ρ3 I3 g3))
    · cases he
  | _ => unfold tstS at he; cases he

theorem swaps_no {e : Expr} {t : Option Expr} {line : Nat} (h : isComp e = false) : swapsWith e t line env = pure false := by
  cases e <;> first | rfl | cases h

theorem swaps_name {e : Expr} {x : Str} {q : Pos} {line : Nat} : ∃ b, swapsWith e (some (.Name x q)) line env = pure b := by
  cases e <;> exact ⟨_, rfl⟩

/-- names bound in their order -/
theorem inorder_names (eo : EnvOk env) {E : Value → Shared → Prop} : ∀ {xs : List Str} {ds : List V} {vs : List Value} {L : Loc} {s : Shared} {Q : Unit → Shared → Prop}, (∀ x ∈ xs, env.kindOf x = some .local) → xs.length = ds.length → Inv CA B s.heap ρ σ → LocIn B s.heap ρ env L → VAll s.heap ρ ds vs →
    (∀ h' tk, Inv CA B h' ρ σ → Go (XOf env) s.heap ρ h' ρ → LocIn B h' ρ env (updL L xs ds) → Q () { s with heap := h', toks := tk }) → wpAny (model prog w) A (assignInOrder (xs.map fun n => bindName env n) vs) Q E s
  | [], ds, vs, L, s, Q, _, hl, I, l, hv, k => by
    cases ds with
    | cons => cases hl
    | nil => exact wpAny_pure (k s.heap s.toks I Go.refl l)
  | x :: xs, ds, vs, L, s, Q, ok, hl, I, l, hv, k => by
    cases ds with
    | nil => cases hl
    | cons d ds =>
      cases hv with
      | @cons _ v _ vs hv hvs =>
        show wpAny _ _ (do holding vs (bindName env x v); assignInOrder (xs.map fun n => bindName env n) vs) Q E s
        refine wpAny_bind (wpAny_holding (wpAny_bindName (store_ok eo (.inl (ok x (.head _))) I l hv fun h1 t1 I1 g1 l1 q1 _ => ?_)))
        exact inorder_names eo (fun y hy => ok y (.tail _ hy)) (by simpa using hl) I1 l1 (hvs.mono l.soft I g1) fun h2 t2 I2 g2 l2 => k h2 t2 I2 (g1.trans g2) l2

theorem VAll.rev {l : List V} {vs : List Value} (x : VAll h ρ l vs) : VAll h ρ l.reverse vs.reverse := by
  induction l generalizing vs with
  | nil => cases x; exact .nil
  | cons d l ih =>
    cases x with
    | cons a r => rw [List.reverse_cons, List.reverse_cons]; exact (ih r).append (.cons a .nil)

theorem upd_comm {x y : Str} {a b : V} (h : x ≠ y) : upd (upd L x a) y b = upd (upd L y b) x a := by
  funext z
  unfold upd
  by_cases h1 : z = x <;> by_cases h2 : z = y
  · exact absurd (h1.symm.trans h2) h
  · simp [h1, h2, h]
  · subst h2; simp [Ne.symm h]
  · simp [h1, h2]

theorem updL_rev : ∀ {xs : List Str} {ds : List V} {L : Loc}, xs.Nodup → xs.length = ds.length → (xs.length = 2 ∨ xs.length = 3) → updL L xs.reverse ds.reverse = updL L xs ds
  | [x, y], [a, b], L, nd, _, _ => by
    simp only [List.nodup_cons, List.mem_singleton, List.not_mem_nil] at nd
    show upd (upd L y b) x a = upd (upd L x a) y b
    exact upd_comm (Ne.symm nd.1)
  | [x, y, z], [a, b, c], L, nd, _, _ => by
    simp only [List.nodup_cons, List.mem_cons, List.not_mem_nil, or_false, not_or] at nd
    show upd (upd (upd L z c) y b) x a = upd (upd (upd L x a) y b) z c
    rw [upd_comm (L := L) (x := x) (y := y) nd.1.1, upd_comm (L := upd L y b) (x := x) (y := z) nd.1.2, upd_comm (L := L) (x := y) (y := z) nd.2.1]
  | [], _, _, _, _, h => by rcases h with h | h <;> cases h
  | [_], _, _, _, _, h => by rcases h with h | h <;> cases h
  | _ :: _ :: _ :: _ :: _, _, _, _, _, h => by rcases h with h | h <;> simp at h
  | [_, _], [], _, _, h, _ => by cases h
  | [_, _], [_], _, _, h, _ => by simp at h
  | [_, _], _ :: _ :: _ :: _, _, _, h, _ => by simp at h
  | [_, _, _], [], _, _, h, _ => by cases h
  | [_, _, _], [_], _, _, h, _ => by simp at h
  | [_, _, _], [_, _], _, _, h, _ => by simp at h
  | [_, _, _], _ :: _ :: _ :: _ :: _, _, _, h, _ => by simp at h
end
end Mine
end
section
open PySem PySem.W PyProof.Rows PySem.Calls
set_option linter.unusedSectionVars false
namespace Mine
variable [Hid]
section
variable {T : Tbl} {CA : Str → Option Addr} {K : Frag} {mg mb : Str → Option Value} {B : Heap} {prog : Program} {w : World} {A : Around} {n : Nat} {F : Funs} {s : Shared} {ρ ρ' ρb τ : Rho} {σ σ' : Sto} {env : Env} {L L' : Loc} {d : V} {h h' h0 hb : Heap} {X X0 Y P P1 : Addr → Prop} {Q : Flow → Shared → Prop} {E : Value → Shared → Prop}

theorem nodup23 {xs : List Str} (h : xs.eraseDups.length = xs.length) (h2 : xs.length = 2 ∨ xs.length = 3) : xs.Nodup := by
  match xs, h, h2 with
  | [x, y], h, _ =>
    rw [List.eraseDups_cons] at h
    by_cases q : y = x
    · subst q; simp at h
    · simp [Ne.symm q]
  | [x, y, z], h, _ =>
    rw [List.eraseDups_cons] at h
    by_cases q : y = x
    · subst q
      by_cases r : z = y
      · subst r; simp at h
      · have : (z == y) = false := by simpa using r
        simp [this, List.eraseDups_cons] at h
    · by_cases r : z = x
      · subst r
        have : (y == z) = false := by simpa using q
        simp [this, List.eraseDups_cons] at h
      · have h1 : (y == x) = false := by simpa using q
        have h3 : (z == x) = false := by simpa using r
        by_cases t : z = y
        · subst t; simp [h1, List.eraseDups_cons] at h
        · simp [Ne.symm q, Ne.symm r, Ne.symm t]
  | [], _, h2 => rcases h2 with h | h <;> cases h
  | [_], _, h2 => rcases h2 with h | h <;> cases h
  | _ :: _ :: _ :: _ :: _, _, h2 => rcases h2 with h | h <;> simp at h

theorem names_filter {f : Expr → Option Str} (hf : ∀ e x, f e = some x → ∃ q, e = .Name x q ∧ env.kindOf x = some .local) : ∀ {ts : List Expr}, (ts.filterMap f).length = ts.length → names? ts = some (ts.filterMap f) ∧ ∀ x ∈ ts.filterMap f, env.kindOf x = some .local
  | [], _ => ⟨rfl, fun _ h => nomatch h⟩
  | t :: ts, h => by
    rw [List.filterMap_cons] at h ⊢
    cases q : f t with
    | none =>
      rw [q] at h
      dsimp only at h
      have := List.length_filterMap_le f ts
      rw [List.length_cons] at h
      omega
    | some x =>
      rw [q] at h
      dsimp only at h ⊢
      obtain ⟨p, rfl, hk⟩ := hf t x q
      obtain ⟨a, b⟩ := names_filter hf (ts := ts) (by simpa using h)
      refine ⟨by unfold names?; rw [a]; rfl, fun y hy => ?_⟩
      rcases List.mem_cons.mp hy with rfl | hy
      · exact hk
      · exact b y hy

theorem swapped_cases {ts : List Expr} {k : Nat} {q : Pos} {e : Expr} (hc : (match e with | .Tuple vs _ _ => !vs.all (constantsAlone 8) | _ => true) = true) :
    swappedStores [.Tuple ts k q] e env = pure none ∨ ∃ names, swappedStores [.Tuple ts k q] e env = pure (some names) ∧ names? ts = some names ∧ names.Nodup ∧ (names.length = 2 ∨ names.length = 3) ∧ ∀ x ∈ names, env.kindOf x = some .local := by
  cases e <;> first | exact .inl rfl | skip
  rename_i vs kk qq
  unfold swappedStores
  dsimp only at hc ⊢
  split
  · exact .inl rfl
  rename_i h1
  simp only [Bool.or_eq_true, Bool.not_eq_true', not_or, Bool.not_eq_true] at h1
  split
  · exact .inl rfl
  split
  · exact .inl rfl
  rename_i h3
  split
  · exact .inl rfl
  split
  · rename_i h5; rw [h5] at hc; cases hc
  · simp only [Bool.or_eq_true, not_or, Bool.not_eq_true, bne_eq_false_iff_eq] at h3
    have key := names_filter (env := env) (f := fun e => match e with
      | .Name id pos => if env.kindOf id == some .local && pos.line == (ts.head?.map (·.pos.line)).getD 0 then some id else none
      | _ => none) (fun e x hx => by
        cases e <;> first | cases hx | skip
        rename_i id p
        dsimp only at hx
        split at hx
        · rename_i hh
          cases hx
          rw [Bool.and_eq_true] at hh
          exact ⟨p, rfl, beq_iff_eq.mp hh.1⟩
        · cases hx) h3.1
    have hl : ts.length = 2 ∨ ts.length = 3 := by
      have := h1.1.1
      rcases Bool.eq_false_or_eq_true (ts.length == 2) with a | a
      · exact .inl (by simpa using a)
      · rcases Bool.eq_false_or_eq_true (ts.length == 3) with b | b
        · exact .inr (by simpa using b)
        · simp [a, b] at this
    exact .inr ⟨_, rfl, key.1, nodup23 h3.2 (by rw [h3.1]; exact hl), by rw [h3.1]; exact hl, key.2⟩
end
end Mine
end
section
open PySem PySem.W PyProof.Rows PySem.Calls
set_option linter.unusedSectionVars false
namespace Mine
variable [Hid]
section
variable {T : Tbl} {CA : Str → Option Addr} {K : Frag} {mg mb : Str → Option Value} {B : Heap} {prog : Program} {w : World} {A : Around} {n : Nat} {F : Funs} {s : Shared} {ρ ρ' ρb τ : Rho} {σ σ' : Sto} {env : Env} {L L' : Loc} {d : V} {h h' h0 hb : Heap} {X X0 Y P P1 : Addr → Prop} {Q : Flow → Shared → Prop} {E : Value → Shared → Prop}

/-- a value unpacked into names, the last first -/
theorem swapped_ok {ts : List Expr} {k : Nat} {q : Pos} {names : List Str} {v : Value} {Q : Unit → Shared → Prop} (hh : A.handled = none) (eo : EnvOk env) (hn : names? ts = some names) (nd : names.Nodup) (hl : names.length = 2 ∨ names.length = 3) (hk : ∀ x ∈ names, env.kindOf x = some .local)
    (hb : bindT L σ (.Tuple ts k q) d = some L') (I : Inv CA B s.heap ρ σ) (l : LocIn B s.heap ρ env L) (hv : VIn s.heap ρ d v)
    (kk : ∀ h' tk, Inv CA B h' ρ σ → Go (XOf env) s.heap ρ h' ρ → LocIn B h' ρ env L' → Q () { s with heap := h', toks := tk }) :
    wpAny (model prog w) A (unpackItems v names.length none) (fun items s₂ => wpAny (model prog w) A (assignInOrder (names.reverse.map fun n => bindName env n) items.reverse) Q E s₂) E s := by
  have rest : ∀ {ds : List V} {us : List Value} {h1 : Heap}, names.length = ds.length → L' = updL L names ds → VAll s.heap ρ ds us → Heap.ExtBut s.heap.objs.size s.heap h1 → wpAny (model prog w) A (assignInOrder (names.reverse.map fun n => bindName env n) us.toArray.toList.reverse) Q E { s with heap := h1 } := by
    intro ds us h1 hlen hL r he
    have kp : ∀ b o, s.heap.get? b = some o → h1.get? b = some o := fun b o e => he b o (fun q => by rw [q] at e; exact absurd (Heap.lt_size e) (Nat.lt_irrefl _)) e
    have g1 : Go No s.heap ρ h1 ρ := Go.grow kp
    refine inorder_names (s := { s with heap := h1 }) (CA := CA) (σ := σ) (ds := ds.reverse) eo (fun x hx => hk x (List.mem_reverse.mp hx)) (by simpa using hlen) (I.grow kp) (l.mono I g1) (by rw [List.toList_toArray]; exact (r.mono Soft.no I g1).rev) fun h2 t2 I2 g2 l2 => ?_
    rw [updL_rev nd hlen hl] at l2
    rw [hL] at kk
    exact kk h2 t2 I2 (g1.weaken.trans g2) l2
  unfold bindT at hb
  dsimp only at hb
  rw [hn] at hb
  split at hb
  · rename_i xs ds e1
    cases e1
    split at hb
    · rename_i hlen
      cases hb
      have hlen' := of_decide_eq_true hlen
      cases hv with
      | tup ht r hH =>
        have key := wpAny_unpackItems_tuple (prog := prog) (w := w) (A := A) (E := E) (Q := fun items s₂ => wpAny (model prog w) A (assignInOrder (names.reverse.map fun n => bindName env n) items.reverse) Q E s₂) hh ht fun h1 he => rest hlen' rfl r he
        rw [List.size_toArray, r.length, ← hlen'] at key
        exact key
    · cases hb
  · rename_i xs j e1
    cases e1
    split at hb
    · rename_i ds hds
      split at hb
      · rename_i hlen
        cases hb
        have hlen' := of_decide_eq_true hlen
        obtain ⟨ad, us, c, rfl, _, hx, r⟩ := I.list hds hv
        have key := kun_itemsOf (prog := prog) (w := w) (A := A) (E := E) (items := us.toArray) (Q := fun items s₂ => wpAny (model prog w) A (assignInOrder (names.reverse.map fun n => bindName env n) items.reverse) Q E s₂) hh (PySem.IsL.isList (n := c) hx) fun h1 he => rest hlen' rfl r he
        rw [List.size_toArray, r.length, ← hlen'] at key
        exact key
      · cases hb
    · cases hb
  · cases hb

theorem exS_ok (gd : Gnd T CA K mg mb B) (G : ∀ P1 : Addr → Prop, @GoodF ⟨P1⟩ T CA B (model prog w) n F) {N : Nat} {st : Stmt} {f : Fl} {m : Nat} (ao : AOk A (n + 1)) (eo : EnvOk env) (ok : okS T m env.scope st = true) (he : exS T F N L σ st = some (f, L', σ')) (I : Inv CA B s.heap ρ σ) (l : LocIn B s.heap ρ env L) :
    ExOk CA B (model prog w) A env (exec st env) s ρ f L' σ' := by
  have G0 : GoodF T CA B (model prog w) n F := G Hid.H
  cases m with
  | zero => cases ok
  | succ m =>
  intro Q E k
  cases st with
  | Return o q =>
    cases o with
    | none => unfold exS at he; cases he
    | some e =>
      unfold exS at he
      unfold okS at ok
      dsimp only at he
      split at he
      · rename_i v σ1 h1
        cases he
        exact wpAny_Return_some (G0.ev A env L σ e v _ m ao.down eo ok h1 s ρ I l _ _ fun u hp tk ρ1 I1 g1 hu => k (.ret u) hp tk ρ1 I1 g1.weaken (l.mono I g1) hu)
      · cases he
  | Assign ts e pos =>
    cases ts with
    | nil => unfold exS at he; cases he
    | cons t ts =>
      cases ts with
      | cons => unfold exS at he; cases he
      | nil =>
        unfold okS at ok
        rw [Bool.and_eq_true] at ok
        obtain ⟨oke, okt⟩ := ok
        cases t with
        | Name x q =>
          unfold exS at he
          dsimp only at he okt
          split at he
          · rename_i v σ1 h1
            cases he
            have plain : swapsWith e (some (.Name x q)) pos.line env = pure false → EvOk CA B (model prog w) A (eval e env) s ρ v σ' → wpAny (model prog w) A (exec (.Assign [.Name x q] e pos) env) Q E s := fun hs hev =>
              wpAny_Assign_Name (hev _ _ fun u hp tk ρ1 I1 g1 hu =>
                store_ok (s := { s with heap := hp, toks := tk }) eo (okNm_kind (q := q) okt) I1 (l.mono I g1) hu fun h2 tk2 I2 g2 l2 _ _ => k .next h2 tk2 ρ1 I2 (g1.weaken.trans g2) l2 True.intro) hs
            cases hc : isComp e with
            | false =>
              have h1' : F.ev L σ e = some (v, σ') := by
                unfold evA at h1
                cases e <;> first | exact h1 | cases hc
              exact plain (swaps_no hc) (G0.ev A env L σ e v _ m ao.down eo oke h1' s ρ I l)
            | true =>
              cases m with
              | zero => cases oke
              | succ m =>
              cases e with
              | ListComp elt gens sc cpos =>
                cases gens with
                | nil => unfold evA evS at h1; cases h1
                | cons g gs =>
                  have he' : (match overE T F L σ g.target g.iter with
                    | some (w, vs, σ1) => (match clauses F σ1.length elt (g :: gs) (hide sc L) w vs (σ1 ++ [.list []]) with
                      | some σ2 => some (V.obj σ1.length, σ2)
                      | none => none)
                    | none => none) = some (v, σ') := by
                    obtain ⟨t, i, f, a⟩ := g
                    unfold evA evS at h1
                    exact h1
                  split at he'
                  · rename_i wv vs σ1 e1
                    split at he'
                    · rename_i σ2 e2
                      cases he'
                      obtain ⟨b, hb⟩ := swaps_name (e := .ListComp elt (g :: gs) sc cpos) (x := x) (q := q) (line := pos.line) (env := env)
                      cases b with
                      | false => exact plain hb (comp_val gd G ao eo oke e1 e2 I l)
                      | true => exact comp_use (m := m) gd G ao eo hb (okNm_kind (q := q) okt) oke e1 e2 I l _ _ k
                    · cases he'
                  · cases he'
              | _ => first | (unfold okE at oke; cases oke; done) | (cases hc; done)
          · cases he
        | Tuple ts kk q =>
          unfold exS at he
          dsimp only at he okt
          simp only [Bool.and_eq_true] at okt
          obtain ⟨⟨okt, okc⟩, okd⟩ := okt
          split at he
          · rename_i v σ1 h1
            split at he
            · rename_i L1 hb
              cases he
              have hs : swapsWithSole [.Tuple ts kk q] e pos.line env = pure false := by
                unfold swapsWithSole
                exact swaps_no (by simpa using okc)
              rcases swapped_cases (env := env) (ts := ts) (k := kk) (q := q) okd with hw | ⟨names, hw, hn, nd, hl, hk⟩
              · refine Assign_Tuple (G0.ev A env L σ e v _ m ao.down eo oke h1 s ρ I l _ _ fun u hp tk ρ1 I1 g1 hu => ?_) hs hw
                exact asg_ok (s := { s with heap := hp, toks := tk }) ao.hd eo okt hb I1 (l.mono I g1) hu fun h2 tk2 I2 g2 l2 _ => k .next h2 tk2 ρ1 I2 (g1.weaken.trans g2) l2 True.intro
              · refine Assign_Tuple_swapped (G0.ev A env L σ e v _ m ao.down eo oke h1 s ρ I l _ _ fun u hp tk ρ1 I1 g1 hu => ?_) hs hw
                exact swapped_ok (s := { s with heap := hp, toks := tk }) (CA := CA) ao.hd eo hn nd hl hk hb I1 (l.mono I g1) hu fun h2 tk2 I2 g2 l2 => k .next h2 tk2 ρ1 I2 (g1.weaken.trans g2) l2 True.intro
            · cases he
          · cases he
        | Attribute b a q =>
          cases b with
          | Name y qy =>
            unfold exS at he
            dsimp only at he okt
            rw [Bool.and_eq_true] at okt
            split at he
            · rename_i v σ1 h1
              split at he
              · rename_i j σ2 h2
                split at he
                · rename_i c fs e1
                  split at he
                  · rename_i hc
                    cases he
                    rw [Bool.and_eq_true] at hc
                    refine plainObj_wpAny_Assign_Attribute (G0.ev A env L σ e v σ1 m ao.down eo oke h1 s ρ I l _ _ fun u hp tk ρ1 I1 g1 hu => ?_) (swaps_no (by simpa using okt.2))
                    refine G0.ev A env L σ1 (.Name y qy) (.obj j) σ2 1 ao.down eo (by unfold okE; exact okt.1) h2 { s with heap := hp, toks := tk } ρ1 I1 (l.mono I g1) _ _ fun u2 hp2 tk2 ρ2 I2 g2 hu2 => ?_
                    exact set_ok (s := { s with heap := hp2, toks := tk2 }) gd I2 e1 hu2 (hu.mono Soft.no I1 g2) hc.1 (of_decide_eq_true hc.2) fun h3 tk3 I3 g3 => k .next h3 tk3 ρ2 I3 ((g1.trans g2).trans g3).weaken (((l.mono I g1).mono I1 g2).mono I2 g3) True.intro
                  · cases he
                · cases he
              · cases he
            · cases he
          | _ => unfold exS at he; cases he
        | Subscript o i q =>
          unfold exS at he
          dsimp only at he okt
          simp only [Bool.and_eq_true] at okt
          obtain ⟨⟨⟨oko, oki⟩, okc⟩, oksl⟩ := okt
          split at he
          · rename_i v σ1 h1
            split at he
            · rename_i j σ2 h2
              split at he
              · rename_i kq σ3 h3
                split at he
                · rename_i ll e1
                  split at he
                  · rename_i hc
                    cases he
                    simp only [Bool.and_eq_true, decide_eq_true_eq, small] at hc
                    refine wpAny_Assign_Subscript (G0.ev A env L σ e v σ1 m ao.down eo oke h1 s ρ I l _ _ fun u hp tk ρ1 I1 g1 hu => ?_) (swaps_no (by simpa using okc))
                    refine G0.ev A env L σ1 o (.obj j) σ2 m ao.down eo oko h2 { s with heap := hp, toks := tk } ρ1 I1 (l.mono I g1) _ _ fun u2 hp2 tk2 ρ2 I2 g2 hu2 => ?_
                    refine G0.ev A env L σ2 i (.int kq) σ3 m ao.down eo oki h3 { s with heap := hp2, toks := tk2 } ρ2 I2 ((l.mono I g1).mono I1 g2) _ _ fun u3 hp3 tk3 ρ3 I3 g3 hu3 => ?_
                    have hu2' := hu2.mono Soft.no I2 g3
                    have hu' := (hu.mono Soft.no I1 g2).mono Soft.no I2 g3
                    obtain ⟨ad, us, c, rfl, hpa, hx, r⟩ := I3.list (s := { s with heap := hp3, toks := tk3 }) e1 hu2'
                    cases hu3
                    have T2 := turn_list (s := { s with heap := hp3, toks := tk3 }) (l' := ll.set kq.toNat v) (vs' := us.set kq.toNat u) I3 hpa hx (·.setIfInBounds kq.toNat u) (by simp) (r.set kq.toNat hu')
                    refine ki_setAt (s := { s with heap := hp3, toks := tk3 }) hx hc.1.1 (by omega) (by rw [List.size_toArray, r.length]; exact hc.1.2) ?_
                    exact k .next _ tk3 ρ3 T2.1 (((g1.trans g2).trans g3).trans T2.2).weaken ((((l.mono I g1).mono I1 g2).mono I2 g3).mono I3 T2.2) True.intro
                  · cases he
                · cases he
              · cases he
            · cases he
          · cases he
        | _ => unfold exS at he; cases he
  | AugAssign t op e pos =>
    cases t with
    | Name x q =>
      cases op <;> unfold exS at he <;> dsimp only at he <;> first | cases he | skip
      unfold okS at ok
      simp only [Bool.and_eq_true] at ok
      obtain ⟨⟨okt, okx⟩, oke⟩ := ok
      have hk := okNm_kind (q := q) okt
      split at he
      · rename_i a hx
        split at he
        · rename_i b σ2 h1
          cases he
          refine wpAny_AugAssign_Name (loadVar eo l hx (by rcases hk with q | q <;> rw [q] <;> rfl) (by simpa using okx) fun u hu => ?_)
          cases hu
          refine G0.ev A env L σ e (.int b) _ m ao.down eo oke h1 s ρ I l _ _ fun u hp tk ρ1 I1 g1 hu => ?_
          cases hu
          refine iadd_int ?_
          exact store_ok (s := { s with heap := hp, toks := tk + 1 }) eo hk I1 (l.mono I g1) (.int _ _) fun h2 tk2 I2 g2 l2 _ _ => k .next h2 tk2 ρ1 I2 (g1.weaken.trans g2) l2 True.intro
        · cases he
      · cases he
    | _ => unfold exS at he; cases he
  | Expr e pos =>
    cases e with
    | Call f as ks q =>
      unfold exS at he
      unfold okS at ok
      rw [Bool.and_eq_true] at ok
      dsimp only at he
      split at he
      · rename_i v σ1 h1
        cases he
        refine wpAny_Expr_any (G0.ev A env L σ (.Call f as ks q) v _ m ao.down eo ok.1 h1 s ρ I l _ _ fun u hp tk ρ1 I1 g1 hu => k .next hp tk ρ1 I1 g1.weaken (l.mono I g1) True.intro) (by unfold interactive; rw [eo.kind]; rfl) rfl
      · cases he
    | _ => unfold exS at he; cases he
  | If t b o pos =>
    unfold exS at he
    unfold okS at ok
    simp only [Bool.and_eq_true] at ok
    dsimp only at he
    split at he
    · rename_i c σ1 h1
      refine wpAny_If (G0.tst A env L σ t c σ1 m ao.down eo ok.1.1 h1 s ρ I l _ _ fun hp tk ρ1 I1 g1 => ?_)
      cases c with
      | true =>
        rw [if_pos rfl] at he ⊢
        exact exs_ok (s := { s with heap := hp, toks := tk }) (m := m) G0 ao.down eo ok.1.2 he I1 (l.mono I g1) _ _ fun fl h2 tk2 ρ2 I2 g2 l2 hf => k fl h2 tk2 ρ2 I2 (g1.weaken.trans g2) l2 hf
      | false =>
        rw [if_neg (by decide)] at he ⊢
        exact exs_ok (s := { s with heap := hp, toks := tk }) (m := m) G0 ao.down eo ok.2 he I1 (l.mono I g1) _ _ fun fl h2 tk2 ρ2 I2 g2 l2 hf => k fl h2 tk2 ρ2 I2 (g1.weaken.trans g2) l2 hf
    · cases he
  | While t b o pos =>
    cases o with
    | cons => unfold exS at he; cases he
    | nil =>
      unfold exS at he
      unfold okS at ok
      simp only [Bool.and_eq_true] at ok
      refine wpAny_While (codeAny_whileLoop (fun c s' => ∃ L1 σ1 h1 tk ρ1, s' = { s with heap := h1, toks := tk } ∧ whileL (fun L σ => F.tst L σ t) (fun L σ => exs F.ex L σ b) c L1 σ1 = some (f, L', σ') ∧ Inv CA B h1 ρ1 σ1 ∧ Go (XOf env) s.heap ρ h1 ρ1 ∧ LocIn B h1 ρ1 env L1) ?_ N ⟨L, σ, s.heap, s.toks, ρ, rfl, he, I, Go.refl, l⟩)
      rintro c s' ⟨L1, σ1, h1, tk, ρ1, rfl, he1, I1, g1, l1⟩
      cases c with
      | zero => cases he1
      | succ c =>
        unfold whileL at he1
        split at he1
        · rename_i σ2 ht
          refine G0.tst A env L1 σ1 t true σ2 m ao.down eo ok.1 ht { s with heap := h1, toks := tk } ρ1 I1 l1 _ _ fun hp tk2 ρ2 I2 g2 => ?_
          rw [if_pos rfl]
          split at he1
          · rename_i L2 σ3 hb
            refine exs_ok (s := { s with heap := hp, toks := tk2 }) (m := m) G0 ao.down eo ok.2 hb I2 (l1.mono I1 g2) _ _ fun fl h2 tk3 ρ3 I3 g3 l3 hf => ?_
            cases fl <;> first | exact hf.elim | skip
            exact ⟨c, Nat.lt_succ_self _, L2, σ3, h2, tk3, ρ3, rfl, he1, I3, (g1.trans g2.weaken).trans g3, l3⟩
          · rename_i r L2 σ3 hb
            cases he1
            refine exs_ok (s := { s with heap := hp, toks := tk2 }) (m := m) G0 ao.down eo ok.2 hb I2 (l1.mono I1 g2) _ _ fun fl h2 tk3 ρ3 I3 g3 l3 hf => ?_
            cases fl <;> first | exact hf.elim | skip
            exact k _ h2 tk3 ρ3 I3 ((g1.trans g2.weaken).trans g3) l3 hf
          · cases he1
        · rename_i σ2 ht
          cases he1
          refine G0.tst A env L' σ1 t false σ' m ao.down eo ok.1 ht { s with heap := h1, toks := tk } ρ1 I1 l1 _ _ fun hp tk2 ρ2 I2 g2 => ?_
          rw [if_neg (by decide)]
          exact wpAny_execs_nil (k .next hp tk2 ρ2 I2 (g1.trans g2.weaken) (l1.mono I1 g2) True.intro)
        · cases he1
  | For t it b o pos =>
    cases o with
    | cons => unfold exS at he; cases he
    | nil =>
      unfold exS at he
      unfold okS at ok
      simp only [Bool.and_eq_true] at ok
      obtain ⟨⟨⟨oki, okt⟩, okb⟩, okset⟩ := ok
      dsimp only at he
      split at he
      · rename_i wv σ1 h1
        split at he
        · rename_i vs hvs
          have hset : isSet it = false := by simpa using okset
          refine wpAny_For (G0.ev A env L σ it wv σ1 m ao.down eo oki h1 s ρ I l _ _ fun u hp tk ρ1 I1 g1 hu => ?_) (by intro x; cases it <;> first | rfl | cases hset)
          refine iter_ok (s := { s with heap := hp, toks := tk }) hvs I1 hu fun h2 Iv own kp x hf => ?_
          have g2 : Go No hp ρ1 h2 ρ1 := Go.grow kp
          refine for_ok (s := { s with heap := h2, toks := tk }) (iter := it) (hb := s.heap) (ρb := ρ) (m := m) G0 ao.down eo okt okb (fun b hb => ⟨?_, (hf b hb).2⟩) he (I1.grow kp) (g1.trans g2).weaken ((l.mono I g1).mono I1 g2) x fun fl h3 tk3 ρ3 I3 g3 l3 hfl => k fl h3 tk3 ρ3 I3 g3 l3 hfl
          cases q : s.heap.get? b with
          | none => rfl
          | some o => obtain ⟨o', e⟩ := g1.live b o q; rw [(hf b hb).1] at e; cases e
        · cases he
      · cases he
  | _ => unfold exS at he; cases he
end
end Mine
end
section
open PySem PySem.W PyProof.Rows PySem.Calls
set_option linter.unusedSectionVars false
namespace Mine
variable {T : Tbl} {CA : Str → Option Addr} {K : Frag} {mg mb : Str → Option Value} {B : Heap} {prog : Program} {w : World}

theorem good (gd : Gnd T CA K mg mb B) : ∀ (n : Nat) (P1 : Addr → Prop), @GoodF ⟨P1⟩ T CA B (model prog w) n (lvl T n)
  | 0, P1 => by
    refine @GoodF.mk ⟨P1⟩ T CA B (model prog w) 0 (lvl T 0) ?_ ?_ ?_
    · intro A env L σ e d σ' m _ _ _ he; cases he
    · intro A env L σ e d σ' m _ _ _ he; cases he
    · intro A env L σ e d L' σ' m _ _ _ he; cases he
  | n + 1, P1 => by
    have G := good gd n
    refine @GoodF.mk ⟨P1⟩ T CA B (model prog w) (n + 1) (lvl T (n + 1)) ?_ ?_ ?_
    · intro A env L σ e d σ' m ao eo ok he s ρ I l
      exact @evS_ok ⟨P1⟩ _ _ _ _ _ _ _ _ _ _ _ _ _ _ _ _ _ _ gd G _ _ ao eo ok he I l
    · intro A env L σ e d σ' m ao eo ok he s ρ I l
      exact @tstS_ok ⟨P1⟩ _ _ _ _ _ _ _ _ _ _ _ _ _ _ (G P1) _ _ _ ao eo ok he I l
    · intro A env L σ st f L' σ' m ao eo ok he s ρ I l
      exact @exS_ok ⟨P1⟩ _ _ _ _ _ _ _ _ _ _ _ _ _ _ _ _ _ _ gd G _ _ _ _ ao eo ok he I l
end Mine
end
section
open PySem PySem.W PyProof.Rows
set_option Elab.async false
namespace Mine
set_option maxRecDepth 100000 in
set_option maxHeartbeats 8000000 in
open_top hd for PySem.Challenge.rw_on0251_01
end Mine
end
section
open PySem PySem.W PyProof.Rows PySem.Calls
set_option linter.unusedSectionVars false
set_option linter.unusedVariables false
set_option maxRecDepth 100000
namespace Mine

/-- the functions of a body, by their place -/
def nth : List Stmt → Nat → Option DefRec
  | [], _ => none
  | .FunctionDef n a b _ _ _ sc _ _ pos :: r, 0 => some ⟨n, a, b, sc, pos⟩
  | .FunctionDef _ _ _ _ _ _ _ _ _ _ :: r, k + 1 => nth r k
  | _ :: r, k => nth r k
/-- the classes of a body, by their place -/
def nthC : List Stmt → Nat → Option (List Stmt)
  | [], _ => none
  | .ClassDef _ _ _ b _ _ _ _ _ _ _ :: r, 0 => some b
  | .ClassDef _ _ _ _ _ _ _ _ _ _ _ :: r, k + 1 => nthC r k
  | _ :: r, k => nthC r k
abbrev top : List Stmt := PySem.Challenge.pw_on0251_01.main.body

noncomputable def d_root_floor : {d : DefRec // nth top 0 = some d} := ⟨_, rfl⟩
noncomputable def d_nearest_root_share : {d : DefRec // nth top 1 = some d} := ⟨_, rfl⟩
noncomputable def d_nearest_share : {d : DefRec // nth top 2 = some d} := ⟨_, rfl⟩
noncomputable def d_way_of : {d : DefRec // nth top 3 = some d} := ⟨_, rfl⟩
noncomputable def d_moved_by : {d : DefRec // nth top 4 = some d} := ⟨_, rfl⟩
noncomputable def d_turned_about : {d : DefRec // nth top 5 = some d} := ⟨_, rfl⟩
noncomputable def d_square_of : {d : DefRec // nth top 6 = some d} := ⟨_, rfl⟩
noncomputable def d_normal_of : {d : DefRec // nth top 7 = some d} := ⟨_, rfl⟩
noncomputable def d_along_of : {d : DefRec // nth top 8 = some d} := ⟨_, rfl⟩
noncomputable def d_parallel : {d : DefRec // nth top 9 = some d} := ⟨_, rfl⟩
noncomputable def d_area_twice_of : {d : DefRec // nth top 10 = some d} := ⟨_, rfl⟩
noncomputable def d_one_sense : {d : DefRec // nth top 11 = some d} := ⟨_, rfl⟩
noncomputable def d_eighth : {d : DefRec // nth top 12 = some d} := ⟨_, rfl⟩
noncomputable def d_disc_about : {d : DefRec // nth top 13 = some d} := ⟨_, rfl⟩
noncomputable def d_is_at_least_root : {d : DefRec // nth top 14 = some d} := ⟨_, rfl⟩
noncomputable def d_is_within_limit : {d : DefRec // nth top 15 = some d} := ⟨_, rfl⟩
noncomputable def d_tip_of : {d : DefRec // nth top 16 = some d} := ⟨_, rfl⟩
noncomputable def d_bevel_spots : {d : DefRec // nth top 17 = some d} := ⟨_, rfl⟩
noncomputable def d_miter_spots : {d : DefRec // nth top 18 = some d} := ⟨_, rfl⟩
noncomputable def d_join_spots : {d : DefRec // nth top 19 = some d} := ⟨_, rfl⟩
noncomputable def d_square_about : {d : DefRec // nth top 20 = some d} := ⟨_, rfl⟩
noncomputable def d_cap_spots : {d : DefRec // nth top 21 = some d} := ⟨_, rfl⟩
noncomputable def d_dot_spots : {d : DefRec // nth top 22 = some d} := ⟨_, rfl⟩
noncomputable def d_side_length : {d : DefRec // nth top 23 = some d} := ⟨_, rfl⟩
noncomputable def d_spot_at : {d : DefRec // nth top 24 = some d} := ⟨_, rfl⟩
noncomputable def d_dashed : {d : DefRec // nth top 25 = some d} := ⟨_, rfl⟩
noncomputable def d_plain_line : {d : DefRec // nth top 26 = some d} := ⟨_, rfl⟩
noncomputable def d_side_pieces : {d : DefRec // nth top 27 = some d} := ⟨_, rfl⟩
noncomputable def d_join_pieces : {d : DefRec // nth top 28 = some d} := ⟨_, rfl⟩
noncomputable def d_corners_of : {d : DefRec // nth top 29 = some d} := ⟨_, rfl⟩
noncomputable def d_stroked_line : {d : DefRec // nth top 30 = some d} := ⟨_, rfl⟩
noncomputable def d_stroked : {d : DefRec // nth top 31 = some d} := ⟨_, rfl⟩
noncomputable def d_l_pool : {d : DefRec // nth top 32 = some d} := ⟨_, rfl⟩
noncomputable def d_l_take : {d : DefRec // nth top 33 = some d} := ⟨_, rfl⟩
noncomputable def d_l_one : {d : DefRec // nth top 34 = some d} := ⟨_, rfl⟩
noncomputable def d_l_normal : {d : DefRec // nth top 35 = some d} := ⟨_, rfl⟩
noncomputable def d_l_sensed : {d : DefRec // nth top 36 = some d} := ⟨_, rfl⟩
noncomputable def d_l_at : {d : DefRec // nth top 37 = some d} := ⟨_, rfl⟩
noncomputable def d_l_side : {d : DefRec // nth top 38 = some d} := ⟨_, rfl⟩
noncomputable def d_l_corner : {d : DefRec // nth top 39 = some d} := ⟨_, rfl⟩
noncomputable def d_l_cap : {d : DefRec // nth top 40 = some d} := ⟨_, rfl⟩
noncomputable def d_l_due : {d : DefRec // nth top 41 = some d} := ⟨_, rfl⟩
noncomputable def d_l_drawn : {d : DefRec // nth top 42 = some d} := ⟨_, rfl⟩
noncomputable def d_law : {d : DefRec // nth top 43 = some d} := ⟨_, rfl⟩
noncomputable def m_corner_init : {d : DefRec // ((nthC top 3).bind fun b => nth b 0) = some d} := ⟨_, rfl⟩
noncomputable def m_corner_is_straight : {d : DefRec // ((nthC top 3).bind fun b => nth b 1) = some d} := ⟨_, rfl⟩
noncomputable def m_corner_squares : {d : DefRec // ((nthC top 3).bind fun b => nth b 2) = some d} := ⟨_, rfl⟩
noncomputable def m_pattern_init : {d : DefRec // ((nthC top 4).bind fun b => nth b 0) = some d} := ⟨_, rfl⟩
noncomputable def m_pattern_is_plain : {d : DefRec // ((nthC top 4).bind fun b => nth b 1) = some d} := ⟨_, rfl⟩
noncomputable def m_style_init : {d : DefRec // ((nthC top 6).bind fun b => nth b 0) = some d} := ⟨_, rfl⟩
noncomputable def m_style_half : {d : DefRec // ((nthC top 6).bind fun b => nth b 1) = some d} := ⟨_, rfl⟩
noncomputable def m_style_steps : {d : DefRec // ((nthC top 6).bind fun b => nth b 2) = some d} := ⟨_, rfl⟩
def bis : List (Str × Bi) := [("len", .len), ("range", .range), ("abs", .abs), ("max", .max), ("min", .min), ("int", .int), ("tuple", .tuple), ("sum", .sum), ("zip", .zip)]
def clss : List Str := ["Corner", "Pattern", "Style"]
noncomputable def fns : List DefRec := [d_root_floor.1, d_nearest_root_share.1, d_way_of.1, d_moved_by.1, d_turned_about.1, d_normal_of.1, d_along_of.1, d_parallel.1, d_area_twice_of.1, d_one_sense.1, d_is_at_least_root.1, d_is_within_limit.1, d_bevel_spots.1, d_join_spots.1, d_square_about.1, d_cap_spots.1, d_dot_spots.1, d_dashed.1, d_plain_line.1, d_side_pieces.1, d_join_pieces.1, d_corners_of.1, d_stroked_line.1, d_stroked.1, d_l_pool.1, d_l_take.1, d_l_one.1, d_l_normal.1, d_l_sensed.1, d_l_at.1, d_l_side.1, d_l_corner.1, d_l_cap.1, d_l_due.1, d_l_drawn.1]
noncomputable def meths : List ((Str × Str) × DefRec) := [
  (("Corner", "__init__"), m_corner_init.1), (("Corner", "is_straight"), m_corner_is_straight.1), (("Corner", "squares"), m_corner_squares.1),
  (("Pattern", "__init__"), m_pattern_init.1), (("Pattern", "is_plain"), m_pattern_is_plain.1),
  (("Style", "__init__"), m_style_init.1), (("Style", "half"), m_style_half.1), (("Style", "steps"), m_style_steps.1)]
def flds : List (Str × List Str) := [("Corner", ["spot", "first", "second", "turn", "straight", "one", "other"]), ("Pattern", ["lengths", "place", "left"]), ("Style", ["width", "join", "cap", "limit", "dashes", "start"])]
noncomputable def tbl (r : Nat → Option (List Int)) : Tbl where
  kind x := match bis.lookup x with
    | some b => some (.bi b)
    | none => if clss.contains x then some (.cls x) else if x = "MOST_STEPS" then some (.const (.int 16)) else (fns.find? fun d => d.name == x).map .fn
  meth c m := meths.lookup (c, m)
  dfl c := if c = "Style" then [.str "miter", .str "butt", .tup [.int 4, .int 1], .tup [], .int 0] else []
  field c a := match flds.lookup c with
    | some l => l.contains a
    | none => false
  ro := r
variable (r : Nat → Option (List Int))

theorem k_len : (tbl r).kind "len" = some (.bi .len) := by kernel_rfl
theorem k_range : (tbl r).kind "range" = some (.bi .range) := by kernel_rfl
theorem k_abs : (tbl r).kind "abs" = some (.bi .abs) := by kernel_rfl
theorem k_max : (tbl r).kind "max" = some (.bi .max) := by kernel_rfl
theorem k_min : (tbl r).kind "min" = some (.bi .min) := by kernel_rfl
theorem k_int : (tbl r).kind "int" = some (.bi .int) := by kernel_rfl
theorem k_tuple : (tbl r).kind "tuple" = some (.bi .tuple) := by kernel_rfl
theorem k_sum : (tbl r).kind "sum" = some (.bi .sum) := by kernel_rfl
theorem k_zip : (tbl r).kind "zip" = some (.bi .zip) := by kernel_rfl
theorem k_root_floor : (tbl r).kind "root_floor" = some (.fn d_root_floor.1) := by kernel_rfl
theorem k_nearest_root_share : (tbl r).kind "nearest_root_share" = some (.fn d_nearest_root_share.1) := by kernel_rfl
theorem k_way_of : (tbl r).kind "way_of" = some (.fn d_way_of.1) := by kernel_rfl
theorem k_moved_by : (tbl r).kind "moved_by" = some (.fn d_moved_by.1) := by kernel_rfl
theorem k_turned_about : (tbl r).kind "turned_about" = some (.fn d_turned_about.1) := by kernel_rfl
theorem k_normal_of : (tbl r).kind "normal_of" = some (.fn d_normal_of.1) := by kernel_rfl
theorem k_along_of : (tbl r).kind "along_of" = some (.fn d_along_of.1) := by kernel_rfl
theorem k_parallel : (tbl r).kind "parallel" = some (.fn d_parallel.1) := by kernel_rfl
theorem k_area_twice_of : (tbl r).kind "area_twice_of" = some (.fn d_area_twice_of.1) := by kernel_rfl
theorem k_one_sense : (tbl r).kind "one_sense" = some (.fn d_one_sense.1) := by kernel_rfl
theorem k_is_at_least_root : (tbl r).kind "is_at_least_root" = some (.fn d_is_at_least_root.1) := by kernel_rfl
theorem k_is_within_limit : (tbl r).kind "is_within_limit" = some (.fn d_is_within_limit.1) := by kernel_rfl
theorem k_bevel_spots : (tbl r).kind "bevel_spots" = some (.fn d_bevel_spots.1) := by kernel_rfl
theorem k_join_spots : (tbl r).kind "join_spots" = some (.fn d_join_spots.1) := by kernel_rfl
theorem k_square_about : (tbl r).kind "square_about" = some (.fn d_square_about.1) := by kernel_rfl
theorem k_cap_spots : (tbl r).kind "cap_spots" = some (.fn d_cap_spots.1) := by kernel_rfl
theorem k_dot_spots : (tbl r).kind "dot_spots" = some (.fn d_dot_spots.1) := by kernel_rfl
theorem k_dashed : (tbl r).kind "dashed" = some (.fn d_dashed.1) := by kernel_rfl
theorem k_plain_line : (tbl r).kind "plain_line" = some (.fn d_plain_line.1) := by kernel_rfl
theorem k_side_pieces : (tbl r).kind "side_pieces" = some (.fn d_side_pieces.1) := by kernel_rfl
theorem k_join_pieces : (tbl r).kind "join_pieces" = some (.fn d_join_pieces.1) := by kernel_rfl
theorem k_corners_of : (tbl r).kind "corners_of" = some (.fn d_corners_of.1) := by kernel_rfl
theorem k_stroked_line : (tbl r).kind "stroked_line" = some (.fn d_stroked_line.1) := by kernel_rfl
theorem k_stroked : (tbl r).kind "stroked" = some (.fn d_stroked.1) := by kernel_rfl
theorem k_l_pool : (tbl r).kind "_law_pool" = some (.fn d_l_pool.1) := by kernel_rfl
theorem k_l_take : (tbl r).kind "_law_take" = some (.fn d_l_take.1) := by kernel_rfl
theorem k_l_one : (tbl r).kind "_law_one" = some (.fn d_l_one.1) := by kernel_rfl
theorem k_l_normal : (tbl r).kind "_law_normal" = some (.fn d_l_normal.1) := by kernel_rfl
theorem k_l_sensed : (tbl r).kind "_law_sensed" = some (.fn d_l_sensed.1) := by kernel_rfl
theorem k_l_at : (tbl r).kind "_law_at" = some (.fn d_l_at.1) := by kernel_rfl
theorem k_l_side : (tbl r).kind "_law_side" = some (.fn d_l_side.1) := by kernel_rfl
theorem k_l_corner : (tbl r).kind "_law_corner" = some (.fn d_l_corner.1) := by kernel_rfl
theorem k_l_cap : (tbl r).kind "_law_cap" = some (.fn d_l_cap.1) := by kernel_rfl
theorem k_l_due : (tbl r).kind "_law_due" = some (.fn d_l_due.1) := by kernel_rfl
theorem k_l_drawn : (tbl r).kind "_law_drawn" = some (.fn d_l_drawn.1) := by kernel_rfl
theorem k_Corner : (tbl r).kind "Corner" = some (.cls "Corner") := by kernel_rfl
theorem k_Pattern : (tbl r).kind "Pattern" = some (.cls "Pattern") := by kernel_rfl
theorem k_Style : (tbl r).kind "Style" = some (.cls "Style") := by kernel_rfl
theorem k_MOST_STEPS : (tbl r).kind "MOST_STEPS" = some (.const (.int 16)) := by kernel_rfl
theorem fns_ok : fns.all (okFn (tbl r)) = true := by kernel_rfl
theorem law_ok : okFn (tbl r) d_law.1 = true := by kernel_rfl
theorem meths_ok : meths.all (fun p => okFn (tbl r) p.2) = true := by kernel_rfl
end Mine
end
section
open PySem PySem.W PyProof.Rows PySem.Calls
set_option linter.unusedSectionVars false
set_option linter.unusedVariables false
set_option maxRecDepth 100000
namespace Mine
theorem recs_eq : recsOf hd.view_39 = [d_root_floor.1, d_nearest_root_share.1, d_nearest_share.1, d_way_of.1, d_moved_by.1, d_turned_about.1, d_square_of.1, d_normal_of.1, d_along_of.1, d_parallel.1, d_area_twice_of.1, d_one_sense.1, d_eighth.1, d_disc_about.1, d_is_at_least_root.1, d_is_within_limit.1, d_tip_of.1, d_bevel_spots.1, d_miter_spots.1, d_join_spots.1, d_square_about.1, d_cap_spots.1, d_dot_spots.1, d_side_length.1, d_spot_at.1, d_dashed.1, d_plain_line.1, d_side_pieces.1, d_join_pieces.1, d_corners_of.1, d_stroked_line.1, d_stroked.1, d_l_pool.1, d_l_take.1, d_l_one.1, d_l_normal.1, d_l_sensed.1, d_l_at.1, d_l_side.1, d_l_corner.1, d_l_cap.1, d_l_due.1, d_l_drawn.1, d_law.1] := by kernel_rfl
theorem fns_recs : ∀ d ∈ fns, d ∈ recsOf hd.view_39 := by
  rw [recs_eq]
  unfold fns
  intro d hd
  simp only [List.mem_cons, List.not_mem_nil, or_false] at hd ⊢
  rcases hd with h | h | h | h | h | h | h | h | h | h | h | h | h | h | h | h | h | h | h | h | h | h | h | h | h | h | h | h | h | h | h | h | h | h | h <;> simp [h]
end Mine
end
section
open PySem PySem.W PyProof.Rows PySem.Calls
set_option linter.unusedSectionVars false
set_option linter.unusedVariables false
set_option maxRecDepth 100000
namespace Mine
def clsAt (c : Str) : Option Addr := if c = "Corner" then some 185 else if c = "Pattern" then some 309 else if c = "Style" then some 410 else none
theorem cls_names {c : Str} {C : Addr} (h : clsAt c = some C) : (c = "Corner" ∧ C = 185) ∨ (c = "Pattern" ∧ C = 309) ∨ (c = "Style" ∧ C = 410) := by
  unfold clsAt at h
  split at h
  · cases h; exact .inl ⟨by assumption, rfl⟩
  · split at h
    · cases h; exact .inr (.inl ⟨by assumption, rfl⟩)
    · split at h
      · cases h; exact .inr (.inr ⟨by assumption, rfl⟩)
      · cases h
section
variable (p : Params) (r : Nat → Option (List Int))

theorem fld_Corner : ∀ a, (tbl r).field "Corner" a = true → findIn (hd.heap_39 p) (.ref 185) a = some none ∧ plainGet (hd.heap_39 p) 185 a = true ∧ hasDictIn (hd.heap_39 p) 185 = true ∧ takerIn (hd.heap_39 p) 185 a = some none := by
  intro a h
  have h1 : (["spot", "first", "second", "turn", "straight", "one", "other"] : List Str).contains a = true := h
  simp only [List.contains_cons, List.contains_nil, Bool.or_false, Bool.or_eq_true, beq_iff_eq] at h1
  rcases h1 with h | h | h | h | h | h | h <;> subst h <;> exact ⟨rfl, rfl, rfl, rfl⟩
theorem cset_Corner : findIn (hd.heap_39 p) (.ref 185) "__setattr__" = some (some (.builtin "object.__setattr__")) ∧ plainOver (hd.heap_39 p) 185 = true ∧ hasDictIn (hd.heap_39 p) 185 = true ∧ makesIn (hd.heap_39 p) 185 = true ∧ keepIn (hd.heap_39 p) (.ref 185) = true := ⟨rfl, rfl, rfl, rfl, rfl⟩
theorem fld_Pattern : ∀ a, (tbl r).field "Pattern" a = true → findIn (hd.heap_39 p) (.ref 309) a = some none ∧ plainGet (hd.heap_39 p) 309 a = true ∧ hasDictIn (hd.heap_39 p) 309 = true ∧ takerIn (hd.heap_39 p) 309 a = some none := by
  intro a h
  have h1 : (["lengths", "place", "left"] : List Str).contains a = true := h
  simp only [List.contains_cons, List.contains_nil, Bool.or_false, Bool.or_eq_true, beq_iff_eq] at h1
  rcases h1 with h | h | h <;> subst h <;> exact ⟨rfl, rfl, rfl, rfl⟩
theorem cset_Pattern : findIn (hd.heap_39 p) (.ref 309) "__setattr__" = some (some (.builtin "object.__setattr__")) ∧ plainOver (hd.heap_39 p) 309 = true ∧ hasDictIn (hd.heap_39 p) 309 = true ∧ makesIn (hd.heap_39 p) 309 = true ∧ keepIn (hd.heap_39 p) (.ref 309) = true := ⟨rfl, rfl, rfl, rfl, rfl⟩
theorem fld_Style : ∀ a, (tbl r).field "Style" a = true → findIn (hd.heap_39 p) (.ref 410) a = some none ∧ plainGet (hd.heap_39 p) 410 a = true ∧ hasDictIn (hd.heap_39 p) 410 = true ∧ takerIn (hd.heap_39 p) 410 a = some none := by
  intro a h
  have h1 : (["width", "join", "cap", "limit", "dashes", "start"] : List Str).contains a = true := h
  simp only [List.contains_cons, List.contains_nil, Bool.or_false, Bool.or_eq_true, beq_iff_eq] at h1
  rcases h1 with h | h | h | h | h | h <;> subst h <;> exact ⟨rfl, rfl, rfl, rfl⟩
theorem cset_Style : findIn (hd.heap_39 p) (.ref 410) "__setattr__" = some (some (.builtin "object.__setattr__")) ∧ plainOver (hd.heap_39 p) 410 = true ∧ hasDictIn (hd.heap_39 p) 410 = true ∧ makesIn (hd.heap_39 p) 410 = true ∧ keepIn (hd.heap_39 p) (.ref 410) = true := ⟨rfl, rfl, rfl, rfl, rfl⟩
theorem fn_175 : ∃ o fd, (hd.heap_39 p).lookup 175 = some o ∧ o.data = .func fd ∧ fd.params = m_corner_is_straight.1.params ∧ fd.body = .stmts m_corner_is_straight.1.body ∧ fd.scope = m_corner_is_straight.1.scope ∧ fd.closure = [] ∧ fd.globals = mainGlobals ∧ fd.builtins = builtinsNs ∧ codeIn (hd.heap_39 p) fd.code fd.qualname = true ∧ fd.defaults = .none := ⟨_, _, rfl, rfl, by kernel_rfl, by kernel_rfl, by kernel_rfl, rfl, rfl, rfl, rfl, rfl⟩
theorem mt_175 : findIn (hd.heap_39 p) (.ref 185) "is_straight" = some (some (.ref 175)) ∧ isFn (hd.heap_39 p) (.ref 175) = true ∧ plainGet (hd.heap_39 p) 185 "is_straight" = true := ⟨rfl, rfl, rfl⟩
theorem fn_182 : ∃ o fd, (hd.heap_39 p).lookup 182 = some o ∧ o.data = .func fd ∧ fd.params = m_corner_squares.1.params ∧ fd.body = .stmts m_corner_squares.1.body ∧ fd.scope = m_corner_squares.1.scope ∧ fd.closure = [] ∧ fd.globals = mainGlobals ∧ fd.builtins = builtinsNs ∧ codeIn (hd.heap_39 p) fd.code fd.qualname = true ∧ fd.defaults = .none := ⟨_, _, rfl, rfl, by kernel_rfl, by kernel_rfl, by kernel_rfl, rfl, rfl, rfl, rfl, rfl⟩
theorem mt_182 : findIn (hd.heap_39 p) (.ref 185) "squares" = some (some (.ref 182)) ∧ isFn (hd.heap_39 p) (.ref 182) = true ∧ plainGet (hd.heap_39 p) 185 "squares" = true := ⟨rfl, rfl, rfl⟩
theorem fn_285 : ∃ o fd, (hd.heap_39 p).lookup 285 = some o ∧ o.data = .func fd ∧ fd.params = m_pattern_is_plain.1.params ∧ fd.body = .stmts m_pattern_is_plain.1.body ∧ fd.scope = m_pattern_is_plain.1.scope ∧ fd.closure = [] ∧ fd.globals = mainGlobals ∧ fd.builtins = builtinsNs ∧ codeIn (hd.heap_39 p) fd.code fd.qualname = true ∧ fd.defaults = .none := ⟨_, _, rfl, rfl, by kernel_rfl, by kernel_rfl, by kernel_rfl, rfl, rfl, rfl, rfl, rfl⟩
theorem mt_285 : findIn (hd.heap_39 p) (.ref 309) "is_plain" = some (some (.ref 285)) ∧ isFn (hd.heap_39 p) (.ref 285) = true ∧ plainGet (hd.heap_39 p) 309 "is_plain" = true := ⟨rfl, rfl, rfl⟩
theorem fn_400 : ∃ o fd, (hd.heap_39 p).lookup 400 = some o ∧ o.data = .func fd ∧ fd.params = m_style_half.1.params ∧ fd.body = .stmts m_style_half.1.body ∧ fd.scope = m_style_half.1.scope ∧ fd.closure = [] ∧ fd.globals = mainGlobals ∧ fd.builtins = builtinsNs ∧ codeIn (hd.heap_39 p) fd.code fd.qualname = true ∧ fd.defaults = .none := ⟨_, _, rfl, rfl, by kernel_rfl, by kernel_rfl, by kernel_rfl, rfl, rfl, rfl, rfl, rfl⟩
theorem mt_400 : findIn (hd.heap_39 p) (.ref 410) "half" = some (some (.ref 400)) ∧ isFn (hd.heap_39 p) (.ref 400) = true ∧ plainGet (hd.heap_39 p) 410 "half" = true := ⟨rfl, rfl, rfl⟩
theorem fn_407 : ∃ o fd, (hd.heap_39 p).lookup 407 = some o ∧ o.data = .func fd ∧ fd.params = m_style_steps.1.params ∧ fd.body = .stmts m_style_steps.1.body ∧ fd.scope = m_style_steps.1.scope ∧ fd.closure = [] ∧ fd.globals = mainGlobals ∧ fd.builtins = builtinsNs ∧ codeIn (hd.heap_39 p) fd.code fd.qualname = true ∧ fd.defaults = .none := ⟨_, _, rfl, rfl, by kernel_rfl, by kernel_rfl, by kernel_rfl, rfl, rfl, rfl, rfl, rfl⟩
theorem mt_407 : findIn (hd.heap_39 p) (.ref 410) "steps" = some (some (.ref 407)) ∧ isFn (hd.heap_39 p) (.ref 407) = true ∧ plainGet (hd.heap_39 p) 410 "steps" = true := ⟨rfl, rfl, rfl⟩
theorem fn_168 : ∃ o fd, (hd.heap_39 p).lookup 168 = some o ∧ o.data = .func fd ∧ fd.params = m_corner_init.1.params ∧ fd.body = .stmts m_corner_init.1.body ∧ fd.scope = m_corner_init.1.scope ∧ fd.closure = [] ∧ fd.globals = mainGlobals ∧ fd.builtins = builtinsNs ∧ codeIn (hd.heap_39 p) fd.code fd.qualname = true ∧ fd.defaults = .none := ⟨_, _, rfl, rfl, by kernel_rfl, by kernel_rfl, by kernel_rfl, rfl, rfl, rfl, rfl, rfl⟩
theorem mt_168 : findIn (hd.heap_39 p) (.ref 185) "__init__" = some (some (.ref 168)) ∧ isFn (hd.heap_39 p) (.ref 168) = true := ⟨rfl, rfl⟩
theorem fn_278 : ∃ o fd, (hd.heap_39 p).lookup 278 = some o ∧ o.data = .func fd ∧ fd.params = m_pattern_init.1.params ∧ fd.body = .stmts m_pattern_init.1.body ∧ fd.scope = m_pattern_init.1.scope ∧ fd.closure = [] ∧ fd.globals = mainGlobals ∧ fd.builtins = builtinsNs ∧ codeIn (hd.heap_39 p) fd.code fd.qualname = true ∧ fd.defaults = .none := ⟨_, _, rfl, rfl, by kernel_rfl, by kernel_rfl, by kernel_rfl, rfl, rfl, rfl, rfl, rfl⟩
theorem mt_278 : findIn (hd.heap_39 p) (.ref 309) "__init__" = some (some (.ref 278)) ∧ isFn (hd.heap_39 p) (.ref 278) = true := ⟨rfl, rfl⟩
theorem fn_393 : ∃ o fd, (hd.heap_39 p).lookup 393 = some o ∧ o.data = .func fd ∧ fd.params = m_style_init.1.params ∧ fd.body = .stmts m_style_init.1.body ∧ fd.scope = m_style_init.1.scope ∧ fd.closure = [] ∧ fd.globals = mainGlobals ∧ fd.builtins = builtinsNs ∧ codeIn (hd.heap_39 p) fd.code fd.qualname = true ∧ fd.defaults = .ref 386 := ⟨_, _, rfl, rfl, by kernel_rfl, by kernel_rfl, by kernel_rfl, rfl, rfl, rfl, rfl, rfl⟩
theorem mt_393 : findIn (hd.heap_39 p) (.ref 410) "__init__" = some (some (.ref 393)) ∧ isFn (hd.heap_39 p) (.ref 393) = true := ⟨rfl, rfl⟩
theorem dfl_at : ∃ o, (hd.heap_39 p).lookup 386 = some o ∧ ∃ t1 t2 t3, o.data = .seq #[.str "miter" t1, .str "butt" t2, .ref 384, .ref 385, .int 0 t3] := ⟨_, rfl, _, _, _, rfl⟩
theorem lim_at : ∃ o, (hd.heap_39 p).lookup 384 = some o ∧ o.cls = .type "tuple" ∧ ∃ t1 t2, o.data = .seq #[.int 4 t1, .int 1 t2] := ⟨_, rfl, rfl, _, _, rfl⟩
theorem emp_at : ∃ o, (hd.heap_39 p).lookup 385 = some o ∧ o.cls = .type "tuple" ∧ o.data = .seq #[] := ⟨_, rfl, rfl, rfl⟩
theorem most_at : ∃ t, nsIn (hd.heap_39 p) mainGlobals "MOST_STEPS" = some (some (.int 16 t)) := ⟨_, rfl⟩

theorem bi_len : nsIn (hd.heap_39 p) mainGlobals "len" = some none := rfl
theorem bo_len : bootBuiltins "len" = some (biV .len) := by kernel_rfl
theorem bi_range : nsIn (hd.heap_39 p) mainGlobals "range" = some none := rfl
theorem bo_range : bootBuiltins "range" = some (biV .range) := by kernel_rfl
theorem bi_abs : nsIn (hd.heap_39 p) mainGlobals "abs" = some none := rfl
theorem bo_abs : bootBuiltins "abs" = some (biV .abs) := by kernel_rfl
theorem bi_max : nsIn (hd.heap_39 p) mainGlobals "max" = some none := rfl
theorem bo_max : bootBuiltins "max" = some (biV .max) := by kernel_rfl
theorem bi_min : nsIn (hd.heap_39 p) mainGlobals "min" = some none := rfl
theorem bo_min : bootBuiltins "min" = some (biV .min) := by kernel_rfl
theorem bi_int : nsIn (hd.heap_39 p) mainGlobals "int" = some none := rfl
theorem bo_int : bootBuiltins "int" = some (biV .int) := by kernel_rfl
theorem bi_tuple : nsIn (hd.heap_39 p) mainGlobals "tuple" = some none := rfl
theorem bo_tuple : bootBuiltins "tuple" = some (biV .tuple) := by kernel_rfl
theorem bi_sum : nsIn (hd.heap_39 p) mainGlobals "sum" = some none := rfl
theorem bo_sum : bootBuiltins "sum" = some (biV .sum) := by kernel_rfl
theorem bi_zip : nsIn (hd.heap_39 p) mainGlobals "zip" = some none := rfl
theorem bo_zip : bootBuiltins "zip" = some (biV .zip) := by kernel_rfl
theorem ns_Corner : nsIn (hd.heap_39 p) mainGlobals "Corner" = some (some (.ref 185)) := rfl
theorem ns_Pattern : nsIn (hd.heap_39 p) mainGlobals "Pattern" = some (some (.ref 309)) := rfl
theorem ns_Style : nsIn (hd.heap_39 p) mainGlobals "Style" = some (some (.ref 410)) := rfl
end
end Mine
end
section
open PySem PySem.W PyProof.Rows PySem.Calls
set_option linter.unusedSectionVars false
set_option linter.unusedVariables false
set_option maxRecDepth 100000
namespace Mine

variable {r : Nat → Option (List Int)}
theorem bi_cases {x : Str} {b : Bi} (h : (tbl r).kind x = some (.bi b)) : bis.lookup x = some b := by
  unfold tbl at h
  dsimp only at h
  split at h
  · rename_i b' hb; cases h; exact hb
  · split at h
    · cases h
    · split at h
      · cases h
      · obtain ⟨d, _, e⟩ := Option.map_eq_some_iff.mp h; cases e
theorem fn_cases {x : Str} {d : DefRec} (h : (tbl r).kind x = some (.fn d)) : d ∈ fns ∧ d.name = x := by
  unfold tbl at h
  dsimp only at h
  split at h
  · cases h
  · split at h
    · cases h
    · split at h
      · cases h
      · obtain ⟨d', hd', e⟩ := Option.map_eq_some_iff.mp h
        cases e
        exact ⟨List.mem_of_find?_eq_some hd', by simpa using List.find?_some hd'⟩
theorem const_cases {x : Str} {v : V} (h : (tbl r).kind x = some (.const v)) : x = "MOST_STEPS" ∧ v = .int 16 := by
  unfold tbl at h
  dsimp only at h
  split at h
  · cases h
  · split at h
    · cases h
    · split at h
      · rename_i e; cases h; exact ⟨e, rfl⟩
      · obtain ⟨d', hd', e⟩ := Option.map_eq_some_iff.mp h
        cases e
theorem cls_cases {x c : Str} (h : (tbl r).kind x = some (.cls c)) : x = c ∧ (c = "Corner" ∨ c = "Pattern" ∨ c = "Style") := by
  unfold tbl at h
  dsimp only at h
  split at h
  · cases h
  · split at h
    · rename_i hc
      cases h
      refine ⟨rfl, ?_⟩
      simpa [clss] using hc
    · split at h
      · cases h
      · obtain ⟨d', hd', e⟩ := Option.map_eq_some_iff.mp h
        cases e

theorem meth_cases {c m : Str} {d : DefRec} (h : (tbl r).meth c m = some d) : ((c, m), d) ∈ meths := by
  have : ∀ l : List ((Str × Str) × DefRec), l.lookup (c, m) = some d → ((c, m), d) ∈ l := by
    intro l
    induction l with
    | nil => intro h; cases h
    | cons p l ih =>
      intro h
      obtain ⟨k, v⟩ := p
      rw [List.lookup_cons] at h
      split at h
      · rename_i e
        cases h
        rw [beq_iff_eq] at e
        rw [e]; exact .head _
      · exact .tail _ (ih h)
  exact this _ h

section
variable (p : Params) {h : Heap} {mg mb : Str → Option Value}

theorem bind_none {fd : FuncData} {d : DefRec} (hp : fd.params = d.params) (ok : okFn (tbl r) d = true) (hdf : fd.defaults = .none) (ws : List Value) (s : Shared) (hl : ws.length = d.params.args.length) : BindsTo s fd ⟨ws, []⟩ ((d.params.args.map (·.arg)).zip (ws ++ [])) := by
  haveI : Hid := noHid
  obtain ⟨p1, p2, p3, p4, p5, p6, p7, p8, p9, p10⟩ := okFn_parts ok
  rw [List.append_nil]
  exact BindsTo.of_eq (bind_plain (by rw [hp]; exact p4) (by rw [hp]; exact p5) (by rw [hp]; exact p6) (by rw [hp]; exact p7) (by rw [hp]) hdf p8 hl.symm)

theorem style_binds (X : (hd.heap_39 p).In h) : ∃ o fd, (hd.heap_39 p).lookup 393 = some o ∧ o.data = .func fd ∧ fd.body = .stmts m_style_init.1.body ∧ fd.scope = m_style_init.1.scope ∧ fd.closure = [] ∧ fd.globals = mainGlobals ∧ fd.builtins = builtinsNs ∧ codeIn (hd.heap_39 p) fd.code fd.qualname = true ∧
    ∀ (ws : List Value) (s : Shared), (∀ b o, h.get? b = some o → s.heap.get? b = some o) → ws.length + (((tbl r).dfl "Style").drop (((tbl r).dfl "Style").length - (m_style_init.1.params.args.length - ws.length))).length = m_style_init.1.params.args.length →
      ∃ us, @VAll noHid h [] (((tbl r).dfl "Style").drop (((tbl r).dfl "Style").length - (m_style_init.1.params.args.length - ws.length))) us ∧ BindsTo s fd ⟨ws, []⟩ ((m_style_init.1.params.args.map (·.arg)).zip (ws ++ us)) := by
  refine ⟨_, _, rfl, rfl, by kernel_rfl, by kernel_rfl, rfl, rfl, rfl, rfl, ?_⟩
  intro ws s kp hl
  have hn : m_style_init.1.params.args.length = 7 := rfl
  have hD : (tbl r).dfl "Style" = [.str "miter", .str "butt", .tup [.int 4, .int 1], .tup [], .int 0] := by
    unfold tbl; simp
  rw [hn, hD] at hl
  rw [hD, hn]
  rw [List.length_drop] at hl
  simp only [List.length_cons, List.length_nil] at hl
  obtain ⟨o, ho, t1, t2, t3, hod⟩ := dfl_at p
  obtain ⟨o4, ho4, hc4, u1, u2, hd4⟩ := lim_at p
  obtain ⟨o5, ho5, hc5, hd5⟩ := emp_at p
  have v1 : @VIn noHid h [] (.str "miter") (.str "miter" t1) := @VIn.str noHid _ _ _ _
  have v2 : @VIn noHid h [] (.str "butt") (.str "butt" t2) := @VIn.str noHid _ _ _ _
  have v3 : @VIn noHid h [] (.tup [.int 4, .int 1]) (.ref 384) := @VIn.tup noHid _ _ 384 [.int 4 u1, .int 1 u2] _ ⟨o4, X _ _ ho4, hc4, 0, hd4⟩ (@VAll.cons noHid _ _ _ _ _ _ (@VIn.int noHid _ _ _ _) (@VAll.cons noHid _ _ _ _ _ _ (@VIn.int noHid _ _ _ _) (@VAll.nil noHid _ _))) id
  have v4 : @VIn noHid h [] (.tup []) (.ref 385) := @VIn.tup noHid _ _ 385 [] _ ⟨o5, X _ _ ho5, hc5, 0, hd5⟩ (@VAll.nil noHid _ _) id
  have v5 : @VIn noHid h [] (.int 0) (.int 0 t3) := @VIn.int noHid _ _ _ _
  have V0 : @VAll noHid h [] [] [] := @VAll.nil noHid _ _
  have V1 := @VAll.cons noHid _ _ _ _ _ _ v5 V0
  have V2 := @VAll.cons noHid _ _ _ _ _ _ v4 V1
  have V3 := @VAll.cons noHid _ _ _ _ _ _ v3 V2
  have V4 := @VAll.cons noHid _ _ _ _ _ _ v2 V3
  have V5 := @VAll.cons noHid _ _ _ _ _ _ v1 V4
  have hoS := kp _ _ (X _ _ ho)
  match ws, hl with
  | [], hl => simp at hl
  | [_], hl => simp at hl
  | [a, b], _ => exact ⟨_, V5, BindsTo.of_defaults (T := 386) rfl hoS hod rfl rfl⟩
  | [a, b, c], _ => exact ⟨_, V4, BindsTo.of_defaults (T := 386) rfl hoS hod rfl rfl⟩
  | [a, b, c, d], _ => exact ⟨_, V3, BindsTo.of_defaults (T := 386) rfl hoS hod rfl rfl⟩
  | [a, b, c, d, e], _ => exact ⟨_, V2, BindsTo.of_defaults (T := 386) rfl hoS hod rfl rfl⟩
  | [a, b, c, d, e, f], _ => exact ⟨_, V1, BindsTo.of_defaults (T := 386) rfl hoS hod rfl rfl⟩
  | [a, b, c, d, e, f, g], _ => exact ⟨_, V0, BindsTo.of_defaults (T := 386) rfl hoS hod rfl rfl⟩
  | _ :: _ :: _ :: _ :: _ :: _ :: _ :: _ :: _, hl => simp at hl

theorem fn_at (X : (hd.heap_39 p).In h) {f : Addr} {d : DefRec} (ok : okFn (tbl r) d = true) (e : ∃ o fd, (hd.heap_39 p).lookup f = some o ∧ o.data = .func fd ∧ fd.params = d.params ∧ fd.body = .stmts d.body ∧ fd.scope = d.scope ∧ fd.closure = [] ∧ fd.globals = mainGlobals ∧ fd.builtins = builtinsNs ∧ codeIn (hd.heap_39 p) fd.code fd.qualname = true ∧ fd.defaults = .none) : FnAt (tbl r) h f d := by
  obtain ⟨o, fd, e1, e2, e3, e4, e5, e6, e7, e8, e9, e10⟩ := e
  exact ⟨⟨o, fd, X _ _ e1, e2, e3, e4, e5, e6, e7, e8, codeRec_of X e9, e10⟩, ok⟩

theorem init_at (X : (hd.heap_39 p).In h) {f : Addr} {c : Str} {d : DefRec} (ok : okFn (tbl r) d = true) (hc : ∀ x ∈ d.scope.names, x.2 ≠ .cell) (hd0 : (tbl r).dfl c = []) (h1 : ∃ C, findIn (hd.heap_39 p) (.ref C) "__init__" = some (some (.ref f)) ∧ isFn (hd.heap_39 p) (.ref f) = true)
    (e : ∃ o fd, (hd.heap_39 p).lookup f = some o ∧ o.data = .func fd ∧ fd.params = d.params ∧ fd.body = .stmts d.body ∧ fd.scope = d.scope ∧ fd.closure = [] ∧ fd.globals = mainGlobals ∧ fd.builtins = builtinsNs ∧ codeIn (hd.heap_39 p) fd.code fd.qualname = true ∧ fd.defaults = .none) :
    ∃ o fd, h.get? f = some o ∧ o.data = .func fd ∧ fd.body = .stmts d.body ∧ fd.scope = d.scope ∧ fd.closure = [] ∧ fd.globals = mainGlobals ∧ fd.builtins = builtinsNs ∧ h.CodeRec fd.code fd.qualname ∧ okFn (tbl r) d = true ∧ (∀ x ∈ d.scope.names, x.2 ≠ .cell) ∧
    freeL ((tbl r).dfl c) = true ∧
    ∀ (ws : List Value) (s : Shared), (∀ b o, h.get? b = some o → s.heap.get? b = some o) → ws.length + (((tbl r).dfl c).drop (((tbl r).dfl c).length - (d.params.args.length - ws.length))).length = d.params.args.length →
      ∃ us, @VAll noHid h [] (((tbl r).dfl c).drop (((tbl r).dfl c).length - (d.params.args.length - ws.length))) us ∧ BindsTo s fd ⟨ws, []⟩ ((d.params.args.map (·.arg)).zip (ws ++ us)) := by
  obtain ⟨o, fd, e1, e2, e3, e4, e5, e6, e7, e8, e9, e10⟩ := e
  refine ⟨o, fd, X _ _ e1, e2, e4, e5, e6, e7, e8, codeRec_of X e9, ok, hc, by rw [hd0]; rfl, fun ws s kp hl => ⟨[], ?_, bind_none e3 ok e10 ws s ?_⟩⟩
  · rw [hd0, List.drop_nil]; exact @VAll.nil noHid _ _
  · rw [hd0, List.drop_nil] at hl; exact hl

theorem gnd (g : h.Ns mainGlobals mg) (b : h.Ns builtinsNs mb) (nl : h.NoLimit) (X : (hd.heap_39 p).In h) (hb : ∀ x : Str, x ≠ "__name__" → mb x = bootBuiltins x)
    (hro : ∀ a xs, r a = some xs → ∃ us, h.IsList a us ∧ Ints xs us.toList)
    (fn : ∀ d ∈ recsOf hd.view_39, ∃ a o pm code doc, mg d.name = some (.ref a) ∧ h.get? a = some o ∧ o.data = .func (docDef d.name d.params d.body d.scope pm code doc) ∧ h.CodeRec code d.name) : Gnd (tbl r) clsAt (hd.heap_39 p) mg mb h where
  g := g
  b := b
  nolimit := nl
  X := X
  fn := fun x d hx => by
    obtain ⟨hm, hn⟩ := fn_cases hx
    obtain ⟨a, o, pm, code, doc, e1, e2, e3, e4⟩ := fn d (fns_recs d hm)
    exact ⟨a, hn ▸ e1, ⟨o, _, e2, e3, rfl, rfl, rfl, rfl, rfl, rfl, e4, rfl⟩, List.all_eq_true.mp (fns_ok r) d hm⟩
  bi := fun x bb hx => by
    have := bi_cases hx
    unfold bis at this
    simp only [List.lookup_cons, List.lookup_nil] at this
    repeat' split at this
    all_goals (first | cases this | skip)
    all_goals (rename_i e; have e := beq_iff_eq.mp e; subst e)
    · exact ⟨mg_none_of X g (bi_len p), (hb _ (by decide)).trans bo_len⟩
    · exact ⟨mg_none_of X g (bi_range p), (hb _ (by decide)).trans bo_range⟩
    · exact ⟨mg_none_of X g (bi_abs p), (hb _ (by decide)).trans bo_abs⟩
    · exact ⟨mg_none_of X g (bi_max p), (hb _ (by decide)).trans bo_max⟩
    · exact ⟨mg_none_of X g (bi_min p), (hb _ (by decide)).trans bo_min⟩
    · exact ⟨mg_none_of X g (bi_int p), (hb _ (by decide)).trans bo_int⟩
    · exact ⟨mg_none_of X g (bi_tuple p), (hb _ (by decide)).trans bo_tuple⟩
    · exact ⟨mg_none_of X g (bi_sum p), (hb _ (by decide)).trans bo_sum⟩
    · exact ⟨mg_none_of X g (bi_zip p), (hb _ (by decide)).trans bo_zip⟩
  const := fun x v hx => by
    obtain ⟨e1, e2⟩ := const_cases hx
    subst e1; subst e2
    obtain ⟨t, ht⟩ := most_at p
    exact ⟨16, t, rfl, mg_of X g ht⟩
  cls := fun x c hx => by
    obtain ⟨e1, e2⟩ := cls_cases hx
    subst e1
    rcases e2 with e2 | e2 | e2 <;> subst e2
    · exact ⟨185, rfl, mg_of X g (ns_Corner p)⟩
    · exact ⟨309, rfl, mg_of X g (ns_Pattern p)⟩
    · exact ⟨410, rfl, mg_of X g (ns_Style p)⟩
  ro := hro
  get := fun c C a hc hf => by
    rcases cls_names hc with ⟨e1, e2⟩ | ⟨e1, e2⟩ | ⟨e1, e2⟩ <;> subst e1 <;> subst e2
    · exact fld_Corner p r a hf
    · exact fld_Pattern p r a hf
    · exact fld_Style p r a hf
  cset := fun c C hc => by
    rcases cls_names hc with ⟨e1, e2⟩ | ⟨e1, e2⟩ | ⟨e1, e2⟩ <;> subst e1 <;> subst e2
    · exact cset_Corner p
    · exact cset_Pattern p
    · exact cset_Style p
  meth := fun c C m d hm hc hne => by
    have hmem := meth_cases hm
    have hok := List.all_eq_true.mp (meths_ok r) _ hmem
    unfold meths at hmem
    simp only [List.mem_cons, List.not_mem_nil, or_false, Prod.mk.injEq] at hmem
    rcases hmem with ⟨⟨e1, e2⟩, e3⟩ | ⟨⟨e1, e2⟩, e3⟩ | ⟨⟨e1, e2⟩, e3⟩ | ⟨⟨e1, e2⟩, e3⟩ | ⟨⟨e1, e2⟩, e3⟩ | ⟨⟨e1, e2⟩, e3⟩ | ⟨⟨e1, e2⟩, e3⟩ | ⟨⟨e1, e2⟩, e3⟩ <;> subst e1 <;> subst e2 <;> subst e3 <;> first | exact absurd rfl hne | skip
    · cases hc; obtain ⟨a, b, c⟩ := mt_175 p; exact ⟨175, a, b, c, fn_at p X hok (fn_175 p)⟩
    · cases hc; obtain ⟨a, b, c⟩ := mt_182 p; exact ⟨182, a, b, c, fn_at p X hok (fn_182 p)⟩
    · cases hc; obtain ⟨a, b, c⟩ := mt_285 p; exact ⟨285, a, b, c, fn_at p X hok (fn_285 p)⟩
    · cases hc; obtain ⟨a, b, c⟩ := mt_400 p; exact ⟨400, a, b, c, fn_at p X hok (fn_400 p)⟩
    · cases hc; obtain ⟨a, b, c⟩ := mt_407 p; exact ⟨407, a, b, c, fn_at p X hok (fn_407 p)⟩
  init := fun c C d hm hc => by
    have hmem := meth_cases hm
    have hok := List.all_eq_true.mp (meths_ok r) _ hmem
    rcases cls_names hc with ⟨e1, e2⟩ | ⟨e1, e2⟩ | ⟨e1, e2⟩ <;> subst e1 <;> subst e2
    · have e : (tbl r).meth "Corner" "__init__" = some m_corner_init.1 := by kernel_rfl
      rw [e] at hm; cases hm
      obtain ⟨a1, a2⟩ := mt_168 p
      obtain ⟨o, fd, r⟩ := init_at p X (c := "Corner") hok (by decide +kernel) (by kernel_rfl) ⟨185, a1, a2⟩ (fn_168 p)
      exact ⟨168, o, fd, a1, a2, r⟩
    · have e : (tbl r).meth "Pattern" "__init__" = some m_pattern_init.1 := by kernel_rfl
      rw [e] at hm; cases hm
      obtain ⟨a1, a2⟩ := mt_278 p
      obtain ⟨o, fd, r⟩ := init_at p X (c := "Pattern") hok (by decide +kernel) (by kernel_rfl) ⟨309, a1, a2⟩ (fn_278 p)
      exact ⟨278, o, fd, a1, a2, r⟩
    · have e : (tbl r).meth "Style" "__init__" = some m_style_init.1 := by kernel_rfl
      rw [e] at hm; cases hm
      obtain ⟨a1, a2⟩ := mt_393 p
      obtain ⟨o, fd, s1, s2, s3, s4, s5, s6, s7, s8, s9⟩ := style_binds p X
      exact ⟨393, o, fd, a1, a2, X _ _ s1, s2, s3, s4, s5, s6, s7, codeRec_of X s8, hok, by decide +kernel, by kernel_rfl, s9⟩
end
end Mine
end
section
open PySem PySem.W PyProof.Rows PySem.Calls
set_option linter.unusedSectionVars false
set_option linter.unusedVariables false
set_option Elab.async false
namespace Mine

theorem ints_of : ∀ {vs : List Value} {xs : List Int}, IntsAre vs xs → Ints xs vs := by
  intro vs
  induction vs with
  | nil => intro xs h; cases xs with
    | nil => exact True.intro
    | cons => cases h
  | cons v vs ih => intro xs h; cases xs with
    | nil => cases h
    | cons x xs => 
      cases h with
      | cons a b c => exact ⟨⟨_, rfl⟩, ih ‹_›⟩

/-- the evaluator's answer is the law's -/
def Answers : Prop := ∀ (a : Nat) (xs : List Int), xs.length ≤ 63 → ∃ σ', callD (lvl (tbl fun b => if b = a then some xs else none) 225) d_law.1 [.lst a] [] = some (.bool true, σ')

set_option maxRecDepth 100000 in
set_option maxHeartbeats 8000000 in
theorem holds_of (hev : Answers) : PySem.Challenge.rw_on0251_01.Holds := Mine.hd (by
  intro w s₀ s₁ mg mb G Y fa o pm cd doc dV kV ho hd hcd hD hmg hg args vals as hpre hlay hrd hwl hlo
  have KX := kIn_of Y
  refine Ground.open G ?_
  intro T B D TE TW
  clear D ho hd hcd hD
  have hmg' : mg "law" = some (.ref fa) := hmg
  clear hmg
  wrow_args hpre hlay hrd hwl hlo
  rename_i xs hs1 hs2 hs3 hs4 hs5 as1 as2 l us as3 hL hra hw1 hr0 hI hrw hc1 hc2
  obtain ⟨σ', hev'⟩ := hev l xs (by omega)
  have hlaw : d_law.1 ∈ recsOf Mine.hd.view_39 := by rw [recs_eq]; simp
  obtain ⟨fa', o, pm, code, doc, e1, e2, e3, e4⟩ := T.fn d_law.1 hlaw
  have hfa : fa' = fa := by
    have : mg "law" = some (.ref fa') := e1
    rw [hmg'] at this
    injection this with this
    injection this with this
    exact this.symm
  subst hfa
  have gd : Gnd (tbl fun b => if b = l then some xs else none) clsAt (Mine.hd.heap_39 w.params) mg mb s₁.heap := gnd w.params T.g T.b T.nolimit KX T.builtins (fun a ys hys => by
    split at hys
    · rename_i hal
      subst hal
      cases hys
      exact ⟨us.toArray, hL, by rw [List.toList_toArray]; exact ints_of hI⟩
    · cases hys) T.fn
  have fa1 : FnAt (tbl fun b => if b = l then some xs else none) s₁.heap fa' d_law.1 := ⟨⟨o, _, e2, e3, rfl, rfl, rfl, rfl, rfl, rfl, e4, rfl⟩, law_ok _⟩
  have I0 : @Inv noHid clsAt s₁.heap s₁.heap [] [] := @Inv.mk noHid _ _ _ _ _ (fun _ _ e => e) rfl (fun _ _ _ e => by simp at e) (fun _ _ _ _ e => by simp at e) (fun _ hp => nomatch hp) fun _ ha => ha.elim
  have key := @call_fn noHid _ clsAt s₁.heap Challenge.rw_on0251_01.row.prog w callerA 225 _ s₁ [] [] σ' fa' d_law.1 [.ref l] [.lst l] (.bool true) (good gd 225 fun _ => False) ⟨rfl, by decide +kernel, by decide +kernel⟩ T.nolimit fa1 hev' I0 (@VAll.cons noHid _ _ _ _ _ _ (@VIn.lst noHid _ _ _) (@VAll.nil noHid _ _))
  refine key _ _ fun v h' tk ρ' I' g' hv => ?_
  cases hv
  refine GoodW.toG ⟨.inl ⟨_, .bool true, [], rfl, fun _ => rfl, .bool true, (by first | kernel_rfl | rfl | trace_state), fun _ => ⟨.nil, fun _ ha => nomatch ha⟩⟩, fun b ob e => g'.ext b ob e (fun _ hp => nomatch hp) id, rfl, hg⟩)
end Mine
end
section
open PySem PySem.W PyProof.Rows PySem.Calls
set_option linter.unusedVariables false
set_option maxRecDepth 100000
namespace Mine
variable {r : Nat → Option (List Int)}

theorem n_ahead : (tbl r).kind "ahead" = none := by kernel_rfl
theorem n_along : (tbl r).kind "along" = none := by kernel_rfl
theorem n_area : (tbl r).kind "area" = none := by kernel_rfl
theorem n_around : (tbl r).kind "around" = none := by kernel_rfl
theorem n_back : (tbl r).kind "back" = none := by kernel_rfl
theorem n_behind : (tbl r).kind "behind" = none := by kernel_rfl
theorem n_below : (tbl r).kind "below" = none := by kernel_rfl
theorem n_big : (tbl r).kind "big" = none := by kernel_rfl
theorem n_blend : (tbl r).kind "blend" = none := by kernel_rfl
theorem n_both_ends : (tbl r).kind "both_ends" = none := by kernel_rfl
theorem n_bottom : (tbl r).kind "bottom" = none := by kernel_rfl
theorem n_cap : (tbl r).kind "cap" = none := by kernel_rfl
theorem n_cell : (tbl r).kind "cell" = none := by kernel_rfl
theorem n_centre : (tbl r).kind "centre" = none := by kernel_rfl
theorem n_contour : (tbl r).kind "contour" = none := by kernel_rfl
theorem n_contours : (tbl r).kind "contours" = none := by kernel_rfl
theorem n_corner : (tbl r).kind "corner" = none := by kernel_rfl
theorem n_corners : (tbl r).kind "corners" = none := by kernel_rfl
theorem n_cutter : (tbl r).kind "cutter" = none := by kernel_rfl
theorem n_dashes : (tbl r).kind "dashes" = none := by kernel_rfl
theorem n_dot_now : (tbl r).kind "dot_now" = none := by kernel_rfl
theorem n_dot_p : (tbl r).kind "dot_p" = none := by kernel_rfl
theorem n_due : (tbl r).kind "due" = none := by kernel_rfl
theorem n_end : (tbl r).kind "end" = none := by kernel_rfl
theorem n_end_in : (tbl r).kind "end_in" = none := by kernel_rfl
theorem n_ends_in_dash : (tbl r).kind "ends_in_dash" = none := by kernel_rfl
theorem n_factor : (tbl r).kind "factor" = none := by kernel_rfl
theorem n_first : (tbl r).kind "first" = none := by kernel_rfl
theorem n_found : (tbl r).kind "found" = none := by kernel_rfl
theorem n_gone : (tbl r).kind "gone" = none := by kernel_rfl
theorem n_grain : (tbl r).kind "grain" = none := by kernel_rfl
theorem n_half : (tbl r).kind "half" = none := by kernel_rfl
theorem n_here : (tbl r).kind "here" = none := by kernel_rfl
theorem n_inner : (tbl r).kind "inner" = none := by kernel_rfl
theorem n_is_closed : (tbl r).kind "is_closed" = none := by kernel_rfl
theorem n_join : (tbl r).kind "join" = none := by kernel_rfl
theorem n_joined : (tbl r).kind "joined" = none := by kernel_rfl
theorem n_k : (tbl r).kind "k" = none := by kernel_rfl
theorem n_kind : (tbl r).kind "kind" = none := by kernel_rfl
theorem n_later_p : (tbl r).kind "later_p" = none := by kernel_rfl
theorem n_left : (tbl r).kind "left" = none := by kernel_rfl
theorem n_length : (tbl r).kind "length" = none := by kernel_rfl
theorem n_lengths : (tbl r).kind "lengths" = none := by kernel_rfl
theorem n_limit : (tbl r).kind "limit" = none := by kernel_rfl
theorem n_line : (tbl r).kind "line" = none := by kernel_rfl
theorem n_lines : (tbl r).kind "lines" = none := by kernel_rfl
theorem n_lower : (tbl r).kind "lower" = none := by kernel_rfl
theorem n_many : (tbl r).kind "many" = none := by kernel_rfl
theorem n_message : (tbl r).kind "message" = none := by kernel_rfl
theorem n_n : (tbl r).kind "n" = none := by kernel_rfl
theorem n_normal : (tbl r).kind "normal" = none := by kernel_rfl
theorem n_one : (tbl r).kind "one" = none := by kernel_rfl
theorem n_other : (tbl r).kind "other" = none := by kernel_rfl
theorem n_pattern : (tbl r).kind "pattern" = none := by kernel_rfl
theorem n_piece : (tbl r).kind "piece" = none := by kernel_rfl
theorem n_piece_k : (tbl r).kind "piece_k" = none := by kernel_rfl
theorem n_pieces : (tbl r).kind "pieces" = none := by kernel_rfl
theorem n_place : (tbl r).kind "place" = none := by kernel_rfl
theorem n_place_k : (tbl r).kind "place_k" = none := by kernel_rfl
theorem n_places : (tbl r).kind "places" = none := by kernel_rfl
theorem n_quarter : (tbl r).kind "quarter" = none := by kernel_rfl
theorem n_right : (tbl r).kind "right" = none := by kernel_rfl
theorem n_root : (tbl r).kind "root" = none := by kernel_rfl
theorem n_script : (tbl r).kind "script" = none := by kernel_rfl
theorem n_second : (tbl r).kind "second" = none := by kernel_rfl
theorem n_self : (tbl r).kind "self" = none := by kernel_rfl
theorem n_share : (tbl r).kind "share" = none := by kernel_rfl
theorem n_sign : (tbl r).kind "sign" = none := by kernel_rfl
theorem n_size : (tbl r).kind "size" = none := by kernel_rfl
theorem n_some : (tbl r).kind "some" = none := by kernel_rfl
theorem n_source : (tbl r).kind "source" = none := by kernel_rfl
theorem n_spot : (tbl r).kind "spot" = none := by kernel_rfl
theorem n_spots : (tbl r).kind "spots" = none := by kernel_rfl
theorem n_square : (tbl r).kind "square" = none := by kernel_rfl
theorem n_start : (tbl r).kind "start" = none := by kernel_rfl
theorem n_starts_in_dash : (tbl r).kind "starts_in_dash" = none := by kernel_rfl
theorem n_step : (tbl r).kind "step" = none := by kernel_rfl
theorem n_steps : (tbl r).kind "steps" = none := by kernel_rfl
theorem n_style : (tbl r).kind "style" = none := by kernel_rfl
theorem n_things : (tbl r).kind "things" = none := by kernel_rfl
theorem n_top : (tbl r).kind "top" = none := by kernel_rfl
theorem n_turn : (tbl r).kind "turn" = none := by kernel_rfl
theorem n_u : (tbl r).kind "u" = none := by kernel_rfl
theorem n_v : (tbl r).kind "v" = none := by kernel_rfl
theorem n_vector : (tbl r).kind "vector" = none := by kernel_rfl
theorem n_way_now : (tbl r).kind "way_now" = none := by kernel_rfl
theorem n_whole : (tbl r).kind "whole" = none := by kernel_rfl
theorem n_width : (tbl r).kind "width" = none := by kernel_rfl
theorem n_x : (tbl r).kind "x" = none := by kernel_rfl
theorem n_y : (tbl r).kind "y" = none := by kernel_rfl
end Mine
end
section
open PySem PySem.W PyProof.Rows PySem.Calls
set_option linter.unusedVariables false
set_option linter.unusedSimpArgs false
set_option maxRecDepth 100000
namespace Mine
variable {r : Nat → Option (List Int)} {T : Tbl} {F : Funs} {L : Loc} {σ : Sto} {n : Nat}

theorem ofString_inj {a b : String} : (Str.ofString a = Str.ofString b) ↔ a = b := by
  constructor
  · intro h
    rw [Str.ofString_eq_toList, Str.ofString_eq_toList] at h
    have h1 := Str.mk.inj h
    have h2 : a.toList.map Char.toNat = b.toList.map Char.toNat := by simpa using h1
    have h3 : a.toList = b.toList := by
      have key : ∀ l m : List Char, l.map Char.toNat = m.map Char.toNat → l = m := by
        intro l
        induction l with
        | nil => intro m h; cases m with
          | nil => rfl
          | cons => cases h
        | cons x l ih => intro m h; cases m with
          | nil => cases h
          | cons y m =>
            simp only [List.map_cons, List.cons.injEq] at h
            rw [ih m h.2, Char.toNat_inj.mp h.1]
      exact key _ _ h2
    exact String.toList_inj.mp h3
  · intro h; rw [h]
theorem ofString_beq {a b : String} : (Str.ofString a == Str.ofString b) = (a == b) := by
  rw [Bool.eq_iff_iff, beq_iff_eq, beq_iff_eq]; exact ofString_inj
theorem bindT_name {x : Str} {q : Pos} {v : V} : bindT L σ (.Name x q) v = some (upd L x v) := rfl
theorem bindT_tup {es : List Expr} {k : Nat} {q : Pos} {l : List V} : bindT L σ (.Tuple es k q) (.tup l) = (match names? es with
    | some xs => if decide (xs.length = l.length) then some (updL L xs l) else none
    | none => none) := by
  unfold bindT
  dsimp only
  cases names? es <;> rfl
theorem bindT_obj {es : List Expr} {k : Nat} {q : Pos} {m : Nat} : bindT L σ (.Tuple es k q) (.obj m) = (match names? es with
    | some xs => (match σ[m]? with
      | some (.list l) => if decide (xs.length = l.length) then some (updL L xs l) else none
      | _ => none)
    | none => none) := by
  unfold bindT
  dsimp only
  cases names? es <;> rfl
theorem subC_tup {l : List V} {k : Int} : subC T σ (.tup l) (.int k) = if small k then getAt l k else none := rfl
theorem subC_obj {m : Nat} {k : Int} : subC T σ (.obj m) (.int k) = (match σ[m]? with
    | some (.list l) => if small k then getAt l k else none
    | _ => none) := rfl
theorem subC_lst {a : Nat} {k : Int} : subC T σ (.lst a) (.int k) = if small k then (T.ro a).bind fun xs => getAt (xs.map .int) k else none := rfl
theorem cmp_lt {a b : Int} : cmpS .Lt σ (.int a) (.int b) = some (decide (a < b)) := rfl
theorem cmp_le {a b : Int} : cmpS .LtE σ (.int a) (.int b) = some (decide (a ≤ b)) := rfl
theorem cmp_gt {a b : Int} : cmpS .Gt σ (.int a) (.int b) = some (decide (a > b)) := rfl
theorem cmp_ge {a b : Int} : cmpS .GtE σ (.int a) (.int b) = some (decide (a ≥ b)) := rfl
theorem cmp_eqi {a b : Int} : cmpS .Eq σ (.int a) (.int b) = some (decide (a = b)) := by
  simp [cmpS, Mine.data, free, py, okData, PyData.canLay0, PyData.depth, PyData.eqv]
  by_cases h : a = b <;> simp [h]
theorem cmp_nei {a b : Int} : cmpS .NotEq σ (.int a) (.int b) = some (!decide (a = b)) := by
  simp [cmpS, Mine.data, free, py, okData, PyData.canLay0, PyData.depth, PyData.eqv]
  by_cases h : a = b <;> simp [h]
theorem lvl_ev : (lvl T (n + 1)).ev = evS T (lvl T n) := rfl
theorem lvl_tst : (lvl T (n + 1)).tst = tstS (lvl T n) := rfl
theorem lvl_ex : (lvl T (n + 1)).ex = exS T (lvl T n) n := rfl
theorem upd_self {x : Str} {v : V} : upd L x v x = some v := if_pos rfl
theorem upd_ne {a b : String} {v : V} (h : a ≠ b) : upd L (Str.ofString b) v (Str.ofString a) = L (Str.ofString a) := if_neg fun q => h (ofString_inj.mp q)

/-- a body run, its junk kept -/
noncomputable def run (F : Funs) (d : DefRec) (vs : List V) (σ : Sto) : Option (V × Sto) := match exs F.ex (bindP (d.params.args.map (·.arg)) vs) σ d.body with
  | some (.ret v, _, σ') => some (v, σ')
  | some (.next, _, σ') => some (.none, σ')
  | none => none
theorem callD_run {d : DefRec} {vs : List V} (h : vs.length = d.params.args.length) {v : V} {σ' : Sto} (hr : run F d vs σ = some (v, σ')) : callD F d vs σ = some (gc σ v σ') := by
  unfold run at hr
  unfold callD
  rw [if_pos h]
  split at hr
  · rename_i e; cases hr; first | rw [e] | rfl
  · rename_i e; cases hr; first | rw [e] | rfl
  · cases hr
theorem gc_free {v : V} {σ' : Sto} (hf : free v = true) (hp : σ'.take σ.length = σ) : gc σ v σ' = (v, σ) := by
  unfold gc; rw [if_pos hp, if_pos hf]
theorem callD_pure {d : DefRec} {vs : List V} (h : vs.length = d.params.args.length) {v : V} {τ : Sto} (hf : free v = true) (hr : run F d vs σ = some (v, σ ++ τ)) : callD F d vs σ = some (v, σ) := by
  rw [callD_run h hr, gc_free hf (by simp)]
theorem callD_pure0 {d : DefRec} {vs : List V} (h : vs.length = d.params.args.length) {v : V} (hf : free v = true) (hr : run F d vs σ = some (v, σ)) : callD F d vs σ = some (v, σ) := callD_pure (τ := []) h hf (by rw [List.append_nil]; exact hr)

def pt (a b : Int) : V := .tup [.int a, .int b]

theorem way_of_run {a b c d : Int} : run (lvl (tbl r) (n + 10)) d_way_of.1 [pt a b, pt c d] σ = some (pt (c - a) (d - b), σ) := by kernel_rfl
theorem way_of_run2 {a b c d : Int} : run (lvl (tbl r) (n + 10)) d_way_of.1 [pt a b, pt c d] σ = some (pt (c - a) (d - b), σ) := by
  simp [d_way_of, pt, run, exs, lvl_ex, lvl_ev, lvl_tst, exS, evS, evA, tstS, allT, evs, evo, bindP, List.lookup, ofString_inj, ofString_beq, subC_tup, subC_obj, subC_lst, binS, binI, getAt, place, small, most, upd, free, freeL, py, pyL, cmp_lt, cmp_le, cmp_gt, cmp_ge, cmp_eqi, cmp_nei, callN, biC, optI, k_len, k_range, k_abs, k_max, k_min, k_int, k_tuple, k_sum, k_zip, n_ahead, n_along, n_area, n_around, n_back, n_behind, n_below, n_big, n_blend, n_both_ends, n_bottom, n_cap, n_cell, n_centre, n_contour, n_contours, n_corner, n_corners, n_cutter, n_dashes, n_dot_now, n_dot_p, n_due, n_end, n_end_in, n_ends_in_dash, n_factor, n_first, n_found, n_gone, n_grain, n_half, n_here, n_inner, n_is_closed, n_join, n_joined, n_k, n_kind, n_later_p, n_left, n_length, n_lengths, n_limit, n_line, n_lines, n_lower, n_many, n_message, n_n, n_normal, n_one, n_other, n_pattern, n_piece, n_piece_k, n_pieces, n_place, n_place_k, n_places, n_quarter, n_right, n_root, n_script, n_second, n_self, n_share, n_sign, n_size, n_some, n_source, n_spot, n_spots, n_square, n_start, n_starts_in_dash, n_step, n_steps, n_style, n_things, n_top, n_turn, n_u, n_v, n_vector, n_way_now, n_whole, n_width, n_x, n_y]
theorem moved_by_run {a b c d : Int} : run (lvl (tbl r) (n + 10)) d_moved_by.1 [pt a b, pt c d] σ = some (pt (a + c) (b + d), σ) := by
  simp [d_moved_by, pt, run, exs, lvl_ex, lvl_ev, lvl_tst, exS, evS, evA, tstS, allT, evs, evo, bindP, List.lookup, ofString_inj, ofString_beq, subC_tup, subC_obj, subC_lst, binS, binI, getAt, place, small, most, upd, free, freeL, py, pyL, cmp_lt, cmp_le, cmp_gt, cmp_ge, cmp_eqi, cmp_nei, callN, biC, optI, k_len, k_range, k_abs, k_max, k_min, k_int, k_tuple, k_sum, k_zip, n_ahead, n_along, n_area, n_around, n_back, n_behind, n_below, n_big, n_blend, n_both_ends, n_bottom, n_cap, n_cell, n_centre, n_contour, n_contours, n_corner, n_corners, n_cutter, n_dashes, n_dot_now, n_dot_p, n_due, n_end, n_end_in, n_ends_in_dash, n_factor, n_first, n_found, n_gone, n_grain, n_half, n_here, n_inner, n_is_closed, n_join, n_joined, n_k, n_kind, n_later_p, n_left, n_length, n_lengths, n_limit, n_line, n_lines, n_lower, n_many, n_message, n_n, n_normal, n_one, n_other, n_pattern, n_piece, n_piece_k, n_pieces, n_place, n_place_k, n_places, n_quarter, n_right, n_root, n_script, n_second, n_self, n_share, n_sign, n_size, n_some, n_source, n_spot, n_spots, n_square, n_start, n_starts_in_dash, n_step, n_steps, n_style, n_things, n_top, n_turn, n_u, n_v, n_vector, n_way_now, n_whole, n_width, n_x, n_y]
theorem turned_about_run {a b : Int} : run (lvl (tbl r) (n + 10)) d_turned_about.1 [pt a b] σ = some (pt (-a) (-b), σ) := by
  simp [d_turned_about, pt, run, exs, lvl_ex, lvl_ev, lvl_tst, exS, evS, evA, tstS, allT, evs, evo, bindP, List.lookup, ofString_inj, ofString_beq, subC_tup, subC_obj, subC_lst, binS, binI, getAt, place, small, most, upd, free, freeL, py, pyL, cmp_lt, cmp_le, cmp_gt, cmp_ge, cmp_eqi, cmp_nei, callN, biC, optI, k_len, k_range, k_abs, k_max, k_min, k_int, k_tuple, k_sum, k_zip, n_ahead, n_along, n_area, n_around, n_back, n_behind, n_below, n_big, n_blend, n_both_ends, n_bottom, n_cap, n_cell, n_centre, n_contour, n_contours, n_corner, n_corners, n_cutter, n_dashes, n_dot_now, n_dot_p, n_due, n_end, n_end_in, n_ends_in_dash, n_factor, n_first, n_found, n_gone, n_grain, n_half, n_here, n_inner, n_is_closed, n_join, n_joined, n_k, n_kind, n_later_p, n_left, n_length, n_lengths, n_limit, n_line, n_lines, n_lower, n_many, n_message, n_n, n_normal, n_one, n_other, n_pattern, n_piece, n_piece_k, n_pieces, n_place, n_place_k, n_places, n_quarter, n_right, n_root, n_script, n_second, n_self, n_share, n_sign, n_size, n_some, n_source, n_spot, n_spots, n_square, n_start, n_starts_in_dash, n_step, n_steps, n_style, n_things, n_top, n_turn, n_u, n_v, n_vector, n_way_now, n_whole, n_width, n_x, n_y]
theorem along_of_run {a b : Int} : run (lvl (tbl r) (n + 10)) d_along_of.1 [pt a b] σ = some (pt (-b) a, σ) := by
  simp [d_along_of, pt, run, exs, lvl_ex, lvl_ev, lvl_tst, exS, evS, evA, tstS, allT, evs, evo, bindP, List.lookup, ofString_inj, ofString_beq, subC_tup, subC_obj, subC_lst, binS, binI, getAt, place, small, most, upd, free, freeL, py, pyL, cmp_lt, cmp_le, cmp_gt, cmp_ge, cmp_eqi, cmp_nei, callN, biC, optI, k_len, k_range, k_abs, k_max, k_min, k_int, k_tuple, k_sum, k_zip, n_ahead, n_along, n_area, n_around, n_back, n_behind, n_below, n_big, n_blend, n_both_ends, n_bottom, n_cap, n_cell, n_centre, n_contour, n_contours, n_corner, n_corners, n_cutter, n_dashes, n_dot_now, n_dot_p, n_due, n_end, n_end_in, n_ends_in_dash, n_factor, n_first, n_found, n_gone, n_grain, n_half, n_here, n_inner, n_is_closed, n_join, n_joined, n_k, n_kind, n_later_p, n_left, n_length, n_lengths, n_limit, n_line, n_lines, n_lower, n_many, n_message, n_n, n_normal, n_one, n_other, n_pattern, n_piece, n_piece_k, n_pieces, n_place, n_place_k, n_places, n_quarter, n_right, n_root, n_script, n_second, n_self, n_share, n_sign, n_size, n_some, n_source, n_spot, n_spots, n_square, n_start, n_starts_in_dash, n_step, n_steps, n_style, n_things, n_top, n_turn, n_u, n_v, n_vector, n_way_now, n_whole, n_width, n_x, n_y]
def isq (n : Nat) : Nat := ((List.range 13).filter (fun k => k * k ≤ n)).length - 1
theorem root_all : (List.range 145).map (fun k => run (lvl (tbl r) (n + 20)) d_root_floor.1 [.int (k : Nat)] σ) = (List.range 145).map fun k => some (V.int (isq k : Nat), σ) := by kernel_rfl
theorem root_run {k : Nat} (h : k ≤ 144) : run (lvl (tbl r) (n + 20)) d_root_floor.1 [.int (k : Nat)] σ = some (V.int (isq k : Nat), σ) := by
  have e := congrArg (·[k]?) (root_all (r := r) (n := n) (σ := σ))
  simp only [List.getElem?_map, List.getElem?_range (show k < 145 by omega), Option.map_some] at e
  exact Option.some.inj e
end Mine
end
section
open PySem PySem.W PyProof.Rows PySem.Calls
set_option linter.unusedVariables false
set_option linter.unusedSimpArgs false
set_option maxRecDepth 100000
namespace Mine
variable {r : Nat → Option (List Int)} {T : Tbl} {F : Funs} {L : Loc} {σ : Sto} {n : Nat}

theorem way_of_c {a b c d : Int} : callD (lvl (tbl r) (n + 10)) d_way_of.1 [pt a b, pt c d] σ = some (pt (c - a) (d - b), σ) := callD_pure0 rfl rfl way_of_run
theorem moved_by_c {a b c d : Int} : callD (lvl (tbl r) (n + 10)) d_moved_by.1 [pt a b, pt c d] σ = some (pt (a + c) (b + d), σ) := callD_pure0 rfl rfl moved_by_run
theorem turned_about_c {a b : Int} : callD (lvl (tbl r) (n + 10)) d_turned_about.1 [pt a b] σ = some (pt (-a) (-b), σ) := callD_pure0 rfl rfl turned_about_run
theorem along_of_c {a b : Int} : callD (lvl (tbl r) (n + 10)) d_along_of.1 [pt a b] σ = some (pt (-b) a, σ) := callD_pure0 rfl rfl along_of_run
theorem root_c {k : Nat} (h : k ≤ 144) : callD (lvl (tbl r) (n + 20)) d_root_floor.1 [.int (k : Nat)] σ = some (V.int (isq k : Nat), σ) := callD_pure0 rfl rfl (root_run h)

theorem msq (s : Int) : 0 ≤ s * s := by
  rcases Int.le_total 0 s with h | h
  · exact Int.mul_nonneg h h
  · have := Int.mul_nonneg (a := -s) (b := -s) (by omega) (by omega)
    rwa [Int.neg_mul_neg] at this

/-- the share of a root, as the program takes it -/
def nrs (s q : Int) : Int := if s < 0 then -(((isq ((4 * s * s).fdiv q).toNat + 1) / 2 : Nat) : Int) else (((isq ((4 * s * s).fdiv q).toNat + 1) / 2 : Nat) : Int)

structure ShOk (s q : Int) : Prop where
  lo : -20000 ≤ s
  hi : s ≤ 20000
  q0 : 0 < q
  q1 : q ≤ 100000000
  k : (4 * s * s).fdiv q ≤ 144

theorem nrs_c {s q : Int} (h : ShOk s q) : callD (lvl (tbl r) (n + 40)) d_nearest_root_share.1 [.int s, .int q] σ = some (.int (nrs s q), σ) := by
  refine callD_pure0 rfl rfl ?_
  obtain ⟨h1, h2, h3, h4, h5⟩ := h
  have hnn : 0 ≤ (4 * s * s).fdiv q := by
    rw [Int.fdiv_eq_ediv_of_nonneg _ (by omega)]
    refine Int.ediv_nonneg ?_ (by omega)
    rw [Int.mul_assoc]
    exact Int.mul_nonneg (by decide) (msq s)
  obtain ⟨k, hk⟩ := Int.eq_ofNat_of_zero_le hnn
  have hk' : k ≤ 144 := by omega
  have hd : (isq k + 1 : Int).fdiv 2 = ((isq k + 1) / 2 : Nat) := by
    rw [Int.fdiv_eq_ediv_of_nonneg _ (by decide)]; omega
  have e1 : nrs s q = if s < 0 then -(((isq k + 1) / 2 : Nat) : Int) else (((isq k + 1) / 2 : Nat) : Int) := by
    unfold nrs; rw [hk]; rfl
  have hq0 : ¬ q = 0 := by omega
  have hq1 : q.natAbs < 1073741824 := by omega
  rw [e1]
  by_cases hs : s < 0
  · have e2 : (4 * -s * -s).fdiv q = (k : Int) := by rw [← hk]; congr 1; simp [Int.mul_neg, Int.neg_mul]
    have b1 : -1152921504606846976 < -s := by omega
    have b2 : -s < 1152921504606846976 := by omega
    have b3 : s < 1152921504606846976 := by omega
    have b4 : -1152921504606846976 < s := by omega
    simp [d_nearest_root_share, k_root_floor, run, exs, lvl_ex, lvl_ev, lvl_tst, exS, evS, evA, tstS, allT, evs, evo, bindP, List.lookup, ofString_inj, ofString_beq, subC_tup, subC_obj, subC_lst, binS, binI, getAt, place, small, most, upd, free, freeL, py, pyL, cmp_lt, cmp_le, cmp_gt, cmp_ge, cmp_eqi, cmp_nei, callN, biC, optI, k_len, k_range, k_abs, k_max, k_min, k_int, k_tuple, k_sum, k_zip, n_ahead, n_along, n_area, n_around, n_back, n_behind, n_below, n_big, n_blend, n_both_ends, n_bottom, n_cap, n_cell, n_centre, n_contour, n_contours, n_corner, n_corners, n_cutter, n_dashes, n_dot_now, n_dot_p, n_due, n_end, n_end_in, n_ends_in_dash, n_factor, n_first, n_found, n_gone, n_grain, n_half, n_here, n_inner, n_is_closed, n_join, n_joined, n_k, n_kind, n_later_p, n_left, n_length, n_lengths, n_limit, n_line, n_lines, n_lower, n_many, n_message, n_n, n_normal, n_one, n_other, n_pattern, n_piece, n_piece_k, n_pieces, n_place, n_place_k, n_places, n_quarter, n_right, n_root, n_script, n_second, n_self, n_share, n_sign, n_size, n_some, n_source, n_spot, n_spots, n_square, n_start, n_starts_in_dash, n_step, n_steps, n_style, n_things, n_top, n_turn, n_u, n_v, n_vector, n_way_now, n_whole, n_width, n_x, n_y, hs, b1, b2, b3, b4, hq0, hq1, e2, root_c hk', hd]
  · have b1 : -1152921504606846976 < s := by omega
    have b2 : s < 1152921504606846976 := by omega
    simp [d_nearest_root_share, k_root_floor, run, exs, lvl_ex, lvl_ev, lvl_tst, exS, evS, evA, tstS, allT, evs, evo, bindP, List.lookup, ofString_inj, ofString_beq, subC_tup, subC_obj, subC_lst, binS, binI, getAt, place, small, most, upd, free, freeL, py, pyL, cmp_lt, cmp_le, cmp_gt, cmp_ge, cmp_eqi, cmp_nei, callN, biC, optI, k_len, k_range, k_abs, k_max, k_min, k_int, k_tuple, k_sum, k_zip, n_ahead, n_along, n_area, n_around, n_back, n_behind, n_below, n_big, n_blend, n_both_ends, n_bottom, n_cap, n_cell, n_centre, n_contour, n_contours, n_corner, n_corners, n_cutter, n_dashes, n_dot_now, n_dot_p, n_due, n_end, n_end_in, n_ends_in_dash, n_factor, n_first, n_found, n_gone, n_grain, n_half, n_here, n_inner, n_is_closed, n_join, n_joined, n_k, n_kind, n_later_p, n_left, n_length, n_lengths, n_limit, n_line, n_lines, n_lower, n_many, n_message, n_n, n_normal, n_one, n_other, n_pattern, n_piece, n_piece_k, n_pieces, n_place, n_place_k, n_places, n_quarter, n_right, n_root, n_script, n_second, n_self, n_share, n_sign, n_size, n_some, n_source, n_spot, n_spots, n_square, n_start, n_starts_in_dash, n_step, n_steps, n_style, n_things, n_top, n_turn, n_u, n_v, n_vector, n_way_now, n_whole, n_width, n_x, n_y, hs, b1, b2, hq0, hq1, hk, root_c hk', hd]
end Mine
end
section
open PySem PySem.W PyProof.Rows PySem.Calls
set_option linter.unusedVariables false
set_option linter.unusedSimpArgs false
set_option maxRecDepth 100000
namespace Mine
variable {r : Nat → Option (List Int)} {T : Tbl} {F : Funs} {L : Loc} {σ : Sto} {n : Nat}

theorem gl {l : Sto} {k : Nat} : (σ ++ l)[σ.length + k]? = l[k]? := by
  rw [List.getElem?_append_right (Nat.le_add_right _ _), Nat.add_sub_cancel_left]
theorem gl0 {l : Sto} : (σ ++ l)[σ.length]? = l[0]? := gl (k := 0)
theorem sl {l : Sto} {k : Nat} {x : Ob} : (σ ++ l).set (σ.length + k) x = σ ++ l.set k x := by
  rw [List.set_append_right _ _ (Nat.le_add_right _ _), Nat.add_sub_cancel_left]
theorem sl0 {l : Sto} {x : Ob} : (σ ++ l).set σ.length x = σ ++ l.set 0 x := sl (k := 0)

/-- a comprehension of one clause that leaves no junk -/
theorem clauses1 {elt t i : Expr} {ifs : List Expr} {a : Nat} {w : It} {vs : List V} {acc0 : List V} (p : V → Bool) (g : V → V)
    (hst : ∀ l, still (σ ++ [.list l]) w vs = true)
    (hb : ∀ v ∈ vs, ∀ l, ∃ L1, bindT L (σ ++ [.list l]) t v = some L1 ∧ tests (fun σ e => F.tst L1 σ e) (σ ++ [.list l]) ifs = some (p v, σ ++ [.list l]) ∧ (p v = true → F.ev L1 (σ ++ [.list l]) elt = some (g v, σ ++ [.list l])))
    (hlen : vs.length + acc0.length ≤ most) :
    clauses F σ.length elt [⟨t, i, ifs, a⟩] L w vs (σ ++ [.list acc0]) = some (σ ++ [.list (acc0 ++ (vs.filter p).map g)]) := by
  rw [@clauses_cons noHid]
  have key : ∀ (rest acc : List V), (∀ v ∈ rest, v ∈ vs) → rest.length + acc.length ≤ most → compL (fun σ => still σ w vs) (turnC F σ.length elt t ifs [] L) rest (σ ++ [.list acc]) = some (σ ++ [.list (acc ++ (rest.filter p).map g)]) := by
    intro rest
    induction rest with
    | nil =>
      intro acc _ _
      unfold compL
      rw [if_pos (hst acc)]
      simp
    | cons v rest ih =>
      intro acc hm hl
      rw [List.length_cons] at hl
      unfold compL
      rw [if_pos (hst acc)]
      obtain ⟨L1, h1, h2, h3⟩ := hb v (hm v (.head _)) acc
      have e : turnC F σ.length elt t ifs [] L v (σ ++ [.list acc]) = some (σ ++ [.list (acc ++ if p v then [g v] else [])]) := by
        unfold turnC
        rw [h1]
        dsimp only
        rw [h2]
        cases hp : p v with
        | false => simp
        | true =>
          dsimp only
          unfold emitC
          dsimp only
          rw [h3 hp]
          dsimp only
          rw [gl0]
          have hlt : acc.length < most := by omega
          simp [sl0, hlt]
      rw [e]
      dsimp only
      rw [ih _ (fun u hu => hm u (.tail _ hu)) (by
        rw [List.length_append]
        have : (if p v = true then [g v] else []).length ≤ 1 := by split <;> simp
        omega)]
      cases hp : p v <;> simp [hp]
  exact key vs acc0 (fun _ h => h) hlen

abbrev Pt := Int × Int
def vp (p : Pt) : V := .tup [.int p.1, .int p.2]
def nrm (p q : Pt) (h : Int) : Pt := (nrs ((q.2 - p.2) * h) ((q.1 - p.1) * (q.1 - p.1) + (q.2 - p.2) * (q.2 - p.2)), nrs (-(q.1 - p.1) * h) ((q.1 - p.1) * (q.1 - p.1) + (q.2 - p.2) * (q.2 - p.2)))

structure Sd (p q : Pt) : Prop where
  x1 : -1000 ≤ q.1 - p.1
  x2 : q.1 - p.1 ≤ 1000
  y1 : -1000 ≤ q.2 - p.2
  y2 : q.2 - p.2 ≤ 1000
  ne : p ≠ q
structure Hf (h : Int) : Prop where
  lo : 1 ≤ h
  hi : h ≤ 6

theorem sq_le {x b : Int} (h1 : -b ≤ x) (h2 : x ≤ b) : x * x ≤ b * b := by
  have := Int.mul_nonneg (a := b - x) (b := b + x) (by omega) (by omega)
  grind
theorem shok {x y h : Int} (x1 : -1000 ≤ x) (x2 : x ≤ 1000) (y1 : -1000 ≤ y) (y2 : y ≤ 1000) (ne : ¬ (x = 0 ∧ y = 0)) (hh : Hf h) : ShOk (y * h) (x * x + y * y) := by
  have sx := sq_le (b := 1000) x1 x2
  have sy := sq_le (b := 1000) y1 y2
  have px := msq x
  have py := msq y
  have pos : 0 < x * x + y * y := by
    rcases Int.lt_or_eq_of_le (show 0 ≤ x * x + y * y by omega) with q | q
    · exact q
    · have a : x * x = 0 := by omega
      have b : y * y = 0 := by omega
      have a' : x = 0 := by rcases Int.mul_eq_zero.mp a with q | q <;> exact q
      have b' : y = 0 := by rcases Int.mul_eq_zero.mp b with q | q <;> exact q
      exact absurd ⟨a', b'⟩ ne
  obtain ⟨h1, h2⟩ := hh
  have hc : h = 1 ∨ h = 2 ∨ h = 3 ∨ h = 4 ∨ h = 5 ∨ h = 6 := by omega
  refine ⟨?_, ?_, pos, by omega, ?_⟩
  · rcases hc with q | q | q | q | q | q <;> subst q <;> omega
  · rcases hc with q | q | q | q | q | q <;> subst q <;> omega
  · rw [Int.fdiv_eq_ediv_of_nonneg _ (by omega)]
    refine Int.ediv_le_of_le_mul pos ?_
    have e : 4 * (y * h) * (y * h) = 4 * (h * h) * (y * y) := by grind
    rw [e]
    rcases hc with q | q | q | q | q | q <;> subst q <;> omega
theorem Sd.sh {p q : Pt} {h : Int} (s : Sd p q) (hh : Hf h) : ShOk ((q.2 - p.2) * h) ((q.1 - p.1) * (q.1 - p.1) + (q.2 - p.2) * (q.2 - p.2)) ∧ ShOk (-(q.1 - p.1) * h) ((q.1 - p.1) * (q.1 - p.1) + (q.2 - p.2) * (q.2 - p.2)) := by
  obtain ⟨x1, x2, y1, y2, ne⟩ := s
  have ne' : ¬ (q.1 - p.1 = 0 ∧ q.2 - p.2 = 0) := fun ⟨a, b⟩ => ne (Prod.ext (by omega) (by omega))
  refine ⟨shok x1 x2 y1 y2 ne' hh, ?_⟩
  have := shok (x := q.2 - p.2) (y := -(q.1 - p.1)) y1 y2 (by omega) (by omega) (fun ⟨a, b⟩ => ne' ⟨by omega, a⟩) hh
  have e : (q.2 - p.2) * (q.2 - p.2) + -(q.1 - p.1) * -(q.1 - p.1) = (q.1 - p.1) * (q.1 - p.1) + (q.2 - p.2) * (q.2 - p.2) := by grind
  rw [e] at this
  exact this

theorem way_c {p q : Pt} : callD (lvl (tbl r) (n + 10)) d_way_of.1 [vp p, vp q] σ = some (.tup [.int (q.1 - p.1), .int (q.2 - p.2)], σ) := way_of_c
theorem mov_c {p q : Pt} : callD (lvl (tbl r) (n + 10)) d_moved_by.1 [vp p, vp q] σ = some (.tup [.int (p.1 + q.1), .int (p.2 + q.2)], σ) := moved_by_c

theorem normal_c {p q : Pt} {h : Int} (s : Sd p q) (hh : Hf h) : callD (lvl (tbl r) (n + 60)) d_normal_of.1 [vp p, vp q, .int h] σ = some (vp (nrm p q h), σ) := by
  refine callD_pure0 rfl rfl ?_
  obtain ⟨s1, s2⟩ := s.sh hh
  obtain ⟨h1, h2⟩ := hh
  have b1 : -1152921504606846976 < h := by omega
  have b2 : h < 1152921504606846976 := by omega
  obtain ⟨x1, x2, y1, y2, ne⟩ := s
  have b3 : -1152921504606846976 < q.1 - p.1 := by omega
  have b4 : q.1 - p.1 < 1152921504606846976 := by omega
  have b5 : -1152921504606846976 < q.2 - p.2 := by omega
  have b6 : q.2 - p.2 < 1152921504606846976 := by omega
  simp [d_normal_of, k_way_of, k_nearest_root_share, way_c, bindT, names?, updL, run, exs, lvl_ex, lvl_ev, lvl_tst, exS, evS, evA, tstS, allT, evs, evo, bindP, List.lookup, ofString_inj, ofString_beq, subC_tup, subC_obj, subC_lst, binS, binI, getAt, place, small, most, upd, free, freeL, py, pyL, cmp_lt, cmp_le, cmp_gt, cmp_ge, cmp_eqi, cmp_nei, callN, biC, optI, k_len, k_range, k_abs, k_max, k_min, k_int, k_tuple, k_sum, k_zip, n_ahead, n_along, n_area, n_around, n_back, n_behind, n_below, n_big, n_blend, n_both_ends, n_bottom, n_cap, n_cell, n_centre, n_contour, n_contours, n_corner, n_corners, n_cutter, n_dashes, n_dot_now, n_dot_p, n_due, n_end, n_end_in, n_ends_in_dash, n_factor, n_first, n_found, n_gone, n_grain, n_half, n_here, n_inner, n_is_closed, n_join, n_joined, n_k, n_kind, n_later_p, n_left, n_length, n_lengths, n_limit, n_line, n_lines, n_lower, n_many, n_message, n_n, n_normal, n_one, n_other, n_pattern, n_piece, n_piece_k, n_pieces, n_place, n_place_k, n_places, n_quarter, n_right, n_root, n_script, n_second, n_self, n_share, n_sign, n_size, n_some, n_source, n_spot, n_spots, n_square, n_start, n_starts_in_dash, n_step, n_steps, n_style, n_things, n_top, n_turn, n_u, n_v, n_vector, n_way_now, n_whole, n_width, n_x, n_y, b1, b2, b3, b4, b5, b6, nrs_c s1, nrs_c s2]
  rfl
/-- the four corners of a side -/
def quad (p q : Pt) (h : Int) : List Pt := [(p.1 + (nrm p q h).1, p.2 + (nrm p q h).2), (q.1 + (nrm p q h).1, q.2 + (nrm p q h).2), (q.1 + -(nrm p q h).1, q.2 + -(nrm p q h).2), (p.1 + -(nrm p q h).1, p.2 + -(nrm p q h).2)]
def vps (l : List Pt) : V := .tup (l.map vp)
theorem turned_c {p : Pt} : callD (lvl (tbl r) (n + 10)) d_turned_about.1 [vp p] σ = some (vp (-p.1, -p.2), σ) := turned_about_c
theorem along_c {p : Pt} : callD (lvl (tbl r) (n + 10)) d_along_of.1 [vp p] σ = some (vp (-p.2, p.1), σ) := along_of_c
theorem moved_c {p q : Pt} : callD (lvl (tbl r) (n + 10)) d_moved_by.1 [vp p, vp q] σ = some (vp (p.1 + q.1, p.2 + q.2), σ) := moved_by_c
theorem free_vp {p : Pt} : free (vp p) = true := rfl
theorem freeL_map {l : List Pt} : freeL (l.map vp) = true := by
  induction l with
  | nil => rfl
  | cons p l ih => rw [List.map_cons, freeL, free_vp, ih]; rfl
theorem free_vps {l : List Pt} : free (vps l) = true := by unfold vps; rw [free]; exact freeL_map
theorem parallel_c {p q : Pt} {h : Int} (s : Sd p q) (hh : Hf h) : callD (lvl (tbl r) (n + 80)) d_parallel.1 [vp p, vp q, .int h] σ = some (vps (quad p q h), σ) := by
  refine callD_pure0 rfl free_vps ?_
  simp [d_parallel, k_normal_of, k_turned_about, k_moved_by, normal_c s hh, turned_c, moved_c, run, exs, lvl_ex, lvl_ev, lvl_tst, exS, evS, evA, tstS, allT, evs, evo, bindP, List.lookup, ofString_inj, ofString_beq, subC_tup, subC_obj, subC_lst, binS, binI, getAt, place, small, most, upd, free, freeL, py, pyL, cmp_lt, cmp_le, cmp_gt, cmp_ge, cmp_eqi, cmp_nei, callN, biC, optI, k_len, k_range, k_abs, k_max, k_min, k_int, k_tuple, k_sum, k_zip, n_ahead, n_along, n_area, n_around, n_back, n_behind, n_below, n_big, n_blend, n_both_ends, n_bottom, n_cap, n_cell, n_centre, n_contour, n_contours, n_corner, n_corners, n_cutter, n_dashes, n_dot_now, n_dot_p, n_due, n_end, n_end_in, n_ends_in_dash, n_factor, n_first, n_found, n_gone, n_grain, n_half, n_here, n_inner, n_is_closed, n_join, n_joined, n_k, n_kind, n_later_p, n_left, n_length, n_lengths, n_limit, n_line, n_lines, n_lower, n_many, n_message, n_n, n_normal, n_one, n_other, n_pattern, n_piece, n_piece_k, n_pieces, n_place, n_place_k, n_places, n_quarter, n_right, n_root, n_script, n_second, n_self, n_share, n_sign, n_size, n_some, n_source, n_spot, n_spots, n_square, n_start, n_starts_in_dash, n_step, n_steps, n_style, n_things, n_top, n_turn, n_u, n_v, n_vector, n_way_now, n_whole, n_width, n_x, n_y, quad, vps]
end Mine
end
section
open PySem PySem.W PyProof.Rows PySem.Calls
set_option linter.unusedVariables false
set_option linter.unusedSimpArgs false
set_option maxRecDepth 100000
namespace Mine
variable {r : Nat → Option (List Int)} {T : Tbl} {F : Funs} {L : Loc} {σ : Sto} {n : Nat}

theorem gc_list {k : Nat} {l : List V} {σ' : Sto} (hp : σ'.take σ.length = σ) (hk : σ.length ≤ k) (hg : σ'[k]? = some (.list l)) (hf : freeL l = true) : gc σ (.obj k) σ' = (.obj σ.length, σ ++ [.list l]) := by
  unfold gc
  rw [if_pos hp, if_neg (by simp [free])]
  dsimp only
  rw [hg]
  dsimp only
  rw [if_pos (by simp [hk, hf])]
theorem callD_list {d : DefRec} {vs : List V} (h : vs.length = d.params.args.length) {k : Nat} {l : List V} {τ : Sto} (hg : τ[k]? = some (.list l)) (hf : freeL l = true) (hr : run F d vs σ = some (.obj (σ.length + k), σ ++ τ)) : callD F d vs σ = some (.obj σ.length, σ ++ [.list l]) := by
  rw [callD_run h hr, gc_list (k := σ.length + k) (by simp) (Nat.le_add_right _ _) (by rw [gl]; exact hg) hf]

theorem forL_inv {chk : Sto → Bool} {f : V → Loc → Sto → Option (Fl × Loc × Sto)} (I : List V → Loc → Sto → Prop) {all : List V} (hc : ∀ done L σ, I done L σ → chk σ = true)
    (hf : ∀ done v rest L σ, all = done ++ v :: rest → I done L σ → ∃ L' σ', f v L σ = some (.next, L', σ') ∧ I (done ++ [v]) L' σ') (h0 : I [] L σ) : ∃ L' σ', forL chk f all L σ = some (.next, L', σ') ∧ I all L' σ' := by
  have key : ∀ (rest done : List V) (L : Loc) (σ : Sto), all = done ++ rest → I done L σ → ∃ L' σ', forL chk f rest L σ = some (.next, L', σ') ∧ I all L' σ' := by
    intro rest
    induction rest with
    | nil =>
      intro done L σ e hI
      rw [List.append_nil] at e
      subst e
      exact ⟨L, σ, by unfold forL; rw [if_pos (hc _ _ _ hI)], hI⟩
    | cons v rest ih =>
      intro done L σ e hI
      obtain ⟨L1, σ1, h1, h2⟩ := hf done v rest L σ e hI
      obtain ⟨L2, σ2, h3, h4⟩ := ih (done ++ [v]) L1 σ1 (by rw [e]; simp) h2
      exact ⟨L2, σ2, by unfold forL; rw [if_pos (hc _ _ _ hI), h1]; exact h3, h4⟩
  exact key all [] L σ rfl h0

def isIn (q pk : Int) : V → Bool
  | .int k => decide ((2 * k - 1) ^ 2 * q ≤ 4 * pk * pk)
  | _ => false
def cnt (h q pk : Int) : Int := ((((List.range (h + 2 - 1).toNat).map fun (k : Nat) => V.int (1 + k)).filter (isIn q pk)).length : Nat)
def cntS (h q pk : Int) : Int := if pk > 0 then cnt h q pk else - cnt h q pk

theorem cnt_all : ∀ h ∈ [1, 2, 3, 4, 5, 6], ∀ t ∈ List.range (4 * h * h + 1), ((List.range (h + 1)).filter fun k => decide ((2 * k + 1) * (2 * k + 1) ≤ t)).length = (isq t + 1) / 2 := by decide +kernel

theorem cnt_eq {h q s : Int} (hh : Hf h) (hs : ShOk s q) (hb : 4 * s * s ≤ 4 * h * h * q) : cnt h q s = ((isq ((4 * s * s).fdiv q).toNat + 1) / 2 : Nat) := by
  obtain ⟨h1, h2⟩ := hh
  obtain ⟨_, _, q0, _, hk⟩ := hs
  have hnn : 0 ≤ (4 * s * s).fdiv q := by
    rw [Int.fdiv_eq_ediv_of_nonneg _ (by omega)]
    refine Int.ediv_nonneg ?_ (by omega)
    rw [Int.mul_assoc]
    exact Int.mul_nonneg (by decide) (msq s)
  obtain ⟨t, ht⟩ := Int.eq_ofNat_of_zero_le hnn
  have ht' : 4 * s * s / q = (t : Int) := by rw [← ht, Int.fdiv_eq_ediv_of_nonneg _ (by omega)]
  obtain ⟨hn, rfl⟩ := Int.eq_ofNat_of_zero_le (show 0 ≤ h by omega)
  have hle : t ≤ 4 * hn * hn := by
    have : 4 * s * s / q ≤ 4 * (hn : Int) * hn := Int.ediv_le_of_le_mul q0 hb
    rw [ht'] at this
    exact_mod_cast this
  have hmem : hn ∈ [1, 2, 3, 4, 5, 6] := by
    simp only [List.mem_cons, List.not_mem_nil, or_false]
    omega
  have key := cnt_all hn hmem t (by rw [List.mem_range]; omega)
  rw [ht, Int.toNat_natCast, ← key]
  unfold cnt
  have e1 : ((hn : Int) + 2 - 1).toNat = hn + 1 := by omega
  rw [e1, List.filter_map, List.length_map]
  congr 3
  funext k
  show isIn q s (.int (1 + (k : Int))) = _
  unfold isIn
  rw [decide_eq_decide]
  have e2 : (2 * (1 + (k : Int)) - 1) ^ 2 = ((2 * k + 1) * (2 * k + 1) : Nat) := by
    push_cast
    grind
  rw [e2, ← Int.le_ediv_iff_mul_le q0, ht']
  exact_mod_cast Iff.rfl

theorem cntS_eq {h q s : Int} (hh : Hf h) (hs : ShOk s q) (hb : 4 * s * s ≤ 4 * h * h * q) : cntS h q s = nrs s q := by
  unfold cntS nrs
  rw [cnt_eq hh hs hb]
  by_cases h1 : s > 0
  · rw [if_pos h1, if_neg (by omega)]
  · rw [if_neg h1]
    by_cases h2 : s < 0
    · rw [if_pos h2]
    · have : s = 0 := by omega
      subst this
      rw [if_neg h2]
      have : (4 * (0 : Int) * 0).fdiv q = 0 := by simp
      rw [this]
      decide +kernel
end Mine
end
section
open PySem PySem.W PyProof.Rows PySem.Calls
set_option linter.unusedVariables false
set_option linter.unusedSimpArgs false
set_option maxRecDepth 100000
namespace Mine
variable {r : Nat → Option (List Int)} {T : Tbl} {F : Funs} {L : Loc} {σ : Sto} {n : Nat}

theorem Sd.bd {p q : Pt} {h : Int} (s : Sd p q) (hh : Hf h) : (4 * ((q.2 - p.2) * h) * ((q.2 - p.2) * h) ≤ 4 * h * h * ((q.1 - p.1) * (q.1 - p.1) + (q.2 - p.2) * (q.2 - p.2))) ∧ (4 * (-(q.1 - p.1) * h) * (-(q.1 - p.1) * h) ≤ 4 * h * h * ((q.1 - p.1) * (q.1 - p.1) + (q.2 - p.2) * (q.2 - p.2))) := by
  generalize q.1 - p.1 = x
  generalize q.2 - p.2 = y
  have h1 := Int.mul_nonneg (msq h) (msq x)
  have h2 := Int.mul_nonneg (msq h) (msq y)
  constructor <;> grind

theorem forL_of {chk : Sto → Bool} {f : V → Loc → Sto → Option (Fl × Loc × Sto)} {all : List V} {o : Option (Fl × Loc × Sto)} (hw : forL chk f all L σ = o) (I : List V → Loc → Sto → Prop) (hc : ∀ done L σ, I done L σ → chk σ = true)
    (hf : ∀ done v rest L σ, all = done ++ v :: rest → I done L σ → ∃ L' σ', f v L σ = some (.next, L', σ') ∧ I (done ++ [v]) L' σ') (h0 : I [] L σ) : ∃ L' σ', o = some (.next, L', σ') ∧ I all L' σ' := by
  obtain ⟨L', σ', e, hI⟩ := forL_inv I hc hf h0
  exact ⟨L', σ', hw ▸ e, hI⟩
theorem clauses1_of {elt t i : Expr} {ifs : List Expr} {a : Nat} {w : It} {vs : List V} {n0 : Nat} {st : Sto} {o : Option Sto} (hw : clauses F n0 elt [⟨t, i, ifs, a⟩] L w vs st = o) (hn : n0 = σ.length) (hst0 : st = σ ++ [.list []]) (p : V → Bool) (g : V → V)
    (hst : ∀ l, still (σ ++ [.list l]) w vs = true)
    (hb : ∀ v ∈ vs, ∀ l, ∃ L1, bindT L (σ ++ [.list l]) t v = some L1 ∧ tests (fun σ e => F.tst L1 σ e) (σ ++ [.list l]) ifs = some (p v, σ ++ [.list l]) ∧ (p v = true → F.ev L1 (σ ++ [.list l]) elt = some (g v, σ ++ [.list l])))
    (hlen : vs.length ≤ most) : o = some (σ ++ [.list ((vs.filter p).map g)]) := by
  subst hn hst0
  rw [clauses1 p g hst hb (by simpa using hlen)] at hw
  rw [← hw, List.nil_append]
theorem callD_list' {d : DefRec} {vs : List V} (h : vs.length = d.params.args.length) {l : List V} (hf : freeL l = true) (hr : ∃ k σ', run F d vs σ = some (.obj k, σ') ∧ σ'.take σ.length = σ ∧ σ.length ≤ k ∧ σ'[k]? = some (.list l)) : callD F d vs σ = some (.obj σ.length, σ ++ [.list l]) := by
  obtain ⟨k, σ', h1, h2, h3, h4⟩ := hr
  rw [callD_run h h1, gc_list h2 h3 h4 hf]
theorem lt_of {k : Nat} {o : Ob} (h : σ[k]? = some o) : k < σ.length := (List.getElem?_eq_some_iff.mp h).1
theorem take_app {σ0 l : Sto} (h : σ.take σ0.length = σ0) : (σ ++ l).take σ0.length = σ0 := by
  have : σ0.length ≤ σ.length := by
    have := congrArg List.length h
    rw [List.length_take] at this; omega
  rw [List.take_append_of_le_length this, h]
theorem take_set {σ0 : Sto} {k : Nat} {x : Ob} (h : σ.take σ0.length = σ0) (hk : σ0.length ≤ k) : (σ.set k x).take σ0.length = σ0 := by
  rw [List.take_set, h, List.set_eq_of_length_le hk]
theorem set_self {k : Nat} {o x : Ob} (h : σ[k]? = some o) : (σ.set k x)[k]? = some x := by
  rw [List.getElem?_set_self (lt_of h)]
theorem set_ne {k j : Nat} {x : Ob} (h : k ≠ j) : (σ.set k x)[j]? = σ[j]? := List.getElem?_set_ne h
theorem app_l {k : Nat} {o : Ob} {l : Sto} (h : σ[k]? = some o) : (σ ++ l)[k]? = some o := by
  rw [List.getElem?_append_left (lt_of h)]; exact h

theorem law_normal_c {p q : Pt} {h : Int} (s : Sd p q) (hh : Hf h) : callD (lvl (tbl r) (n + 60)) d_l_normal.1 [vp p, vp q, .int h] σ = some (.obj σ.length, σ ++ [.list [.int (nrm p q h).1, .int (nrm p q h).2]]) := by
  obtain ⟨s1, s2⟩ := s.sh hh
  obtain ⟨c1, c2⟩ := s.bd hh
  have e1 := cntS_eq hh s1 c1
  have e2 := cntS_eq hh s2 c2
  obtain ⟨h1, h2⟩ := hh
  have b1 : -1152921504606846976 < h := by omega
  have b2 : h < 1152921504606846976 := by omega
  obtain ⟨x1, x2, y1, y2, ne⟩ := s
  have b3 : -1152921504606846976 < q.1 - p.1 := by omega
  have b4 : q.1 - p.1 < 1152921504606846976 := by omega
  have b5 : -1152921504606846976 < q.2 - p.2 := by omega
  have b6 : q.2 - p.2 < 1152921504606846976 := by omega
  refine callD_list' rfl rfl ?_
  generalize hq : (q.1 - p.1) * (q.1 - p.1) + (q.2 - p.2) * (q.2 - p.2) = sq at *
  simp [d_l_normal, bindT, names?, updL, vp, items, run, exs, lvl_ex, lvl_ev, lvl_tst, exS, evS, evA, tstS, allT, evs, evo, bindP, List.lookup, ofString_inj, ofString_beq, subC_tup, subC_obj, subC_lst, binS, binI, getAt, place, small, most, upd, free, freeL, py, pyL, cmp_lt, cmp_le, cmp_gt, cmp_ge, cmp_eqi, cmp_nei, callN, biC, optI, k_len, k_range, k_abs, k_max, k_min, k_int, k_tuple, k_sum, k_zip, n_ahead, n_along, n_area, n_around, n_back, n_behind, n_below, n_big, n_blend, n_both_ends, n_bottom, n_cap, n_cell, n_centre, n_contour, n_contours, n_corner, n_corners, n_cutter, n_dashes, n_dot_now, n_dot_p, n_due, n_end, n_end_in, n_ends_in_dash, n_factor, n_first, n_found, n_gone, n_grain, n_half, n_here, n_inner, n_is_closed, n_join, n_joined, n_k, n_kind, n_later_p, n_left, n_length, n_lengths, n_limit, n_line, n_lines, n_lower, n_many, n_message, n_n, n_normal, n_one, n_other, n_pattern, n_piece, n_piece_k, n_pieces, n_place, n_place_k, n_places, n_quarter, n_right, n_root, n_script, n_second, n_self, n_share, n_sign, n_size, n_some, n_source, n_spot, n_spots, n_square, n_start, n_starts_in_dash, n_step, n_steps, n_style, n_things, n_top, n_turn, n_u, n_v, n_vector, n_way_now, n_whole, n_width, n_x, n_y, b1, b2, b3, b4, b5, b6, hq]
  have q0 := s1.q0
  have q1 := s1.q1
  have b7 : -1152921504606846976 < sq := by omega
  have b8 : sq < 1152921504606846976 := by omega
  have b9 : -1152921504606846976 < h + 2 := by omega
  have b10 : h + 2 < 1152921504606846976 := by omega
  have b11 : h + 2 - 1 ≤ 1000000 := by omega
  generalize hw : forL _ _ _ _ _ = o
  rcases forL_of hw (fun done L st => L "half" = some (.int h) ∧ L "x" = some (.int (q.1 - p.1)) ∧ L "y" = some (.int (q.2 - p.2)) ∧ L "found" = some (.obj σ.length) ∧ st.take σ.length = σ ∧
    st[σ.length]? = some (.list (done.map fun v => match v with | .int pk => .int (cntS h sq pk) | _ => .none)) ∧ st[σ.length + 1]? = some (.list [.int ((q.2 - p.2) * h), .int (-(q.1 - p.1) * h)])) (fun done L st hI => by
      obtain ⟨_, _, _, _, _, _, h7⟩ := hI
      rw [still_one]
      simp [items, h7, most]) (fun done v rest L st hall hI => by
      obtain ⟨i1, i2, i3, i4, i5, i6, i7⟩ := hI
      obtain ⟨pk, rfl, p1, p2⟩ : ∃ pk, v = .int pk ∧ -20000 ≤ pk ∧ pk ≤ 20000 := by
        have hm : v ∈ [V.int ((q.2 - p.2) * h), V.int (-(q.1 - p.1) * h)] := by rw [hall]; simp
        simp only [List.mem_cons, List.not_mem_nil, or_false] at hm
        rcases hm with hm | hm
        · exact ⟨_, hm, s1.lo, s1.hi⟩
        · exact ⟨_, hm, s2.lo, s2.hi⟩
      have b12 : -1152921504606846976 < pk := by omega
      have b13 : pk < 1152921504606846976 := by omega
      simp [overE, items, run, exs, lvl_ex, lvl_ev, lvl_tst, exS, evS, evA, tstS, allT, evs, evo, bindP, List.lookup, ofString_inj, ofString_beq, subC_tup, subC_obj, subC_lst, binS, binI, getAt, place, small, most, upd, free, freeL, py, pyL, cmp_lt, cmp_le, cmp_gt, cmp_ge, cmp_eqi, cmp_nei, callN, biC, optI, k_len, k_range, k_abs, k_max, k_min, k_int, k_tuple, k_sum, k_zip, n_ahead, n_along, n_area, n_around, n_back, n_behind, n_below, n_big, n_blend, n_both_ends, n_bottom, n_cap, n_cell, n_centre, n_contour, n_contours, n_corner, n_corners, n_cutter, n_dashes, n_dot_now, n_dot_p, n_due, n_end, n_end_in, n_ends_in_dash, n_factor, n_first, n_found, n_gone, n_grain, n_half, n_here, n_inner, n_is_closed, n_join, n_joined, n_k, n_kind, n_later_p, n_left, n_length, n_lengths, n_limit, n_line, n_lines, n_lower, n_many, n_message, n_n, n_normal, n_one, n_other, n_pattern, n_piece, n_piece_k, n_pieces, n_place, n_place_k, n_places, n_quarter, n_right, n_root, n_script, n_second, n_self, n_share, n_sign, n_size, n_some, n_source, n_spot, n_spots, n_square, n_start, n_starts_in_dash, n_step, n_steps, n_style, n_things, n_top, n_turn, n_u, n_v, n_vector, n_way_now, n_whole, n_width, n_x, n_y, i1, b9, b10, b11]
      generalize hw2 : clauses _ _ _ _ _ _ _ _ = o2
      have hc := clauses1_of (σ := st) hw2 rfl rfl (isIn sq pk) (fun v => v) (fun l => by rw [still_one]; simp [items, run, exs, lvl_ex, lvl_ev, lvl_tst, exS, evS, evA, tstS, allT, evs, evo, bindP, List.lookup, ofString_inj, ofString_beq, subC_tup, subC_obj, subC_lst, binS, binI, getAt, place, small, most, upd, free, freeL, py, pyL, cmp_lt, cmp_le, cmp_gt, cmp_ge, cmp_eqi, cmp_nei, callN, biC, optI, k_len, k_range, k_abs, k_max, k_min, k_int, k_tuple, k_sum, k_zip, n_ahead, n_along, n_area, n_around, n_back, n_behind, n_below, n_big, n_blend, n_both_ends, n_bottom, n_cap, n_cell, n_centre, n_contour, n_contours, n_corner, n_corners, n_cutter, n_dashes, n_dot_now, n_dot_p, n_due, n_end, n_end_in, n_ends_in_dash, n_factor, n_first, n_found, n_gone, n_grain, n_half, n_here, n_inner, n_is_closed, n_join, n_joined, n_k, n_kind, n_later_p, n_left, n_length, n_lengths, n_limit, n_line, n_lines, n_lower, n_many, n_message, n_n, n_normal, n_one, n_other, n_pattern, n_piece, n_piece_k, n_pieces, n_place, n_place_k, n_places, n_quarter, n_right, n_root, n_script, n_second, n_self, n_share, n_sign, n_size, n_some, n_source, n_spot, n_spots, n_square, n_start, n_starts_in_dash, n_step, n_steps, n_style, n_things, n_top, n_turn, n_u, n_v, n_vector, n_way_now, n_whole, n_width, n_x, n_y, b9, b10, b11]) (fun v hv l => by
        obtain ⟨k, hk, rfl⟩ := List.mem_map.mp hv
        have hk' := List.mem_range.mp hk
        have b14 : -1152921504606846976 < 2 * (1 + (k : Int)) - 1 := by omega
        have b15 : 2 * (1 + (k : Int)) - 1 < 1152921504606846976 := by omega
        have b16 : -1152921504606846976 < 1 + (k : Int) := by omega
        have b17 : 1 + (k : Int) < 1152921504606846976 := by omega
        refine ⟨_, rfl, ?_, fun _ => ?_⟩
        · by_cases hP : (2 * (1 + (k : Int)) - 1) ^ 2 * sq ≤ 4 * pk * pk <;> simp [tests, hide, run, exs, lvl_ex, lvl_ev, lvl_tst, exS, evS, evA, tstS, allT, evs, evo, bindP, List.lookup, ofString_inj, ofString_beq, subC_tup, subC_obj, subC_lst, binS, binI, getAt, place, small, most, upd, free, freeL, py, pyL, cmp_lt, cmp_le, cmp_gt, cmp_ge, cmp_eqi, cmp_nei, callN, biC, optI, k_len, k_range, k_abs, k_max, k_min, k_int, k_tuple, k_sum, k_zip, n_ahead, n_along, n_area, n_around, n_back, n_behind, n_below, n_big, n_blend, n_both_ends, n_bottom, n_cap, n_cell, n_centre, n_contour, n_contours, n_corner, n_corners, n_cutter, n_dashes, n_dot_now, n_dot_p, n_due, n_end, n_end_in, n_ends_in_dash, n_factor, n_first, n_found, n_gone, n_grain, n_half, n_here, n_inner, n_is_closed, n_join, n_joined, n_k, n_kind, n_later_p, n_left, n_length, n_lengths, n_limit, n_line, n_lines, n_lower, n_many, n_message, n_n, n_normal, n_one, n_other, n_pattern, n_piece, n_piece_k, n_pieces, n_place, n_place_k, n_places, n_quarter, n_right, n_root, n_script, n_second, n_self, n_share, n_sign, n_size, n_some, n_source, n_spot, n_spots, n_square, n_start, n_starts_in_dash, n_step, n_steps, n_style, n_things, n_top, n_turn, n_u, n_v, n_vector, n_way_now, n_whole, n_width, n_x, n_y, i1, i2, i3, isIn, b3, b4, b5, b6, b14, b15, b16, b17, hq, b7, b8, b12, b13, hP]
        · simp [run, exs, lvl_ex, lvl_ev, lvl_tst, exS, evS, evA, tstS, allT, evs, evo, bindP, List.lookup, ofString_inj, ofString_beq, subC_tup, subC_obj, subC_lst, binS, binI, getAt, place, small, most, upd, free, freeL, py, pyL, cmp_lt, cmp_le, cmp_gt, cmp_ge, cmp_eqi, cmp_nei, callN, biC, optI, k_len, k_range, k_abs, k_max, k_min, k_int, k_tuple, k_sum, k_zip, n_ahead, n_along, n_area, n_around, n_back, n_behind, n_below, n_big, n_blend, n_both_ends, n_bottom, n_cap, n_cell, n_centre, n_contour, n_contours, n_corner, n_corners, n_cutter, n_dashes, n_dot_now, n_dot_p, n_due, n_end, n_end_in, n_ends_in_dash, n_factor, n_first, n_found, n_gone, n_grain, n_half, n_here, n_inner, n_is_closed, n_join, n_joined, n_k, n_kind, n_later_p, n_left, n_length, n_lengths, n_limit, n_line, n_lines, n_lower, n_many, n_message, n_n, n_normal, n_one, n_other, n_pattern, n_piece, n_piece_k, n_pieces, n_place, n_place_k, n_places, n_quarter, n_right, n_root, n_script, n_second, n_self, n_share, n_sign, n_size, n_some, n_source, n_spot, n_spots, n_square, n_start, n_starts_in_dash, n_step, n_steps, n_style, n_things, n_top, n_turn, n_u, n_v, n_vector, n_way_now, n_whole, n_width, n_x, n_y]) (by simp [most]; omega)
      generalize hfl : List.filter _ _ = fl at hc
      have hf1 : fl.length ≤ 1000000 := by
        rw [← hfl]
        refine Nat.le_trans (List.length_filter_le _ _) ?_
        rw [List.length_map, List.length_range]; omega
      have hf2 : (fl.length : Int) = cnt h sq pk := by
        rw [← hfl]; unfold cnt; rw [show (h + 2).toNat - 1 = (h + 2 - 1).toNat by omega]
      subst hc
      have hsz : done.length ≤ 2 := by
        have := congrArg List.length hall
        simp at this; omega
      have hsz' : done.length < 1000000 := by omega
      have k1 : σ.length < st.length := lt_of i6
      by_cases hp : 0 < pk
      · simp [run, exs, lvl_ex, lvl_ev, lvl_tst, exS, evS, evA, tstS, allT, evs, evo, bindP, List.lookup, ofString_inj, ofString_beq, subC_tup, subC_obj, subC_lst, binS, binI, getAt, place, small, most, upd, free, freeL, py, pyL, cmp_lt, cmp_le, cmp_gt, cmp_ge, cmp_eqi, cmp_nei, callN, biC, optI, k_len, k_range, k_abs, k_max, k_min, k_int, k_tuple, k_sum, k_zip, n_ahead, n_along, n_area, n_around, n_back, n_behind, n_below, n_big, n_blend, n_both_ends, n_bottom, n_cap, n_cell, n_centre, n_contour, n_contours, n_corner, n_corners, n_cutter, n_dashes, n_dot_now, n_dot_p, n_due, n_end, n_end_in, n_ends_in_dash, n_factor, n_first, n_found, n_gone, n_grain, n_half, n_here, n_inner, n_is_closed, n_join, n_joined, n_k, n_kind, n_later_p, n_left, n_length, n_lengths, n_limit, n_line, n_lines, n_lower, n_many, n_message, n_n, n_normal, n_one, n_other, n_pattern, n_piece, n_piece_k, n_pieces, n_place, n_place_k, n_places, n_quarter, n_right, n_root, n_script, n_second, n_self, n_share, n_sign, n_size, n_some, n_source, n_spot, n_spots, n_square, n_start, n_starts_in_dash, n_step, n_steps, n_style, n_things, n_top, n_turn, n_u, n_v, n_vector, n_way_now, n_whole, n_width, n_x, n_y, i4, methC, listM, List.getElem?_append_left k1, i6, hf1, hp, hsz', hf2]
        refine ⟨_, _, ⟨rfl, rfl⟩, by simp [upd, ofString_inj, i1], by simp [upd, ofString_inj, i2], by simp [upd, ofString_inj, i3], by simp [upd, ofString_inj, i4], take_set (take_app i5) (Nat.le_refl _), ?_, ?_⟩
        · rw [set_self (app_l i6)]; simp [cntS, hp]
        · rw [set_ne (by omega), app_l i7]
      · simp [run, exs, lvl_ex, lvl_ev, lvl_tst, exS, evS, evA, tstS, allT, evs, evo, bindP, List.lookup, ofString_inj, ofString_beq, subC_tup, subC_obj, subC_lst, binS, binI, getAt, place, small, most, upd, free, freeL, py, pyL, cmp_lt, cmp_le, cmp_gt, cmp_ge, cmp_eqi, cmp_nei, callN, biC, optI, k_len, k_range, k_abs, k_max, k_min, k_int, k_tuple, k_sum, k_zip, n_ahead, n_along, n_area, n_around, n_back, n_behind, n_below, n_big, n_blend, n_both_ends, n_bottom, n_cap, n_cell, n_centre, n_contour, n_contours, n_corner, n_corners, n_cutter, n_dashes, n_dot_now, n_dot_p, n_due, n_end, n_end_in, n_ends_in_dash, n_factor, n_first, n_found, n_gone, n_grain, n_half, n_here, n_inner, n_is_closed, n_join, n_joined, n_k, n_kind, n_later_p, n_left, n_length, n_lengths, n_limit, n_line, n_lines, n_lower, n_many, n_message, n_n, n_normal, n_one, n_other, n_pattern, n_piece, n_piece_k, n_pieces, n_place, n_place_k, n_places, n_quarter, n_right, n_root, n_script, n_second, n_self, n_share, n_sign, n_size, n_some, n_source, n_spot, n_spots, n_square, n_start, n_starts_in_dash, n_step, n_steps, n_style, n_things, n_top, n_turn, n_u, n_v, n_vector, n_way_now, n_whole, n_width, n_x, n_y, i4, methC, listM, List.getElem?_append_left k1, i6, hf1, hp, hsz', hf2]
        refine ⟨_, _, ⟨rfl, rfl⟩, by simp [upd, ofString_inj, i1], by simp [upd, ofString_inj, i2], by simp [upd, ofString_inj, i3], by simp [upd, ofString_inj, i4], take_set (take_app i5) (Nat.le_refl _), ?_, ?_⟩
        · rw [set_self (app_l i6)]; simp [cntS, hp]
        · rw [set_ne (by omega), app_l i7]) (by simp [upd, ofString_inj, bindP, List.lookup, ofString_beq, gl0, gl]) with ⟨L', σ', rfl, i1, i2, i3, i4, i5, i6, i7⟩
  simp [run, exs, lvl_ex, lvl_ev, lvl_tst, exS, evS, evA, tstS, allT, evs, evo, bindP, List.lookup, ofString_inj, ofString_beq, subC_tup, subC_obj, subC_lst, binS, binI, getAt, place, small, most, upd, free, freeL, py, pyL, cmp_lt, cmp_le, cmp_gt, cmp_ge, cmp_eqi, cmp_nei, callN, biC, optI, k_len, k_range, k_abs, k_max, k_min, k_int, k_tuple, k_sum, k_zip, n_ahead, n_along, n_area, n_around, n_back, n_behind, n_below, n_big, n_blend, n_both_ends, n_bottom, n_cap, n_cell, n_centre, n_contour, n_contours, n_corner, n_corners, n_cutter, n_dashes, n_dot_now, n_dot_p, n_due, n_end, n_end_in, n_ends_in_dash, n_factor, n_first, n_found, n_gone, n_grain, n_half, n_here, n_inner, n_is_closed, n_join, n_joined, n_k, n_kind, n_later_p, n_left, n_length, n_lengths, n_limit, n_line, n_lines, n_lower, n_many, n_message, n_n, n_normal, n_one, n_other, n_pattern, n_piece, n_piece_k, n_pieces, n_place, n_place_k, n_places, n_quarter, n_right, n_root, n_script, n_second, n_self, n_share, n_sign, n_size, n_some, n_source, n_spot, n_spots, n_square, n_start, n_starts_in_dash, n_step, n_steps, n_style, n_things, n_top, n_turn, n_u, n_v, n_vector, n_way_now, n_whole, n_width, n_x, n_y, i4]
  refine ⟨_, _, ⟨rfl, rfl⟩, i5, Nat.le_refl _, ?_⟩
  rw [i6]; simp [e1, e2, nrm, hq]
end Mine
end
section
open PySem PySem.W PyProof.Rows PySem.Calls
set_option linter.unusedVariables false
set_option linter.unusedSimpArgs false
set_option maxRecDepth 100000
namespace Mine
variable {r : Nat → Option (List Int)} {T : Tbl} {F : Funs} {L : Loc} {σ : Sto} {n : Nat}

def ppt (p : Pt) : PyData := .tuple [.int p.1, .int p.2]
theorem py_vp {p : Pt} : py (vp p) = ppt p := by simp [vp, ppt, py, pyL]
theorem pyL_vp {l : List Pt} : pyL (l.map vp) = l.map ppt := by
  induction l with
  | nil => rfl
  | cons p l ih => rw [List.map_cons, List.map_cons, pyL, py_vp, ih]
theorem ppt_ok {p : Pt} : (ppt p).canLay0 = true ∧ (ppt p).depth = 1 := by simp [ppt, PyData.canLay0, PyData.canLayAll0, PyData.depth, PyData.depthAll]
theorem ppts_ok {l : List Pt} : PyData.canLayAll0 (l.map ppt) = true ∧ PyData.depthAll (l.map ppt) ≤ 1 := by
  induction l with
  | nil => simp [PyData.canLayAll0, PyData.depthAll]
  | cons p l ih =>
    rw [List.map_cons, PyData.canLayAll0, PyData.depthAll, ppt_ok.1, ppt_ok.2, ih.1]
    exact ⟨rfl, by omega⟩
theorem eqv_ppt {p q : Pt} : PyData.eqv (ppt p) (ppt q) = decide (p = q) := by
  obtain ⟨a, b⟩ := p
  obtain ⟨c, d⟩ := q
  simp [ppt, PyData.eqv, PyData.eqvAll, Prod.ext_iff]
  by_cases h : a = c <;> by_cases h' : b = d <;> simp [h, h']
theorem eqv_ppts {l m : List Pt} : PyData.eqvAll (l.map ppt) (m.map ppt) = decide (l = m) := by
  induction l generalizing m with
  | nil => cases m <;> simp [PyData.eqvAll]
  | cons p l ih =>
    cases m with
    | nil => simp [PyData.eqvAll]
    | cons q m =>
      rw [List.map_cons, List.map_cons, PyData.eqvAll, eqv_ppt, ih]
      by_cases h : p = q <;> by_cases h' : l = m <;> simp [h, h']
theorem cmpE {a b : V} {x y : PyData} (hx : Mine.data σ a = some x) (hy : Mine.data σ b = some y) (ox : okData x = true) (oy : okData y = true) : cmpS .Eq σ a b = some (PyData.eqv x y) := by
  simp [cmpS, hx, hy, ox, oy]
theorem cmpN {a b : V} {x y : PyData} (hx : Mine.data σ a = some x) (hy : Mine.data σ b = some y) (ox : okData x = true) (oy : okData y = true) : cmpS .NotEq σ a b = some (!PyData.eqv x y) := by
  simp [cmpS, hx, hy, ox, oy]
theorem data_vp {p : Pt} : Mine.data σ (vp p) = some (ppt p) := by
  rw [← py_vp]; rfl
theorem data_vps {l : List Pt} : Mine.data σ (vps l) = some (.tuple (l.map ppt)) := by
  have : py (vps l) = .tuple (l.map ppt) := by rw [vps, py, pyL_vp]
  rw [← this]
  have h := free_vps (l := l)
  unfold vps at h ⊢
  simp [Mine.data, h]
theorem data_obj {k : Nat} {l : List V} (h : σ[k]? = some (.list l)) (hf : freeL l = true) : Mine.data σ (.obj k) = some (.list (pyL l)) := by
  simp [Mine.data, h, hf]
theorem ok_ppt {p : Pt} : okData (ppt p) = true := by simp [okData, ppt_ok.1, ppt_ok.2]
theorem ok_pptsT {l : List Pt} : okData (.tuple (l.map ppt)) = true := by
  have := ppts_ok (l := l)
  simp [okData, PyData.canLay0, PyData.depth, this.1]; omega
theorem ok_pptsL {l : List Pt} : okData (.list (l.map ppt)) = true := by
  have := ppts_ok (l := l)
  simp [okData, PyData.canLay0, PyData.depth, this.1]; omega
theorem cmp_pt {p q : Pt} : cmpS .Eq σ (vp p) (vp q) = some (decide (p = q)) := by rw [cmpE data_vp data_vp ok_ppt ok_ppt, eqv_ppt]
theorem cmp_ptn {p q : Pt} : cmpS .NotEq σ (vp p) (vp q) = some (!decide (p = q)) := by rw [cmpN data_vp data_vp ok_ppt ok_ppt, eqv_ppt]
theorem cmp_emp {l : List Pt} {k j : Nat} (h : σ[k]? = some (.list (l.map vp))) (h' : σ[j]? = some (.list [])) : cmpS .Eq σ (.obj k) (.obj j) = some (decide (l = [])) := by
  rw [cmpE (data_obj h freeL_map) (data_obj h' rfl) (by rw [pyL_vp]; exact ok_pptsL) rfl, pyL_vp]
  show some (PyData.eqvAll (l.map ppt) []) = _
  rw [show ([] : List PyData) = ([] : List Pt).map ppt from rfl, eqv_ppts]
theorem cmp_tn {l : List Pt} : cmpS .NotEq σ (vps l) (.tup []) = some (!decide (l = [])) := by
  rw [show V.tup [] = vps [] from rfl, cmpN data_vps data_vps ok_pptsT ok_pptsT]
  show some (!PyData.eqvAll (l.map ppt) (([] : List Pt).map ppt)) = _
  rw [eqv_ppts]
theorem cmp_te {l : List Pt} : cmpS .Eq σ (vps l) (.tup []) = some (decide (l = [])) := by
  rw [show V.tup [] = vps [] from rfl, cmpE data_vps data_vps ok_pptsT ok_pptsT]
  show some (PyData.eqvAll (l.map ppt) (([] : List Pt).map ppt)) = _
  rw [eqv_ppts]

/-- pieces -/
def ppc (l : List Pt) : PyData := .tuple (l.map ppt)
theorem freeL_pcs {P : List (List Pt)} : freeL (P.map vps) = true := by
  induction P with
  | nil => rfl
  | cons p P ih => rw [List.map_cons, freeL, free_vps, ih]; rfl
theorem pyL_pcs {P : List (List Pt)} : pyL (P.map vps) = P.map ppc := by
  induction P with
  | nil => rfl
  | cons p P ih => rw [List.map_cons, List.map_cons, pyL, ih, vps, py, pyL_vp]; rfl
theorem pcs_ok {P : List (List Pt)} : PyData.canLayAll0 (P.map ppc) = true ∧ PyData.depthAll (P.map ppc) ≤ 2 := by
  induction P with
  | nil => simp [PyData.canLayAll0, PyData.depthAll]
  | cons p P ih =>
    have := ppts_ok (l := p)
    rw [List.map_cons, PyData.canLayAll0, PyData.depthAll, ih.1]
    unfold ppc at ih ⊢
    simp only [PyData.canLay0, PyData.depth, this.1]
    exact ⟨rfl, by omega⟩
theorem eqv_pcs {P Q : List (List Pt)} : PyData.eqvAll (P.map ppc) (Q.map ppc) = decide (P = Q) := by
  induction P generalizing Q with
  | nil => cases Q <;> simp [PyData.eqvAll]
  | cons p P ih =>
    cases Q with
    | nil => simp [PyData.eqvAll]
    | cons q Q =>
      rw [List.map_cons, List.map_cons, PyData.eqvAll, ih]
      have : PyData.eqv (ppc p) (ppc q) = decide (p = q) := by
        show PyData.eqvAll (p.map ppt) (q.map ppt) = _
        exact eqv_ppts
      rw [this]
      by_cases h : p = q <;> by_cases h' : P = Q <;> simp [h, h']
theorem cmp_pcs {P Q : List (List Pt)} {k j : Nat} (h : σ[k]? = some (.list (P.map vps))) (h' : σ[j]? = some (.list (Q.map vps))) : cmpS .NotEq σ (.obj k) (.obj j) = some (!decide (P = Q)) ∧ cmpS .Eq σ (.obj k) (.obj j) = some (decide (P = Q)) := by
  have ok : ∀ P : List (List Pt), okData (.list (P.map ppc)) = true := fun P => by
    have := pcs_ok (P := P)
    simp [okData, PyData.canLay0, PyData.depth, this.1]; omega
  constructor
  · rw [cmpN (data_obj h freeL_pcs) (data_obj h' freeL_pcs) (by rw [pyL_pcs]; exact ok P) (by rw [pyL_pcs]; exact ok Q), pyL_pcs, pyL_pcs]
    show some (!PyData.eqvAll (P.map ppc) (Q.map ppc)) = _
    rw [eqv_pcs]
  · rw [cmpE (data_obj h freeL_pcs) (data_obj h' freeL_pcs) (by rw [pyL_pcs]; exact ok P) (by rw [pyL_pcs]; exact ok Q), pyL_pcs, pyL_pcs]
    show some (PyData.eqvAll (P.map ppc) (Q.map ppc)) = _
    rw [eqv_pcs]

/-- what is drawn: pieces, each closed -/
def vdr (l : List Pt) : V := .tup [vps l, .bool true]
def pdr (l : List Pt) : PyData := .tuple [ppc l, .bool true]
theorem freeL_drs {P : List (List Pt)} : freeL (P.map vdr) = true := by
  induction P with
  | nil => rfl
  | cons p P ih => rw [List.map_cons, freeL, ih]; simp [vdr, free, freeL, free_vps]
theorem pyL_drs {P : List (List Pt)} : pyL (P.map vdr) = P.map pdr := by
  induction P with
  | nil => rfl
  | cons p P ih => rw [List.map_cons, List.map_cons, pyL, ih]; simp [vdr, pdr, ppc, vps, py, pyL, pyL_vp]
theorem drs_ok {P : List (List Pt)} : PyData.canLayAll0 (P.map pdr) = true ∧ PyData.depthAll (P.map pdr) ≤ 3 := by
  induction P with
  | nil => simp [PyData.canLayAll0, PyData.depthAll]
  | cons p P ih =>
    have := ppts_ok (l := p)
    rw [List.map_cons, PyData.canLayAll0, PyData.depthAll, ih.1]
    unfold pdr ppc at ih ⊢
    simp [PyData.canLay0, PyData.canLayAll0, PyData.depth, PyData.depthAll, this.1]
    have := ih.2
    omega
theorem eqv_drs {P Q : List (List Pt)} : PyData.eqvAll (P.map pdr) (Q.map pdr) = decide (P = Q) := by
  induction P generalizing Q with
  | nil => cases Q <;> simp [PyData.eqvAll]
  | cons p P ih =>
    cases Q with
    | nil => simp [PyData.eqvAll]
    | cons q Q =>
      rw [List.map_cons, List.map_cons, PyData.eqvAll, ih]
      have : PyData.eqv (pdr p) (pdr q) = decide (p = q) := by
        show (PyData.eqvAll (p.map ppt) (q.map ppt) && (PyData.eqv (.bool true) (.bool true) && PyData.eqvAll [] [])) = _
        rw [eqv_ppts]; simp [PyData.eqv, PyData.eqvAll]
      rw [this]
      by_cases h : p = q <;> by_cases h' : P = Q <;> simp [h, h']
theorem cmp_drs {P Q : List (List Pt)} {k j : Nat} (h : σ[k]? = some (.list (P.map vdr))) (h' : σ[j]? = some (.list (Q.map vdr))) : cmpS .NotEq σ (.obj k) (.obj j) = some (!decide (P = Q)) := by
  have ok : ∀ P : List (List Pt), okData (.list (P.map pdr)) = true := fun P => by
    have := drs_ok (P := P)
    simp [okData, PyData.canLay0, PyData.depth, this.1]; omega
  rw [cmpN (data_obj h freeL_drs) (data_obj h' freeL_drs) (by rw [pyL_drs]; exact ok P) (by rw [pyL_drs]; exact ok Q), pyL_drs, pyL_drs]
  show some (!PyData.eqvAll (P.map pdr) (Q.map pdr)) = _
  rw [eqv_drs]

def isKind (x : Str) : Prop := x = "butt" ∨ x = "square"
def isJoin (x : Str) : Prop := x = "bevel" ∨ x = "miter"
end Mine
end
section
open PySem PySem.W PyProof.Rows PySem.Calls
set_option linter.unusedVariables false
set_option linter.unusedSimpArgs false
set_option maxRecDepth 100000
namespace Mine
variable {r : Nat → Option (List Int)} {T : Tbl} {F : Funs} {L : Loc} {σ : Sto} {n : Nat}

theorem sub_vp0 {p : Pt} : subC T σ (vp p) (.int 0) = some (.int p.1) := by simp [vp, subC, getAt, place, small]
theorem sub_vp1 {p : Pt} : subC T σ (vp p) (.int 1) = some (.int p.2) := by simp [vp, subC, getAt, place, small]
theorem bind_vp {p : Pt} {es : List Expr} {k : Nat} {q : Pos} : bindT L σ (.Tuple es k q) (vp p) = bindT L σ (.Tuple es k q) (.tup [.int p.1, .int p.2]) := rfl
theorem law_at_c {p : Pt} {x y : Int} : callD (lvl (tbl r) (n + 20)) d_l_at.1 [vp p, .int x, .int y] σ = some (vp (p.1 + x, p.2 + y), σ) := by
  refine callD_pure0 rfl rfl ?_
  simp [d_l_at, vp, run, exs, lvl_ex, lvl_ev, lvl_tst, exS, evS, evA, tstS, allT, evs, evo, bindP, List.lookup, ofString_inj, ofString_beq, subC_tup, subC_obj, subC_lst, binS, binI, getAt, place, small, most, upd, free, freeL, py, pyL, cmp_lt, cmp_le, cmp_gt, cmp_ge, cmp_eqi, cmp_nei, callN, biC, optI, k_len, k_range, k_abs, k_max, k_min, k_int, k_tuple, k_sum, k_zip, n_ahead, n_along, n_area, n_around, n_back, n_behind, n_below, n_big, n_blend, n_both_ends, n_bottom, n_cap, n_cell, n_centre, n_contour, n_contours, n_corner, n_corners, n_cutter, n_dashes, n_dot_now, n_dot_p, n_due, n_end, n_end_in, n_ends_in_dash, n_factor, n_first, n_found, n_gone, n_grain, n_half, n_here, n_inner, n_is_closed, n_join, n_joined, n_k, n_kind, n_later_p, n_left, n_length, n_lengths, n_limit, n_line, n_lines, n_lower, n_many, n_message, n_n, n_normal, n_one, n_other, n_pattern, n_piece, n_piece_k, n_pieces, n_place, n_place_k, n_places, n_quarter, n_right, n_root, n_script, n_second, n_self, n_share, n_sign, n_size, n_some, n_source, n_spot, n_spots, n_square, n_start, n_starts_in_dash, n_step, n_steps, n_style, n_things, n_top, n_turn, n_u, n_v, n_vector, n_way_now, n_whole, n_width, n_x, n_y]
theorem law_side_c {p q : Pt} {h : Int} (s : Sd p q) (hh : Hf h) : callD (lvl (tbl r) (n + 80)) d_l_side.1 [vp p, vp q, .int h] σ = some (vps (quad p q h), σ) := by
  refine callD_pure (τ := [.list [.int (nrm p q h).1, .int (nrm p q h).2]]) rfl free_vps ?_
  simp [d_l_side, k_l_normal, k_l_at, law_normal_c s hh, law_at_c, bindT_name, bindT_tup, bindT_obj, names?, updL, run, exs, lvl_ex, lvl_ev, lvl_tst, exS, evS, evA, tstS, allT, evs, evo, bindP, List.lookup, ofString_inj, ofString_beq, subC_tup, subC_obj, subC_lst, binS, binI, getAt, place, small, most, upd, free, freeL, py, pyL, cmp_lt, cmp_le, cmp_gt, cmp_ge, cmp_eqi, cmp_nei, callN, biC, optI, k_len, k_range, k_abs, k_max, k_min, k_int, k_tuple, k_sum, k_zip, n_ahead, n_along, n_area, n_around, n_back, n_behind, n_below, n_big, n_blend, n_both_ends, n_bottom, n_cap, n_cell, n_centre, n_contour, n_contours, n_corner, n_corners, n_cutter, n_dashes, n_dot_now, n_dot_p, n_due, n_end, n_end_in, n_ends_in_dash, n_factor, n_first, n_found, n_gone, n_grain, n_half, n_here, n_inner, n_is_closed, n_join, n_joined, n_k, n_kind, n_later_p, n_left, n_length, n_lengths, n_limit, n_line, n_lines, n_lower, n_many, n_message, n_n, n_normal, n_one, n_other, n_pattern, n_piece, n_piece_k, n_pieces, n_place, n_place_k, n_places, n_quarter, n_right, n_root, n_script, n_second, n_self, n_share, n_sign, n_size, n_some, n_source, n_spot, n_spots, n_square, n_start, n_starts_in_dash, n_step, n_steps, n_style, n_things, n_top, n_turn, n_u, n_v, n_vector, n_way_now, n_whole, n_width, n_x, n_y, quad, vps]

/-- a corner's piece -/
def turn3 (a p b : Pt) : Int := (p.1 - a.1) * (b.2 - p.2) - (p.2 - a.2) * (b.1 - p.1)
def crn (a p b : Pt) (h : Int) : List Pt := if turn3 a p b = 0 then [] else
  let s : Int := if turn3 a p b > 0 then 1 else -1
  [p, (p.1 + s * (nrm a p h).1, p.2 + s * (nrm a p h).2), (p.1 + s * (nrm p b h).1, p.2 + s * (nrm p b h).2)]

theorem nrs_small {s q : Int} (h : ShOk s q) : -1000 ≤ nrs s q ∧ nrs s q ≤ 1000 := by
  have hi : ∀ k, isq k ≤ 12 := fun k => by
    unfold isq
    have := List.length_filter_le (fun k' => decide (k' * k' ≤ k)) (List.range 13)
    rw [List.length_range] at this
    omega
  have := hi ((4 * s * s).fdiv q).toNat
  unfold nrs
  split <;> omega

theorem law_corner_c {a p b : Pt} {h : Int} (s1 : Sd a p) (s2 : Sd p b) (hh : Hf h) : callD (lvl (tbl r) (n + 80)) d_l_corner.1 [vp a, vp p, vp b, .int h] σ = some (vps (crn a p b h), σ) := by
  have b1 : -1152921504606846976 < p.1 - a.1 := by have := s1.x1; omega
  have b2 : p.1 - a.1 < 1152921504606846976 := by have := s1.x2; omega
  have b3 : -1152921504606846976 < p.2 - a.2 := by have := s1.y1; omega
  have b4 : p.2 - a.2 < 1152921504606846976 := by have := s1.y2; omega
  by_cases ht : turn3 a p b = 0
  · refine callD_pure0 rfl free_vps ?_
    have e : crn a p b h = [] := if_pos ht
    have ht' : (p.1 - a.1) * (b.2 - p.2) - (p.2 - a.2) * (b.1 - p.1) = 0 := ht
    rw [e]
    simp [d_l_corner, vps, run, exs, lvl_ex, lvl_ev, lvl_tst, exS, evS, evA, tstS, allT, evs, evo, bindP, List.lookup, ofString_inj, ofString_beq, subC_tup, subC_obj, subC_lst, binS, binI, getAt, place, small, most, upd, free, freeL, py, pyL, cmp_lt, cmp_le, cmp_gt, cmp_ge, cmp_eqi, cmp_nei, callN, biC, optI, k_len, k_range, k_abs, k_max, k_min, k_int, k_tuple, k_sum, k_zip, n_ahead, n_along, n_area, n_around, n_back, n_behind, n_below, n_big, n_blend, n_both_ends, n_bottom, n_cap, n_cell, n_centre, n_contour, n_contours, n_corner, n_corners, n_cutter, n_dashes, n_dot_now, n_dot_p, n_due, n_end, n_end_in, n_ends_in_dash, n_factor, n_first, n_found, n_gone, n_grain, n_half, n_here, n_inner, n_is_closed, n_join, n_joined, n_k, n_kind, n_later_p, n_left, n_length, n_lengths, n_limit, n_line, n_lines, n_lower, n_many, n_message, n_n, n_normal, n_one, n_other, n_pattern, n_piece, n_piece_k, n_pieces, n_place, n_place_k, n_places, n_quarter, n_right, n_root, n_script, n_second, n_self, n_share, n_sign, n_size, n_some, n_source, n_spot, n_spots, n_square, n_start, n_starts_in_dash, n_step, n_steps, n_style, n_things, n_top, n_turn, n_u, n_v, n_vector, n_way_now, n_whole, n_width, n_x, n_y, sub_vp0, sub_vp1, bind_vp, b1, b2, b3, b4, ht']
  · have ht' : ¬ (p.1 - a.1) * (b.2 - p.2) - (p.2 - a.2) * (b.1 - p.1) = 0 := ht
    refine callD_pure (τ := [.list [.int (nrm a p h).1, .int (nrm a p h).2], .list [.int (nrm p b h).1, .int (nrm p b h).2]]) rfl free_vps ?_
    have gl1 : ∀ {x y : Ob}, (σ ++ [x, y])[σ.length]? = some x := fun {x y} => by rw [gl0]; rfl
    have gl2 : ∀ {x y : Ob}, (σ ++ [x, y])[σ.length + 1]? = some y := fun {x y} => by rw [gl]; rfl
    by_cases hp : (p.2 - a.2) * (b.1 - p.1) < (p.1 - a.1) * (b.2 - p.2)
    · have e : crn a p b h = [p, (p.1 + 1 * (nrm a p h).1, p.2 + 1 * (nrm a p h).2), (p.1 + 1 * (nrm p b h).1, p.2 + 1 * (nrm p b h).2)] := by
        unfold crn; rw [if_neg ht, if_pos (show turn3 a p b > 0 by unfold turn3; omega)]
      rw [e]
      simp [d_l_corner, vps, k_l_normal, k_l_at, law_normal_c s1 hh, law_normal_c s2 hh, law_at_c, bindT_name, bindT_tup, bindT_obj, names?, updL, run, exs, lvl_ex, lvl_ev, lvl_tst, exS, evS, evA, tstS, allT, evs, evo, bindP, List.lookup, ofString_inj, ofString_beq, subC_tup, subC_obj, subC_lst, binS, binI, getAt, place, small, most, upd, free, freeL, py, pyL, cmp_lt, cmp_le, cmp_gt, cmp_ge, cmp_eqi, cmp_nei, callN, biC, optI, k_len, k_range, k_abs, k_max, k_min, k_int, k_tuple, k_sum, k_zip, n_ahead, n_along, n_area, n_around, n_back, n_behind, n_below, n_big, n_blend, n_both_ends, n_bottom, n_cap, n_cell, n_centre, n_contour, n_contours, n_corner, n_corners, n_cutter, n_dashes, n_dot_now, n_dot_p, n_due, n_end, n_end_in, n_ends_in_dash, n_factor, n_first, n_found, n_gone, n_grain, n_half, n_here, n_inner, n_is_closed, n_join, n_joined, n_k, n_kind, n_later_p, n_left, n_length, n_lengths, n_limit, n_line, n_lines, n_lower, n_many, n_message, n_n, n_normal, n_one, n_other, n_pattern, n_piece, n_piece_k, n_pieces, n_place, n_place_k, n_places, n_quarter, n_right, n_root, n_script, n_second, n_self, n_share, n_sign, n_size, n_some, n_source, n_spot, n_spots, n_square, n_start, n_starts_in_dash, n_step, n_steps, n_style, n_things, n_top, n_turn, n_u, n_v, n_vector, n_way_now, n_whole, n_width, n_x, n_y, sub_vp0, sub_vp1, bind_vp, b1, b2, b3, b4, ht', hp, gl1, gl2]
    · have e : crn a p b h = [p, (p.1 + -1 * (nrm a p h).1, p.2 + -1 * (nrm a p h).2), (p.1 + -1 * (nrm p b h).1, p.2 + -1 * (nrm p b h).2)] := by
        unfold crn; rw [if_neg ht, if_neg (show ¬ turn3 a p b > 0 by unfold turn3; omega)]
      rw [e]
      simp [d_l_corner, vps, k_l_normal, k_l_at, law_normal_c s1 hh, law_normal_c s2 hh, law_at_c, bindT_name, bindT_tup, bindT_obj, names?, updL, run, exs, lvl_ex, lvl_ev, lvl_tst, exS, evS, evA, tstS, allT, evs, evo, bindP, List.lookup, ofString_inj, ofString_beq, subC_tup, subC_obj, subC_lst, binS, binI, getAt, place, small, most, upd, free, freeL, py, pyL, cmp_lt, cmp_le, cmp_gt, cmp_ge, cmp_eqi, cmp_nei, callN, biC, optI, k_len, k_range, k_abs, k_max, k_min, k_int, k_tuple, k_sum, k_zip, n_ahead, n_along, n_area, n_around, n_back, n_behind, n_below, n_big, n_blend, n_both_ends, n_bottom, n_cap, n_cell, n_centre, n_contour, n_contours, n_corner, n_corners, n_cutter, n_dashes, n_dot_now, n_dot_p, n_due, n_end, n_end_in, n_ends_in_dash, n_factor, n_first, n_found, n_gone, n_grain, n_half, n_here, n_inner, n_is_closed, n_join, n_joined, n_k, n_kind, n_later_p, n_left, n_length, n_lengths, n_limit, n_line, n_lines, n_lower, n_many, n_message, n_n, n_normal, n_one, n_other, n_pattern, n_piece, n_piece_k, n_pieces, n_place, n_place_k, n_places, n_quarter, n_right, n_root, n_script, n_second, n_self, n_share, n_sign, n_size, n_some, n_source, n_spot, n_spots, n_square, n_start, n_starts_in_dash, n_step, n_steps, n_style, n_things, n_top, n_turn, n_u, n_v, n_vector, n_way_now, n_whole, n_width, n_x, n_y, sub_vp0, sub_vp1, bind_vp, b1, b2, b3, b4, ht', hp, gl1, gl2]

/-- a cap's piece -/
def capP (q p : Pt) (h : Int) : List Pt := [(p.1 + (nrm q p h).1, p.2 + (nrm q p h).2), (p.1 + ((nrm q p h).1 - (nrm q p h).2), p.2 + ((nrm q p h).2 + (nrm q p h).1)), (p.1 + (-(nrm q p h).1 - (nrm q p h).2), p.2 + ((nrm q p h).1 - (nrm q p h).2)), (p.1 + -(nrm q p h).1, p.2 + -(nrm q p h).2)]
theorem s_bb : cmpS .Eq σ (.str "butt") (.str "butt") = some true := by kernel_rfl
theorem s_sb : cmpS .Eq σ (.str "square") (.str "butt") = some false := by kernel_rfl
theorem s_br : cmpS .Eq σ (.str "butt") (.str "round") = some false := by kernel_rfl
theorem s_sr : cmpS .Eq σ (.str "square") (.str "round") = some false := by kernel_rfl
theorem s_bs : cmpS .Eq σ (.str "butt") (.str "square") = some false := by kernel_rfl
theorem s_ss : cmpS .Eq σ (.str "square") (.str "square") = some true := by kernel_rfl
theorem s_nbs : cmpS .NotEq σ (.str "butt") (.str "square") = some true := by kernel_rfl
theorem s_nss : cmpS .NotEq σ (.str "square") (.str "square") = some false := by kernel_rfl
theorem s_vr : cmpS .Eq σ (.str "bevel") (.str "round") = some false := by kernel_rfl
theorem s_mr : cmpS .Eq σ (.str "miter") (.str "round") = some false := by kernel_rfl
theorem s_vm : cmpS .Eq σ (.str "bevel") (.str "miter") = some false := by kernel_rfl
theorem s_mm : cmpS .Eq σ (.str "miter") (.str "miter") = some true := by kernel_rfl

def capOf (kd : Bool) (q p : Pt) (h : Int) : List Pt := if kd then capP q p h else []
def kdV (kd : Bool) : V := .str (if kd then "square" else "butt")
theorem law_cap_c {kd : Bool} {q p : Pt} {h : Int} (s : Sd q p) (hh : Hf h) : callD (lvl (tbl r) (n + 80)) d_l_cap.1 [kdV kd, vp q, vp p, .int h] σ = some (vps (capOf kd q p h), σ) := by
  cases kd with
  | false =>
    refine callD_pure0 rfl free_vps ?_
    simp [d_l_cap, vps, kdV, capOf, run, exs, lvl_ex, lvl_ev, lvl_tst, exS, evS, evA, tstS, allT, evs, evo, bindP, List.lookup, ofString_inj, ofString_beq, subC_tup, subC_obj, subC_lst, binS, binI, getAt, place, small, most, upd, free, freeL, py, pyL, cmp_lt, cmp_le, cmp_gt, cmp_ge, cmp_eqi, cmp_nei, callN, biC, optI, k_len, k_range, k_abs, k_max, k_min, k_int, k_tuple, k_sum, k_zip, n_ahead, n_along, n_area, n_around, n_back, n_behind, n_below, n_big, n_blend, n_both_ends, n_bottom, n_cap, n_cell, n_centre, n_contour, n_contours, n_corner, n_corners, n_cutter, n_dashes, n_dot_now, n_dot_p, n_due, n_end, n_end_in, n_ends_in_dash, n_factor, n_first, n_found, n_gone, n_grain, n_half, n_here, n_inner, n_is_closed, n_join, n_joined, n_k, n_kind, n_later_p, n_left, n_length, n_lengths, n_limit, n_line, n_lines, n_lower, n_many, n_message, n_n, n_normal, n_one, n_other, n_pattern, n_piece, n_piece_k, n_pieces, n_place, n_place_k, n_places, n_quarter, n_right, n_root, n_script, n_second, n_self, n_share, n_sign, n_size, n_some, n_source, n_spot, n_spots, n_square, n_start, n_starts_in_dash, n_step, n_steps, n_style, n_things, n_top, n_turn, n_u, n_v, n_vector, n_way_now, n_whole, n_width, n_x, n_y, sub_vp0, sub_vp1, bind_vp, s_bb]
  | true =>
    refine callD_pure (τ := [.list [.int (nrm q p h).1, .int (nrm q p h).2]]) rfl free_vps ?_
    simp [d_l_cap, vps, kdV, capOf, capP, k_l_normal, k_l_at, law_normal_c s hh, law_at_c, bindT_name, bindT_tup, bindT_obj, names?, updL, run, exs, lvl_ex, lvl_ev, lvl_tst, exS, evS, evA, tstS, allT, evs, evo, bindP, List.lookup, ofString_inj, ofString_beq, subC_tup, subC_obj, subC_lst, binS, binI, getAt, place, small, most, upd, free, freeL, py, pyL, cmp_lt, cmp_le, cmp_gt, cmp_ge, cmp_eqi, cmp_nei, callN, biC, optI, k_len, k_range, k_abs, k_max, k_min, k_int, k_tuple, k_sum, k_zip, n_ahead, n_along, n_area, n_around, n_back, n_behind, n_below, n_big, n_blend, n_both_ends, n_bottom, n_cap, n_cell, n_centre, n_contour, n_contours, n_corner, n_corners, n_cutter, n_dashes, n_dot_now, n_dot_p, n_due, n_end, n_end_in, n_ends_in_dash, n_factor, n_first, n_found, n_gone, n_grain, n_half, n_here, n_inner, n_is_closed, n_join, n_joined, n_k, n_kind, n_later_p, n_left, n_length, n_lengths, n_limit, n_line, n_lines, n_lower, n_many, n_message, n_n, n_normal, n_one, n_other, n_pattern, n_piece, n_piece_k, n_pieces, n_place, n_place_k, n_places, n_quarter, n_right, n_root, n_script, n_second, n_self, n_share, n_sign, n_size, n_some, n_source, n_spot, n_spots, n_square, n_start, n_starts_in_dash, n_step, n_steps, n_style, n_things, n_top, n_turn, n_u, n_v, n_vector, n_way_now, n_whole, n_width, n_x, n_y, sub_vp0, sub_vp1, bind_vp, s_sb, gl0]
theorem cap_spots_c {kd : Bool} {q p : Pt} {h st : Int} (s : Sd q p) (hh : Hf h) : callD (lvl (tbl r) (n + 80)) d_cap_spots.1 [kdV kd, vp q, vp p, .int h, .int st] σ = some (vps (capOf kd q p h), σ) := by
  cases kd with
  | false =>
    refine callD_pure0 rfl free_vps ?_
    simp [d_cap_spots, vps, kdV, capOf, run, exs, lvl_ex, lvl_ev, lvl_tst, exS, evS, evA, tstS, allT, evs, evo, bindP, List.lookup, ofString_inj, ofString_beq, subC_tup, subC_obj, subC_lst, binS, binI, getAt, place, small, most, upd, free, freeL, py, pyL, cmp_lt, cmp_le, cmp_gt, cmp_ge, cmp_eqi, cmp_nei, callN, biC, optI, k_len, k_range, k_abs, k_max, k_min, k_int, k_tuple, k_sum, k_zip, n_ahead, n_along, n_area, n_around, n_back, n_behind, n_below, n_big, n_blend, n_both_ends, n_bottom, n_cap, n_cell, n_centre, n_contour, n_contours, n_corner, n_corners, n_cutter, n_dashes, n_dot_now, n_dot_p, n_due, n_end, n_end_in, n_ends_in_dash, n_factor, n_first, n_found, n_gone, n_grain, n_half, n_here, n_inner, n_is_closed, n_join, n_joined, n_k, n_kind, n_later_p, n_left, n_length, n_lengths, n_limit, n_line, n_lines, n_lower, n_many, n_message, n_n, n_normal, n_one, n_other, n_pattern, n_piece, n_piece_k, n_pieces, n_place, n_place_k, n_places, n_quarter, n_right, n_root, n_script, n_second, n_self, n_share, n_sign, n_size, n_some, n_source, n_spot, n_spots, n_square, n_start, n_starts_in_dash, n_step, n_steps, n_style, n_things, n_top, n_turn, n_u, n_v, n_vector, n_way_now, n_whole, n_width, n_x, n_y, sub_vp0, sub_vp1, bind_vp, s_br, s_nbs]
  | true =>
    refine callD_pure0 rfl free_vps ?_
    simp [d_cap_spots, vps, kdV, capOf, capP, k_normal_of, k_turned_about, k_along_of, k_moved_by, normal_c s hh, turned_c, along_c, moved_c, bindT_name, bindT_tup, bindT_obj, names?, updL, run, exs, lvl_ex, lvl_ev, lvl_tst, exS, evS, evA, tstS, allT, evs, evo, bindP, List.lookup, ofString_inj, ofString_beq, subC_tup, subC_obj, subC_lst, binS, binI, getAt, place, small, most, upd, free, freeL, py, pyL, cmp_lt, cmp_le, cmp_gt, cmp_ge, cmp_eqi, cmp_nei, callN, biC, optI, k_len, k_range, k_abs, k_max, k_min, k_int, k_tuple, k_sum, k_zip, n_ahead, n_along, n_area, n_around, n_back, n_behind, n_below, n_big, n_blend, n_both_ends, n_bottom, n_cap, n_cell, n_centre, n_contour, n_contours, n_corner, n_corners, n_cutter, n_dashes, n_dot_now, n_dot_p, n_due, n_end, n_end_in, n_ends_in_dash, n_factor, n_first, n_found, n_gone, n_grain, n_half, n_here, n_inner, n_is_closed, n_join, n_joined, n_k, n_kind, n_later_p, n_left, n_length, n_lengths, n_limit, n_line, n_lines, n_lower, n_many, n_message, n_n, n_normal, n_one, n_other, n_pattern, n_piece, n_piece_k, n_pieces, n_place, n_place_k, n_places, n_quarter, n_right, n_root, n_script, n_second, n_self, n_share, n_sign, n_size, n_some, n_source, n_spot, n_spots, n_square, n_start, n_starts_in_dash, n_step, n_steps, n_style, n_things, n_top, n_turn, n_u, n_v, n_vector, n_way_now, n_whole, n_width, n_x, n_y, sub_vp0, sub_vp1, bind_vp, s_sr, s_nss]
    refine ⟨?_, ?_⟩ <;> refine congrArg vp (Prod.ext ?_ ?_) <;> dsimp only <;> omega
def sqr (p : Pt) (h : Int) : List Pt := [(p.1 - h, p.2 - h), (p.1 + h, p.2 - h), (p.1 + h, p.2 + h), (p.1 - h, p.2 + h)]
def dotOf (kd : Bool) (p : Pt) (h : Int) : List Pt := if kd then sqr p h else []
theorem square_about_c {p : Pt} {h : Int} : callD (lvl (tbl r) (n + 30)) d_square_about.1 [vp p, .int h] σ = some (vps (sqr p h), σ) := by
  refine callD_pure0 rfl free_vps ?_
  simp [d_square_about, vps, sqr, vp, bindT_name, bindT_tup, bindT_obj, names?, updL, run, exs, lvl_ex, lvl_ev, lvl_tst, exS, evS, evA, tstS, allT, evs, evo, bindP, List.lookup, ofString_inj, ofString_beq, subC_tup, subC_obj, subC_lst, binS, binI, getAt, place, small, most, upd, free, freeL, py, pyL, cmp_lt, cmp_le, cmp_gt, cmp_ge, cmp_eqi, cmp_nei, callN, biC, optI, k_len, k_range, k_abs, k_max, k_min, k_int, k_tuple, k_sum, k_zip, n_ahead, n_along, n_area, n_around, n_back, n_behind, n_below, n_big, n_blend, n_both_ends, n_bottom, n_cap, n_cell, n_centre, n_contour, n_contours, n_corner, n_corners, n_cutter, n_dashes, n_dot_now, n_dot_p, n_due, n_end, n_end_in, n_ends_in_dash, n_factor, n_first, n_found, n_gone, n_grain, n_half, n_here, n_inner, n_is_closed, n_join, n_joined, n_k, n_kind, n_later_p, n_left, n_length, n_lengths, n_limit, n_line, n_lines, n_lower, n_many, n_message, n_n, n_normal, n_one, n_other, n_pattern, n_piece, n_piece_k, n_pieces, n_place, n_place_k, n_places, n_quarter, n_right, n_root, n_script, n_second, n_self, n_share, n_sign, n_size, n_some, n_source, n_spot, n_spots, n_square, n_start, n_starts_in_dash, n_step, n_steps, n_style, n_things, n_top, n_turn, n_u, n_v, n_vector, n_way_now, n_whole, n_width, n_x, n_y]
theorem dot_spots_c {kd : Bool} {p : Pt} {h st : Int} : callD (lvl (tbl r) (n + 60)) d_dot_spots.1 [kdV kd, vp p, .int h, .int st] σ = some (vps (dotOf kd p h), σ) := by
  cases kd with
  | false =>
    refine callD_pure0 rfl free_vps ?_
    simp [d_dot_spots, vps, kdV, dotOf, run, exs, lvl_ex, lvl_ev, lvl_tst, exS, evS, evA, tstS, allT, evs, evo, bindP, List.lookup, ofString_inj, ofString_beq, subC_tup, subC_obj, subC_lst, binS, binI, getAt, place, small, most, upd, free, freeL, py, pyL, cmp_lt, cmp_le, cmp_gt, cmp_ge, cmp_eqi, cmp_nei, callN, biC, optI, k_len, k_range, k_abs, k_max, k_min, k_int, k_tuple, k_sum, k_zip, n_ahead, n_along, n_area, n_around, n_back, n_behind, n_below, n_big, n_blend, n_both_ends, n_bottom, n_cap, n_cell, n_centre, n_contour, n_contours, n_corner, n_corners, n_cutter, n_dashes, n_dot_now, n_dot_p, n_due, n_end, n_end_in, n_ends_in_dash, n_factor, n_first, n_found, n_gone, n_grain, n_half, n_here, n_inner, n_is_closed, n_join, n_joined, n_k, n_kind, n_later_p, n_left, n_length, n_lengths, n_limit, n_line, n_lines, n_lower, n_many, n_message, n_n, n_normal, n_one, n_other, n_pattern, n_piece, n_piece_k, n_pieces, n_place, n_place_k, n_places, n_quarter, n_right, n_root, n_script, n_second, n_self, n_share, n_sign, n_size, n_some, n_source, n_spot, n_spots, n_square, n_start, n_starts_in_dash, n_step, n_steps, n_style, n_things, n_top, n_turn, n_u, n_v, n_vector, n_way_now, n_whole, n_width, n_x, n_y, sub_vp0, sub_vp1, bind_vp, s_br, s_bs]
  | true =>
    refine callD_pure0 rfl free_vps ?_
    simp [d_dot_spots, kdV, dotOf, k_square_about, square_about_c, run, exs, lvl_ex, lvl_ev, lvl_tst, exS, evS, evA, tstS, allT, evs, evo, bindP, List.lookup, ofString_inj, ofString_beq, subC_tup, subC_obj, subC_lst, binS, binI, getAt, place, small, most, upd, free, freeL, py, pyL, cmp_lt, cmp_le, cmp_gt, cmp_ge, cmp_eqi, cmp_nei, callN, biC, optI, k_len, k_range, k_abs, k_max, k_min, k_int, k_tuple, k_sum, k_zip, n_ahead, n_along, n_area, n_around, n_back, n_behind, n_below, n_big, n_blend, n_both_ends, n_bottom, n_cap, n_cell, n_centre, n_contour, n_contours, n_corner, n_corners, n_cutter, n_dashes, n_dot_now, n_dot_p, n_due, n_end, n_end_in, n_ends_in_dash, n_factor, n_first, n_found, n_gone, n_grain, n_half, n_here, n_inner, n_is_closed, n_join, n_joined, n_k, n_kind, n_later_p, n_left, n_length, n_lengths, n_limit, n_line, n_lines, n_lower, n_many, n_message, n_n, n_normal, n_one, n_other, n_pattern, n_piece, n_piece_k, n_pieces, n_place, n_place_k, n_places, n_quarter, n_right, n_root, n_script, n_second, n_self, n_share, n_sign, n_size, n_some, n_source, n_spot, n_spots, n_square, n_start, n_starts_in_dash, n_step, n_steps, n_style, n_things, n_top, n_turn, n_u, n_v, n_vector, n_way_now, n_whole, n_width, n_x, n_y, sub_vp0, sub_vp1, bind_vp, s_sr, s_ss]
end Mine
end
section
open PySem PySem.W PyProof.Rows PySem.Calls
set_option linter.unusedVariables false
set_option linter.unusedSimpArgs false
set_option maxRecDepth 100000
namespace Mine
variable {r : Nat → Option (List Int)} {T : Tbl} {F : Funs} {L : Loc} {σ : Sto} {n : Nat}

theorem mi_corner : (tbl r).meth "Corner" "__init__" = some m_corner_init.1 := by kernel_rfl
theorem mi_straight : (tbl r).meth "Corner" "is_straight" = some m_corner_is_straight.1 := by kernel_rfl
theorem mi_squares : (tbl r).meth "Corner" "squares" = some m_corner_squares.1 := by kernel_rfl
theorem df_corner : (tbl r).dfl "Corner" = [] := by kernel_rfl
theorem fd_spot : (tbl r).field "Corner" "spot" = true := by kernel_rfl
theorem fd_first : (tbl r).field "Corner" "first" = true := by kernel_rfl
theorem fd_second : (tbl r).field "Corner" "second" = true := by kernel_rfl
theorem fd_turn : (tbl r).field "Corner" "turn" = true := by kernel_rfl
theorem fd_straight : (tbl r).field "Corner" "straight" = true := by kernel_rfl
theorem fd_one : (tbl r).field "Corner" "one" = true := by kernel_rfl
theorem fd_other : (tbl r).field "Corner" "other" = true := by kernel_rfl

theorem gc_inst {k : Nat} {c : Str} {fs : List (Str × V)} {σ' : Sto} (hp : σ'.take σ.length = σ) (hk : σ.length ≤ k) (hg : σ'[k]? = some (.inst c fs)) (hf : freeL (fs.map (·.2)) = true) : gc σ (.obj k) σ' = (.obj σ.length, σ ++ [.inst c fs]) := by
  unfold gc
  rw [if_pos hp, if_neg (by simp [free])]
  dsimp only
  rw [hg]
  dsimp only
  rw [if_pos (by simp [hk, hf])]

def strt (a p b : Pt) : Int := (p.1 - a.1) * (b.1 - p.1) + (p.2 - a.2) * (b.2 - p.2)
def sg (t : Int) (p : Pt) : Pt := if t < 0 then (-p.1, -p.2) else p
def cfl (a p b : Pt) (h : Int) : List (Str × V) := [("spot", vp p), ("first", vp (p.1 - a.1, p.2 - a.2)), ("second", vp (b.1 - p.1, b.2 - p.2)), ("turn", .int (turn3 a p b)), ("straight", .int (strt a p b)), ("one", vp (sg (turn3 a p b) (nrm a p h))), ("other", vp (sg (turn3 a p b) (nrm p b h)))]

theorem way_v {p q : Pt} : callD (lvl (tbl r) (n + 10)) d_way_of.1 [vp p, vp q] σ = some (vp (q.1 - p.1, q.2 - p.2), σ) := way_of_c

theorem corner_c {a p b : Pt} {h : Int} (s1 : Sd a p) (s2 : Sd p b) (hh : Hf h) : mkC (tbl r) (lvl (tbl r) (n + 80)) "Corner" [vp a, vp p, vp b, .int h] σ = some (.obj σ.length, σ ++ [.inst "Corner" (cfl a p b h)]) := by
  have b1 : -1152921504606846976 < p.1 - a.1 := by have := s1.x1; omega
  have b2 : p.1 - a.1 < 1152921504606846976 := by have := s1.x2; omega
  have b3 : -1152921504606846976 < p.2 - a.2 := by have := s1.y1; omega
  have b4 : p.2 - a.2 < 1152921504606846976 := by have := s1.y2; omega
  have ef : ∀ t1 t2 : Int, freeL (([("spot", vp p), ("first", vp (p.1 - a.1, p.2 - a.2)), ("second", vp (b.1 - p.1, b.2 - p.2)), ("turn", .int t1), ("straight", .int t2), ("one", vp (sg t1 (nrm a p h))), ("other", vp (sg t1 (nrm p b h)))] : List (Str × V)).map (·.2)) = true := fun _ _ => rfl
  have key : ∃ L', exs (lvl (tbl r) (n + 80)).ex (bindP (m_corner_init.1.params.args.map (·.arg)) [.obj σ.length, vp a, vp p, vp b, .int h]) (σ ++ [.inst "Corner" []]) m_corner_init.1.body = some (.next, L', σ ++ [.inst "Corner" (cfl a p b h)]) := by
    have ht : turn3 a p b = (p.1 - a.1) * (b.2 - p.2) - (p.2 - a.2) * (b.1 - p.1) := rfl
    by_cases hp : (p.1 - a.1) * (b.2 - p.2) - (p.2 - a.2) * (b.1 - p.1) < 0
    · have hlt : turn3 a p b < 0 := by rw [ht]; omega
      simp [m_corner_init, k_way_of, k_normal_of, k_turned_about, way_v, normal_c s1 hh, normal_c s2 hh, turned_c, bindT_name, bindT_tup, bindT_obj, names?, updL, run, exs, lvl_ex, lvl_ev, lvl_tst, exS, evS, evA, tstS, allT, evs, evo, bindP, List.lookup, ofString_inj, ofString_beq, subC_tup, subC_obj, subC_lst, binS, binI, getAt, place, small, most, upd, free, freeL, py, pyL, cmp_lt, cmp_le, cmp_gt, cmp_ge, cmp_eqi, cmp_nei, callN, biC, optI, k_len, k_range, k_abs, k_max, k_min, k_int, k_tuple, k_sum, k_zip, n_ahead, n_along, n_area, n_around, n_back, n_behind, n_below, n_big, n_blend, n_both_ends, n_bottom, n_cap, n_cell, n_centre, n_contour, n_contours, n_corner, n_corners, n_cutter, n_dashes, n_dot_now, n_dot_p, n_due, n_end, n_end_in, n_ends_in_dash, n_factor, n_first, n_found, n_gone, n_grain, n_half, n_here, n_inner, n_is_closed, n_join, n_joined, n_k, n_kind, n_later_p, n_left, n_length, n_lengths, n_limit, n_line, n_lines, n_lower, n_many, n_message, n_n, n_normal, n_one, n_other, n_pattern, n_piece, n_piece_k, n_pieces, n_place, n_place_k, n_places, n_quarter, n_right, n_root, n_script, n_second, n_self, n_share, n_sign, n_size, n_some, n_source, n_spot, n_spots, n_square, n_start, n_starts_in_dash, n_step, n_steps, n_style, n_things, n_top, n_turn, n_u, n_v, n_vector, n_way_now, n_whole, n_width, n_x, n_y, sub_vp0, sub_vp1, bind_vp, putF, fd_spot, fd_first, fd_second, fd_turn, fd_straight, fd_one, fd_other, b1, b2, b3, b4, hp, sl0, cfl, sg, hlt]
      exact ⟨rfl, rfl⟩
    · have hlt : ¬ turn3 a p b < 0 := by rw [ht]; omega
      simp [m_corner_init, k_way_of, k_normal_of, k_turned_about, way_v, normal_c s1 hh, normal_c s2 hh, turned_c, bindT_name, bindT_tup, bindT_obj, names?, updL, run, exs, lvl_ex, lvl_ev, lvl_tst, exS, evS, evA, tstS, allT, evs, evo, bindP, List.lookup, ofString_inj, ofString_beq, subC_tup, subC_obj, subC_lst, binS, binI, getAt, place, small, most, upd, free, freeL, py, pyL, cmp_lt, cmp_le, cmp_gt, cmp_ge, cmp_eqi, cmp_nei, callN, biC, optI, k_len, k_range, k_abs, k_max, k_min, k_int, k_tuple, k_sum, k_zip, n_ahead, n_along, n_area, n_around, n_back, n_behind, n_below, n_big, n_blend, n_both_ends, n_bottom, n_cap, n_cell, n_centre, n_contour, n_contours, n_corner, n_corners, n_cutter, n_dashes, n_dot_now, n_dot_p, n_due, n_end, n_end_in, n_ends_in_dash, n_factor, n_first, n_found, n_gone, n_grain, n_half, n_here, n_inner, n_is_closed, n_join, n_joined, n_k, n_kind, n_later_p, n_left, n_length, n_lengths, n_limit, n_line, n_lines, n_lower, n_many, n_message, n_n, n_normal, n_one, n_other, n_pattern, n_piece, n_piece_k, n_pieces, n_place, n_place_k, n_places, n_quarter, n_right, n_root, n_script, n_second, n_self, n_share, n_sign, n_size, n_some, n_source, n_spot, n_spots, n_square, n_start, n_starts_in_dash, n_step, n_steps, n_style, n_things, n_top, n_turn, n_u, n_v, n_vector, n_way_now, n_whole, n_width, n_x, n_y, sub_vp0, sub_vp1, bind_vp, putF, fd_spot, fd_first, fd_second, fd_turn, fd_straight, fd_one, fd_other, b1, b2, b3, b4, hp, sl0, cfl, sg, hlt]
      exact ⟨rfl, rfl⟩
  obtain ⟨L', hL⟩ := key
  unfold mkC
  rw [mi_corner, df_corner]
  have hn : m_corner_init.1.params.args.length = 5 := rfl
  simp only [hn, List.drop_nil, List.append_nil, List.length_cons, List.length_nil, if_true, hL]
  rw [gc_inst (by simp) (Nat.le_refl _) (by rw [gl0]; rfl) (ef _ _)]
  rfl

theorem is_straight_c {a p b : Pt} {h : Int} {k : Nat} (hk : σ[k]? = some (.inst "Corner" (cfl a p b h))) : callD (lvl (tbl r) (n + 20)) m_corner_is_straight.1 [.obj k] σ = some (.bool (decide (turn3 a p b = 0) && decide (strt a p b > 0)), σ) := by
  refine callD_pure0 rfl rfl ?_
  by_cases h1 : turn3 a p b = 0 <;> simp [m_corner_is_straight, run, exs, lvl_ex, lvl_ev, lvl_tst, exS, evS, evA, tstS, allT, evs, evo, bindP, List.lookup, ofString_inj, ofString_beq, subC_tup, subC_obj, subC_lst, binS, binI, getAt, place, small, most, upd, free, freeL, py, pyL, cmp_lt, cmp_le, cmp_gt, cmp_ge, cmp_eqi, cmp_nei, callN, biC, optI, k_len, k_range, k_abs, k_max, k_min, k_int, k_tuple, k_sum, k_zip, n_ahead, n_along, n_area, n_around, n_back, n_behind, n_below, n_big, n_blend, n_both_ends, n_bottom, n_cap, n_cell, n_centre, n_contour, n_contours, n_corner, n_corners, n_cutter, n_dashes, n_dot_now, n_dot_p, n_due, n_end, n_end_in, n_ends_in_dash, n_factor, n_first, n_found, n_gone, n_grain, n_half, n_here, n_inner, n_is_closed, n_join, n_joined, n_k, n_kind, n_later_p, n_left, n_length, n_lengths, n_limit, n_line, n_lines, n_lower, n_many, n_message, n_n, n_normal, n_one, n_other, n_pattern, n_piece, n_piece_k, n_pieces, n_place, n_place_k, n_places, n_quarter, n_right, n_root, n_script, n_second, n_self, n_share, n_sign, n_size, n_some, n_source, n_spot, n_spots, n_square, n_start, n_starts_in_dash, n_step, n_steps, n_style, n_things, n_top, n_turn, n_u, n_v, n_vector, n_way_now, n_whole, n_width, n_x, n_y, sub_vp0, sub_vp1, bind_vp, hk, cfl, fd_turn, fd_straight, h1]

theorem squares_c {a p b : Pt} {h : Int} {k : Nat} (s1 : Sd a p) (s2 : Sd p b) (hk : σ[k]? = some (.inst "Corner" (cfl a p b h))) : callD (lvl (tbl r) (n + 20)) m_corner_squares.1 [.obj k] σ = some (.int (((p.1 - a.1) * (p.1 - a.1) + (p.2 - a.2) * (p.2 - a.2)) * ((b.1 - p.1) * (b.1 - p.1) + (b.2 - p.2) * (b.2 - p.2))), σ) := by
  have b1 : -1152921504606846976 < p.1 - a.1 := by have := s1.x1; omega
  have b2 : p.1 - a.1 < 1152921504606846976 := by have := s1.x2; omega
  have b3 : -1152921504606846976 < p.2 - a.2 := by have := s1.y1; omega
  have b4 : p.2 - a.2 < 1152921504606846976 := by have := s1.y2; omega
  have b5 : -1152921504606846976 < b.1 - p.1 := by have := s2.x1; omega
  have b6 : b.1 - p.1 < 1152921504606846976 := by have := s2.x2; omega
  have b7 : -1152921504606846976 < b.2 - p.2 := by have := s2.y1; omega
  have b8 : b.2 - p.2 < 1152921504606846976 := by have := s2.y2; omega
  have q1 := sq_le (b := 1000) s1.x1 s1.x2
  have q2 := sq_le (b := 1000) s1.y1 s1.y2
  have q3 := msq (p.1 - a.1)
  have q4 := msq (p.2 - a.2)
  have b9 : -1152921504606846976 < (p.1 - a.1) * (p.1 - a.1) + (p.2 - a.2) * (p.2 - a.2) := by omega
  have b10 : (p.1 - a.1) * (p.1 - a.1) + (p.2 - a.2) * (p.2 - a.2) < 1152921504606846976 := by omega
  refine callD_pure0 rfl rfl ?_
  simp [m_corner_squares, run, exs, lvl_ex, lvl_ev, lvl_tst, exS, evS, evA, tstS, allT, evs, evo, bindP, List.lookup, ofString_inj, ofString_beq, subC_tup, subC_obj, subC_lst, binS, binI, getAt, place, small, most, upd, free, freeL, py, pyL, cmp_lt, cmp_le, cmp_gt, cmp_ge, cmp_eqi, cmp_nei, callN, biC, optI, k_len, k_range, k_abs, k_max, k_min, k_int, k_tuple, k_sum, k_zip, n_ahead, n_along, n_area, n_around, n_back, n_behind, n_below, n_big, n_blend, n_both_ends, n_bottom, n_cap, n_cell, n_centre, n_contour, n_contours, n_corner, n_corners, n_cutter, n_dashes, n_dot_now, n_dot_p, n_due, n_end, n_end_in, n_ends_in_dash, n_factor, n_first, n_found, n_gone, n_grain, n_half, n_here, n_inner, n_is_closed, n_join, n_joined, n_k, n_kind, n_later_p, n_left, n_length, n_lengths, n_limit, n_line, n_lines, n_lower, n_many, n_message, n_n, n_normal, n_one, n_other, n_pattern, n_piece, n_piece_k, n_pieces, n_place, n_place_k, n_places, n_quarter, n_right, n_root, n_script, n_second, n_self, n_share, n_sign, n_size, n_some, n_source, n_spot, n_spots, n_square, n_start, n_starts_in_dash, n_step, n_steps, n_style, n_things, n_top, n_turn, n_u, n_v, n_vector, n_way_now, n_whole, n_width, n_x, n_y, sub_vp0, sub_vp1, bind_vp, hk, cfl, fd_first, fd_second, bindT_name, bindT_tup, bindT_obj, names?, updL, b1, b2, b3, b4, b5, b6, b7, b8, b9, b10]

theorem root_c2 {l sq : Int} (h1 : -100000000 ≤ l) (h2 : l ≤ 100000000) (hlt : l * l < sq) : callD (lvl (tbl r) (n + 20)) d_is_at_least_root.1 [.int l, .int 1, .int sq] σ = some (.bool false, σ) := by
  have b1 : -1152921504606846976 < l := by omega
  have b2 : l < 1152921504606846976 := by omega
  refine callD_pure0 rfl rfl ?_
  have hn : ¬ sq ≤ l * l := by omega
  by_cases hl : l < 0
  · simp [d_is_at_least_root, run, exs, lvl_ex, lvl_ev, lvl_tst, exS, evS, evA, tstS, allT, evs, evo, bindP, List.lookup, ofString_inj, ofString_beq, subC_tup, subC_obj, subC_lst, binS, binI, getAt, place, small, most, upd, free, freeL, py, pyL, cmp_lt, cmp_le, cmp_gt, cmp_ge, cmp_eqi, cmp_nei, callN, biC, optI, k_len, k_range, k_abs, k_max, k_min, k_int, k_tuple, k_sum, k_zip, n_ahead, n_along, n_area, n_around, n_back, n_behind, n_below, n_big, n_blend, n_both_ends, n_bottom, n_cap, n_cell, n_centre, n_contour, n_contours, n_corner, n_corners, n_cutter, n_dashes, n_dot_now, n_dot_p, n_due, n_end, n_end_in, n_ends_in_dash, n_factor, n_first, n_found, n_gone, n_grain, n_half, n_here, n_inner, n_is_closed, n_join, n_joined, n_k, n_kind, n_later_p, n_left, n_length, n_lengths, n_limit, n_line, n_lines, n_lower, n_many, n_message, n_n, n_normal, n_one, n_other, n_pattern, n_piece, n_piece_k, n_pieces, n_place, n_place_k, n_places, n_quarter, n_right, n_root, n_script, n_second, n_self, n_share, n_sign, n_size, n_some, n_source, n_spot, n_spots, n_square, n_start, n_starts_in_dash, n_step, n_steps, n_style, n_things, n_top, n_turn, n_u, n_v, n_vector, n_way_now, n_whole, n_width, n_x, n_y, sub_vp0, sub_vp1, bind_vp, hl, b1, b2]
  · have hl' : 0 ≤ l := by omega
    simp [d_is_at_least_root, run, exs, lvl_ex, lvl_ev, lvl_tst, exS, evS, evA, tstS, allT, evs, evo, bindP, List.lookup, ofString_inj, ofString_beq, subC_tup, subC_obj, subC_lst, binS, binI, getAt, place, small, most, upd, free, freeL, py, pyL, cmp_lt, cmp_le, cmp_gt, cmp_ge, cmp_eqi, cmp_nei, callN, biC, optI, k_len, k_range, k_abs, k_max, k_min, k_int, k_tuple, k_sum, k_zip, n_ahead, n_along, n_area, n_around, n_back, n_behind, n_below, n_big, n_blend, n_both_ends, n_bottom, n_cap, n_cell, n_centre, n_contour, n_contours, n_corner, n_corners, n_cutter, n_dashes, n_dot_now, n_dot_p, n_due, n_end, n_end_in, n_ends_in_dash, n_factor, n_first, n_found, n_gone, n_grain, n_half, n_here, n_inner, n_is_closed, n_join, n_joined, n_k, n_kind, n_later_p, n_left, n_length, n_lengths, n_limit, n_line, n_lines, n_lower, n_many, n_message, n_n, n_normal, n_one, n_other, n_pattern, n_piece, n_piece_k, n_pieces, n_place, n_place_k, n_places, n_quarter, n_right, n_root, n_script, n_second, n_self, n_share, n_sign, n_size, n_some, n_source, n_spot, n_spots, n_square, n_start, n_starts_in_dash, n_step, n_steps, n_style, n_things, n_top, n_turn, n_u, n_v, n_vector, n_way_now, n_whole, n_width, n_x, n_y, sub_vp0, sub_vp1, bind_vp, hl, b1, b2, hn]
theorem lagrange {a p b : Pt} : strt a p b * strt a p b + turn3 a p b * turn3 a p b = ((p.1 - a.1) * (p.1 - a.1) + (p.2 - a.2) * (p.2 - a.2)) * ((b.1 - p.1) * (b.1 - p.1) + (b.2 - p.2) * (b.2 - p.2)) := by
  unfold strt turn3
  generalize p.1 - a.1 = x
  generalize p.2 - a.2 = y
  generalize b.1 - p.1 = u
  generalize b.2 - p.2 = v
  grind
theorem mul_bd {x y : Int} (x1 : -1000 ≤ x) (x2 : x ≤ 1000) (y1 : -1000 ≤ y) (y2 : y ≤ 1000) : -1000000 ≤ x * y ∧ x * y ≤ 1000000 := by
  have a := Int.mul_nonneg (a := 1000 - x) (b := 1000 + y) (by omega) (by omega)
  have b := Int.mul_nonneg (a := 1000 + x) (b := 1000 - y) (by omega) (by omega)
  have c := Int.mul_nonneg (a := 1000 - x) (b := 1000 - y) (by omega) (by omega)
  have d := Int.mul_nonneg (a := 1000 + x) (b := 1000 + y) (by omega) (by omega)
  constructor <;> grind
theorem within_c {a p b : Pt} {h : Int} {k : Nat} (s1 : Sd a p) (s2 : Sd p b) (ht : turn3 a p b ≠ 0) (hk : σ[k]? = some (.inst "Corner" (cfl a p b h))) : callD (lvl (tbl r) (n + 60)) d_is_within_limit.1 [.obj k, .tup [.int 1, .int 1]] σ = some (.bool false, σ) := by
  have e := lagrange (a := a) (p := p) (b := b)
  have pos : 0 < turn3 a p b * turn3 a p b := by
    rcases Int.lt_or_eq_of_le (msq (turn3 a p b)) with q | q
    · exact q
    · rcases Int.mul_eq_zero.mp q.symm with q | q <;> exact absurd q ht
  have m1 := mul_bd s1.x1 s1.x2 s2.x1 s2.x2
  have m2 := mul_bd s1.y1 s1.y2 s2.y1 s2.y2
  have b1 : -100000000 ≤ strt a p b := by unfold strt; omega
  have b2 : strt a p b ≤ 100000000 := by unfold strt; omega
  refine callD_pure0 rfl rfl ?_
  have hr := root_c2 (r := r) (σ := σ) (n := n + 38) b1 b2 (show strt a p b * strt a p b < ((p.1 - a.1) * (p.1 - a.1) + (p.2 - a.2) * (p.2 - a.2)) * ((b.1 - p.1) * (b.1 - p.1) + (b.2 - p.2) * (b.2 - p.2)) by omega)
  have hlook : (cfl a p b h).lookup (Str.ofString "squares") = none := by simp [cfl, List.lookup, ofString_beq]
  have hst : (cfl a p b h).lookup (Str.ofString "straight") = some (.int (strt a p b)) := by simp [cfl, List.lookup, ofString_beq]
  simp [d_is_within_limit, run, exs, lvl_ex, lvl_ev, lvl_tst, exS, evS, evA, tstS, allT, evs, evo, bindP, List.lookup, ofString_inj, ofString_beq, subC_tup, subC_obj, subC_lst, binS, binI, getAt, place, small, most, upd, free, freeL, py, pyL, cmp_lt, cmp_le, cmp_gt, cmp_ge, cmp_eqi, cmp_nei, callN, biC, optI, k_len, k_range, k_abs, k_max, k_min, k_int, k_tuple, k_sum, k_zip, n_ahead, n_along, n_area, n_around, n_back, n_behind, n_below, n_big, n_blend, n_both_ends, n_bottom, n_cap, n_cell, n_centre, n_contour, n_contours, n_corner, n_corners, n_cutter, n_dashes, n_dot_now, n_dot_p, n_due, n_end, n_end_in, n_ends_in_dash, n_factor, n_first, n_found, n_gone, n_grain, n_half, n_here, n_inner, n_is_closed, n_join, n_joined, n_k, n_kind, n_later_p, n_left, n_length, n_lengths, n_limit, n_line, n_lines, n_lower, n_many, n_message, n_n, n_normal, n_one, n_other, n_pattern, n_piece, n_piece_k, n_pieces, n_place, n_place_k, n_places, n_quarter, n_right, n_root, n_script, n_second, n_self, n_share, n_sign, n_size, n_some, n_source, n_spot, n_spots, n_square, n_start, n_starts_in_dash, n_step, n_steps, n_style, n_things, n_top, n_turn, n_u, n_v, n_vector, n_way_now, n_whole, n_width, n_x, n_y, sub_vp0, sub_vp1, bind_vp, hk, hlook, hst, fd_straight, bindT_name, bindT_tup, bindT_obj, names?, updL, methC, mi_squares, squares_c s1 s2 hk, k_is_at_least_root, hr]
end Mine
end
section
open PySem PySem.W PyProof.Rows PySem.Calls
set_option linter.unusedVariables false
set_option linter.unusedSimpArgs false
set_option maxRecDepth 100000
namespace Mine
variable {r : Nat → Option (List Int)} {T : Tbl} {F : Funs} {L : Loc} {σ : Sto} {n : Nat}

theorem lk_spot {a p b : Pt} {h : Int} : (cfl a p b h).lookup (Str.ofString "spot") = some (vp p) := by simp [cfl, List.lookup, ofString_beq]
theorem lk_one {a p b : Pt} {h : Int} : (cfl a p b h).lookup (Str.ofString "one") = some (vp (sg (turn3 a p b) (nrm a p h))) := by simp [cfl, List.lookup, ofString_beq]
theorem lk_other {a p b : Pt} {h : Int} : (cfl a p b h).lookup (Str.ofString "other") = some (vp (sg (turn3 a p b) (nrm p b h))) := by simp [cfl, List.lookup, ofString_beq]
theorem lk_turn {a p b : Pt} {h : Int} : (cfl a p b h).lookup (Str.ofString "turn") = some (.int (turn3 a p b)) := by simp [cfl, List.lookup, ofString_beq]
theorem lk_is {a p b : Pt} {h : Int} : (cfl a p b h).lookup (Str.ofString "is_straight") = none := by simp [cfl, List.lookup, ofString_beq]

theorem bevel_c {a p b : Pt} {h : Int} {k : Nat} (ht : turn3 a p b ≠ 0) (hk : σ[k]? = some (.inst "Corner" (cfl a p b h))) : callD (lvl (tbl r) (n + 30)) d_bevel_spots.1 [.obj k] σ = some (vps (crn a p b h), σ) := by
  refine callD_pure0 rfl free_vps ?_
  have e : crn a p b h = [p, (p.1 + (sg (turn3 a p b) (nrm a p h)).1, p.2 + (sg (turn3 a p b) (nrm a p h)).2), (p.1 + (sg (turn3 a p b) (nrm p b h)).1, p.2 + (sg (turn3 a p b) (nrm p b h)).2)] := by
    unfold crn sg
    rw [if_neg ht]
    by_cases hp : turn3 a p b > 0
    · rw [if_pos hp, if_neg (by omega), if_neg (by omega)]
      simp
    · rw [if_neg hp, if_pos (by omega), if_pos (by omega)]
      simp
  rw [e]
  simp [d_bevel_spots, run, exs, lvl_ex, lvl_ev, lvl_tst, exS, evS, evA, tstS, allT, evs, evo, bindP, List.lookup, ofString_inj, ofString_beq, subC_tup, subC_obj, subC_lst, binS, binI, getAt, place, small, most, upd, free, freeL, py, pyL, cmp_lt, cmp_le, cmp_gt, cmp_ge, cmp_eqi, cmp_nei, callN, biC, optI, k_len, k_range, k_abs, k_max, k_min, k_int, k_tuple, k_sum, k_zip, n_ahead, n_along, n_area, n_around, n_back, n_behind, n_below, n_big, n_blend, n_both_ends, n_bottom, n_cap, n_cell, n_centre, n_contour, n_contours, n_corner, n_corners, n_cutter, n_dashes, n_dot_now, n_dot_p, n_due, n_end, n_end_in, n_ends_in_dash, n_factor, n_first, n_found, n_gone, n_grain, n_half, n_here, n_inner, n_is_closed, n_join, n_joined, n_k, n_kind, n_later_p, n_left, n_length, n_lengths, n_limit, n_line, n_lines, n_lower, n_many, n_message, n_n, n_normal, n_one, n_other, n_pattern, n_piece, n_piece_k, n_pieces, n_place, n_place_k, n_places, n_quarter, n_right, n_root, n_script, n_second, n_self, n_share, n_sign, n_size, n_some, n_source, n_spot, n_spots, n_square, n_start, n_starts_in_dash, n_step, n_steps, n_style, n_things, n_top, n_turn, n_u, n_v, n_vector, n_way_now, n_whole, n_width, n_x, n_y, sub_vp0, sub_vp1, bind_vp, bindT_name, bindT_tup, bindT_obj, names?, updL, hk, lk_spot, lk_one, lk_other, fd_spot, fd_one, fd_other, k_moved_by, moved_c, vps]

def jnV (jn : Bool) : V := .str (if jn then "miter" else "bevel")
theorem join_c {jn : Bool} {a p b : Pt} {h st : Int} (s1 : Sd a p) (s2 : Sd p b) (hh : Hf h) : callD (lvl (tbl r) (n + 100)) d_join_spots.1 [jnV jn, vp a, vp p, vp b, .int h, .tup [.int 1, .int 1], .int st] σ = some (vps (crn a p b h), σ) := by
  refine callD_pure (τ := [.inst "Corner" (cfl a p b h)]) rfl free_vps ?_
  have hk : (σ ++ [Ob.inst "Corner" (cfl a p b h)])[σ.length]? = some (.inst "Corner" (cfl a p b h)) := by rw [gl0]; rfl
  have hs := fun m => is_straight_c (r := r) (n := m) hk
  by_cases ht : turn3 a p b = 0
  · have e : crn a p b h = [] := if_pos ht
    rw [e]
    by_cases hq : strt a p b > 0
    · simp [d_join_spots, run, exs, lvl_ex, lvl_ev, lvl_tst, exS, evS, evA, tstS, allT, evs, evo, bindP, List.lookup, ofString_inj, ofString_beq, subC_tup, subC_obj, subC_lst, binS, binI, getAt, place, small, most, upd, free, freeL, py, pyL, cmp_lt, cmp_le, cmp_gt, cmp_ge, cmp_eqi, cmp_nei, callN, biC, optI, k_len, k_range, k_abs, k_max, k_min, k_int, k_tuple, k_sum, k_zip, n_ahead, n_along, n_area, n_around, n_back, n_behind, n_below, n_big, n_blend, n_both_ends, n_bottom, n_cap, n_cell, n_centre, n_contour, n_contours, n_corner, n_corners, n_cutter, n_dashes, n_dot_now, n_dot_p, n_due, n_end, n_end_in, n_ends_in_dash, n_factor, n_first, n_found, n_gone, n_grain, n_half, n_here, n_inner, n_is_closed, n_join, n_joined, n_k, n_kind, n_later_p, n_left, n_length, n_lengths, n_limit, n_line, n_lines, n_lower, n_many, n_message, n_n, n_normal, n_one, n_other, n_pattern, n_piece, n_piece_k, n_pieces, n_place, n_place_k, n_places, n_quarter, n_right, n_root, n_script, n_second, n_self, n_share, n_sign, n_size, n_some, n_source, n_spot, n_spots, n_square, n_start, n_starts_in_dash, n_step, n_steps, n_style, n_things, n_top, n_turn, n_u, n_v, n_vector, n_way_now, n_whole, n_width, n_x, n_y, sub_vp0, sub_vp1, bind_vp, bindT_name, bindT_tup, bindT_obj, names?, updL, jnV, k_Corner, corner_c s1 s2 hh, methC, lk_is, mi_straight, hs, ht, hq, vps]
    · cases jn <;> simp [d_join_spots, run, exs, lvl_ex, lvl_ev, lvl_tst, exS, evS, evA, tstS, allT, evs, evo, bindP, List.lookup, ofString_inj, ofString_beq, subC_tup, subC_obj, subC_lst, binS, binI, getAt, place, small, most, upd, free, freeL, py, pyL, cmp_lt, cmp_le, cmp_gt, cmp_ge, cmp_eqi, cmp_nei, callN, biC, optI, k_len, k_range, k_abs, k_max, k_min, k_int, k_tuple, k_sum, k_zip, n_ahead, n_along, n_area, n_around, n_back, n_behind, n_below, n_big, n_blend, n_both_ends, n_bottom, n_cap, n_cell, n_centre, n_contour, n_contours, n_corner, n_corners, n_cutter, n_dashes, n_dot_now, n_dot_p, n_due, n_end, n_end_in, n_ends_in_dash, n_factor, n_first, n_found, n_gone, n_grain, n_half, n_here, n_inner, n_is_closed, n_join, n_joined, n_k, n_kind, n_later_p, n_left, n_length, n_lengths, n_limit, n_line, n_lines, n_lower, n_many, n_message, n_n, n_normal, n_one, n_other, n_pattern, n_piece, n_piece_k, n_pieces, n_place, n_place_k, n_places, n_quarter, n_right, n_root, n_script, n_second, n_self, n_share, n_sign, n_size, n_some, n_source, n_spot, n_spots, n_square, n_start, n_starts_in_dash, n_step, n_steps, n_style, n_things, n_top, n_turn, n_u, n_v, n_vector, n_way_now, n_whole, n_width, n_x, n_y, sub_vp0, sub_vp1, bind_vp, bindT_name, bindT_tup, bindT_obj, names?, updL, jnV, k_Corner, corner_c s1 s2 hh, methC, lk_is, lk_turn, fd_turn, mi_straight, hs, ht, hq, vps, s_vr, s_mr]
  · have hw := fun m => within_c (r := r) (n := m) s1 s2 ht hk
    have hb := fun m => bevel_c (r := r) (n := m) ht hk
    cases jn <;> simp [d_join_spots, run, exs, lvl_ex, lvl_ev, lvl_tst, exS, evS, evA, tstS, allT, evs, evo, bindP, List.lookup, ofString_inj, ofString_beq, subC_tup, subC_obj, subC_lst, binS, binI, getAt, place, small, most, upd, free, freeL, py, pyL, cmp_lt, cmp_le, cmp_gt, cmp_ge, cmp_eqi, cmp_nei, callN, biC, optI, k_len, k_range, k_abs, k_max, k_min, k_int, k_tuple, k_sum, k_zip, n_ahead, n_along, n_area, n_around, n_back, n_behind, n_below, n_big, n_blend, n_both_ends, n_bottom, n_cap, n_cell, n_centre, n_contour, n_contours, n_corner, n_corners, n_cutter, n_dashes, n_dot_now, n_dot_p, n_due, n_end, n_end_in, n_ends_in_dash, n_factor, n_first, n_found, n_gone, n_grain, n_half, n_here, n_inner, n_is_closed, n_join, n_joined, n_k, n_kind, n_later_p, n_left, n_length, n_lengths, n_limit, n_line, n_lines, n_lower, n_many, n_message, n_n, n_normal, n_one, n_other, n_pattern, n_piece, n_piece_k, n_pieces, n_place, n_place_k, n_places, n_quarter, n_right, n_root, n_script, n_second, n_self, n_share, n_sign, n_size, n_some, n_source, n_spot, n_spots, n_square, n_start, n_starts_in_dash, n_step, n_steps, n_style, n_things, n_top, n_turn, n_u, n_v, n_vector, n_way_now, n_whole, n_width, n_x, n_y, sub_vp0, sub_vp1, bind_vp, bindT_name, bindT_tup, bindT_obj, names?, updL, jnV, k_Corner, corner_c s1 s2 hh, methC, lk_is, lk_turn, fd_turn, mi_straight, hs, ht, s_vr, s_mr, s_vm, s_mm, k_is_within_limit, k_bevel_spots, hw, hb]
end Mine
end
section
open PySem PySem.W PyProof.Rows PySem.Calls
set_option linter.unusedVariables false
set_option linter.unusedSimpArgs false
set_option maxRecDepth 100000
namespace Mine
variable {r : Nat → Option (List Int)} {T : Tbl} {F : Funs} {L : Loc} {σ : Sto} {n : Nat}

/-- like neighbours fall together -/
def ddS (acc : List Pt) (p : Pt) : List Pt := if acc = [] ∨ acc.getLast? ≠ some p then acc ++ [p] else acc
def dd (l : List Pt) : List Pt := l.foldl ddS []
/-- the end goes where it is the start -/
def stripF : Nat → List Pt → List Pt
  | 0, l => l
  | m + 1, l => if 1 < l.length ∧ l.getLast? = l.head? then stripF m l.dropLast else l
def strip (l : List Pt) : List Pt := stripF l.length l
def pln (c : Bool) (l : List Pt) : List Pt := if c then strip (dd l) else dd l

theorem whileL_of {t : Loc → Sto → Option (Bool × Sto)} {f : Loc → Sto → Option (Fl × Loc × Sto)} {N : Nat} {o : Option (Fl × Loc × Sto)} (hw : whileL t f N L σ = o) (I : Nat → Loc → Sto → Prop) (Post : Loc → Sto → Prop)
    (step : ∀ m L σ, I m L σ → (∃ σ1, t L σ = some (false, σ1) ∧ Post L σ1) ∨ (∃ m' σ1 L2 σ2, m = m' + 1 ∧ t L σ = some (true, σ1) ∧ f L σ1 = some (.next, L2, σ2) ∧ I m' L2 σ2)) {m0 : Nat} (h0 : I m0 L σ) (hN : m0 < N) : ∃ L' σ', o = some (.next, L', σ') ∧ Post L' σ' := by
  have key : ∀ (N m : Nat) (L : Loc) (σ : Sto), I m L σ → m < N → ∃ L' σ', whileL t f N L σ = some (.next, L', σ') ∧ Post L' σ' := by
    intro N
    induction N with
    | zero => intro m L σ _ h; omega
    | succ N ih =>
      intro m L σ hI hm
      rcases step m L σ hI with ⟨σ1, e1, hP⟩ | ⟨m', σ1, L2, σ2, rfl, e1, e2, hI'⟩
      · exact ⟨L, σ1, by unfold whileL; rw [e1], hP⟩
      · obtain ⟨L3, σ3, e3, hP⟩ := ih m' L2 σ2 hI' (by omega)
        exact ⟨L3, σ3, by unfold whileL; rw [e1]; dsimp only; rw [e2]; exact e3, hP⟩
  obtain ⟨L', σ', e, hP⟩ := key N m0 L σ h0 hN
  exact ⟨L', σ', hw ▸ e, hP⟩

theorem sub_last {k : Nat} {l : List V} {v : V} (h : σ[k]? = some (.list l)) (hv : l.getLast? = some v) : subC T σ (.obj k) (.int (-1)) = some v := by
  have hl : l ≠ [] := by intro e; rw [e] at hv; cases hv
  have hp : 0 < l.length := List.length_pos_iff.mpr hl
  rw [subC_obj, h]
  dsimp only
  rw [if_pos (by decide)]
  unfold getAt place
  rw [if_neg (by decide), if_pos (by omega)]
  show l[((-1 : Int) + l.length).toNat]? = _
  rw [show ((-1 : Int) + l.length).toNat = l.length - 1 by omega, ← List.getLast?_eq_getElem?]
  exact hv
theorem sub_at {k j : Nat} {l : List V} {v : V} (h : σ[k]? = some (.list l)) (hv : l[j]? = some v) (hj : j < 1000000) : subC T σ (.obj k) (.int j) = some v := by
  have hlt := (List.getElem?_eq_some_iff.mp hv).1
  rw [subC_obj, h]
  dsimp only
  rw [if_pos (by simp [small]; omega)]
  unfold getAt place
  rw [if_pos (by omega), if_pos (by omega)]
  show l[((j : Int)).toNat]? = _
  rw [Int.toNat_natCast]; exact hv
theorem sub_0 {k : Nat} {l : List V} {v : V} (h : σ[k]? = some (.list l)) (hv : l.head? = some v) : subC T σ (.obj k) (.int 0) = some v := by
  have := sub_at (T := T) (j := 0) h (by rw [← List.head?_eq_getElem?]; exact hv) (by decide)
  simpa using this
theorem last_map {l : List Pt} : (l.map vp).getLast? = l.getLast?.map vp := by rw [List.getLast?_map]
theorem vp_inj {p q : Pt} (h : vp p = vp q) : p = q := by
  unfold vp at h
  injection h with h
  injection h with h1 h
  injection h with h2 h
  injection h1 with h1
  injection h2 with h2
  exact Prod.ext h1 h2

theorem vps_inj {l m : List Pt} (h : l.map vp = m.map vp) : l = m := by
  induction l generalizing m with
  | nil => cases m with
    | nil => rfl
    | cons => cases h
  | cons p l ih => cases m with
    | nil => cases h
    | cons q m =>
      rw [List.map_cons, List.map_cons] at h
      injection h with h1 h2
      rw [vp_inj h1, ih h2]

theorem plain_line_c {c : Bool} {l : List Pt} (hl : l.length ≤ 1000) (hn : l.length < n + 50) : ∃ k σ', callD (lvl (tbl r) (n + 60)) d_plain_line.1 [.tup [vps l, .bool c]] σ = some (.tup [.obj k, .bool (c && decide (1 < (pln c l).length))], σ') ∧ σ'.take σ.length = σ ∧ σ.length ≤ k ∧ σ'[k]? = some (.list ((pln c l).map vp)) := by
  suffices hs : ∃ k σ', run (lvl (tbl r) (n + 60)) d_plain_line.1 [.tup [vps l, .bool c]] σ = some (.tup [.obj k, .bool (c && decide (1 < (pln c l).length))], σ') ∧ σ'.take σ.length = σ ∧ σ.length ≤ k ∧ σ'[k]? = some (.list ((pln c l).map vp)) by
    obtain ⟨k, σ', h1, h2, h3, h4⟩ := hs
    refine ⟨k, σ', ?_, h2, h3, h4⟩
    rw [callD_run rfl h1]
    unfold gc
    rw [if_pos h2, if_neg (by simp [free, freeL])]
  have hl' : l.length ≤ 1000000 := by omega
  simp [d_plain_line, run, exs, lvl_ex, lvl_ev, lvl_tst, exS, evS, evA, tstS, allT, evs, evo, bindP, List.lookup, ofString_inj, ofString_beq, subC_tup, subC_lst, binS, binI, small, most, upd, free, freeL, py, pyL, cmp_lt, cmp_le, cmp_gt, cmp_ge, cmp_eqi, cmp_nei, callN, biC, optI, k_len, k_range, k_abs, k_max, k_min, k_int, k_tuple, k_sum, k_zip, n_ahead, n_along, n_area, n_around, n_back, n_behind, n_below, n_big, n_blend, n_both_ends, n_bottom, n_cap, n_cell, n_centre, n_contour, n_contours, n_corner, n_corners, n_cutter, n_dashes, n_dot_now, n_dot_p, n_due, n_end, n_end_in, n_ends_in_dash, n_factor, n_first, n_found, n_gone, n_grain, n_half, n_here, n_inner, n_is_closed, n_join, n_joined, n_k, n_kind, n_later_p, n_left, n_length, n_lengths, n_limit, n_line, n_lines, n_lower, n_many, n_message, n_n, n_normal, n_one, n_other, n_pattern, n_piece, n_piece_k, n_pieces, n_place, n_place_k, n_places, n_quarter, n_right, n_root, n_script, n_second, n_self, n_share, n_sign, n_size, n_some, n_source, n_spot, n_spots, n_square, n_start, n_starts_in_dash, n_step, n_steps, n_style, n_things, n_top, n_turn, n_u, n_v, n_vector, n_way_now, n_whole, n_width, n_x, n_y, sub_vp0, sub_vp1, bind_vp, bindT_name, bindT_tup, bindT_obj, names?, updL, vps, items, hl']
  generalize hw : forL _ _ _ _ _ = o
  rcases forL_of hw (fun done L st => ∃ dn : List Pt, done = dn.map vp ∧ L "found" = some (.obj σ.length) ∧ L "is_closed" = some (.bool c) ∧ st.take σ.length = σ ∧ st[σ.length]? = some (.list ((dd dn).map vp)) ∧ (dd dn).length ≤ dn.length) (fun done L st hI => by
      rw [still_one]
      simp [items, vps, most, hl']) (fun done v rest L st hall hI => by
      obtain ⟨dn, rfl, i1, i2, i3, i4, i5⟩ := hI
      obtain ⟨p, rfl⟩ : ∃ p, v = vp p := by
        have hm : v ∈ l.map vp := by rw [hall]; simp
        obtain ⟨p, _, e⟩ := List.mem_map.mp hm
        exact ⟨p, e.symm⟩
      have k1 : σ.length < st.length := lt_of i4
      have hdn : dn.length < 1000 := by
        have := congrArg List.length hall
        simp at this; omega
      have hc : cmpS .Eq (st ++ [.list []]) (.obj σ.length) (.obj st.length) = some (decide (dd dn = [])) := cmp_emp (app_l i4) (by rw [gl0]; rfl)
      have hsz : (dd dn).length < 1000000 := by omega
      have e4 : dd (dn ++ [p]) = ddS (dd dn) p := by unfold dd; rw [List.foldl_append]; rfl
      have fin : ∀ {st' : Sto}, st' = (st ++ [Ob.list []]).set σ.length (.list ((dd dn ++ [p]).map vp)) → dd (dn ++ [p]) = dd dn ++ [p] → st'.take σ.length = σ ∧ st'[σ.length]? = some (.list ((dd (dn ++ [p])).map vp)) ∧ (dd (dn ++ [p])).length ≤ (dn ++ [p]).length := by
        rintro st' rfl e
        refine ⟨take_set (take_app i3) (Nat.le_refl _), ?_, ?_⟩
        · rw [set_self (app_l i4), e]
        · rw [e, List.length_append, List.length_append]; simp; omega
      rcases hlast : (dd dn).getLast? with _ | q
      · have he : dd dn = [] := List.getLast?_eq_none_iff.mp hlast
        simp [run, exs, lvl_ex, lvl_ev, lvl_tst, exS, evS, evA, tstS, allT, evs, evo, bindP, List.lookup, ofString_inj, ofString_beq, subC_tup, subC_lst, binS, binI, small, most, upd, free, freeL, py, pyL, cmp_lt, cmp_le, cmp_gt, cmp_ge, cmp_eqi, cmp_nei, callN, biC, optI, k_len, k_range, k_abs, k_max, k_min, k_int, k_tuple, k_sum, k_zip, n_ahead, n_along, n_area, n_around, n_back, n_behind, n_below, n_big, n_blend, n_both_ends, n_bottom, n_cap, n_cell, n_centre, n_contour, n_contours, n_corner, n_corners, n_cutter, n_dashes, n_dot_now, n_dot_p, n_due, n_end, n_end_in, n_ends_in_dash, n_factor, n_first, n_found, n_gone, n_grain, n_half, n_here, n_inner, n_is_closed, n_join, n_joined, n_k, n_kind, n_later_p, n_left, n_length, n_lengths, n_limit, n_line, n_lines, n_lower, n_many, n_message, n_n, n_normal, n_one, n_other, n_pattern, n_piece, n_piece_k, n_pieces, n_place, n_place_k, n_places, n_quarter, n_right, n_root, n_script, n_second, n_self, n_share, n_sign, n_size, n_some, n_source, n_spot, n_spots, n_square, n_start, n_starts_in_dash, n_step, n_steps, n_style, n_things, n_top, n_turn, n_u, n_v, n_vector, n_way_now, n_whole, n_width, n_x, n_y, sub_vp0, sub_vp1, bind_vp, i1, i2, hc, he, methC, listM, List.getElem?_append_left k1, i4]
        refine ⟨_, _, ⟨rfl, rfl⟩, dn ++ [p], by simp, by simp [upd, ofString_inj, i1], by simp [upd, ofString_inj, i2], ?_⟩
        exact fin (by rw [he]; rfl) (by rw [e4]; unfold ddS; rw [if_pos (.inl he)])
      · have he : ¬ dd dn = [] := by intro e; rw [e] at hlast; cases hlast
        have hs : subC (tbl r) (st ++ [.list []]) (.obj σ.length) (.int (-1)) = some (vp q) := sub_last (app_l i4) (by rw [last_map, hlast]; rfl)
        by_cases hpq : p = q
        · subst hpq
          simp [run, exs, lvl_ex, lvl_ev, lvl_tst, exS, evS, evA, tstS, allT, evs, evo, bindP, List.lookup, ofString_inj, ofString_beq, subC_tup, subC_lst, binS, binI, small, most, upd, free, freeL, py, pyL, cmp_lt, cmp_le, cmp_gt, cmp_ge, cmp_eqi, cmp_nei, callN, biC, optI, k_len, k_range, k_abs, k_max, k_min, k_int, k_tuple, k_sum, k_zip, n_ahead, n_along, n_area, n_around, n_back, n_behind, n_below, n_big, n_blend, n_both_ends, n_bottom, n_cap, n_cell, n_centre, n_contour, n_contours, n_corner, n_corners, n_cutter, n_dashes, n_dot_now, n_dot_p, n_due, n_end, n_end_in, n_ends_in_dash, n_factor, n_first, n_found, n_gone, n_grain, n_half, n_here, n_inner, n_is_closed, n_join, n_joined, n_k, n_kind, n_later_p, n_left, n_length, n_lengths, n_limit, n_line, n_lines, n_lower, n_many, n_message, n_n, n_normal, n_one, n_other, n_pattern, n_piece, n_piece_k, n_pieces, n_place, n_place_k, n_places, n_quarter, n_right, n_root, n_script, n_second, n_self, n_share, n_sign, n_size, n_some, n_source, n_spot, n_spots, n_square, n_start, n_starts_in_dash, n_step, n_steps, n_style, n_things, n_top, n_turn, n_u, n_v, n_vector, n_way_now, n_whole, n_width, n_x, n_y, sub_vp0, sub_vp1, bind_vp, i1, i2, hc, he, hs, cmp_ptn]
          refine ⟨_, _, ⟨rfl, rfl⟩, dn ++ [p], by simp, by simp [upd, ofString_inj, i1], by simp [upd, ofString_inj, i2], take_app i3, ?_, ?_⟩
          · rw [app_l i4, e4]; unfold ddS; rw [if_neg (by simp [he, hlast])]
          · rw [e4]; unfold ddS; rw [if_neg (by simp [he, hlast]), List.length_append]; omega
        · simp [run, exs, lvl_ex, lvl_ev, lvl_tst, exS, evS, evA, tstS, allT, evs, evo, bindP, List.lookup, ofString_inj, ofString_beq, subC_tup, subC_lst, binS, binI, small, most, upd, free, freeL, py, pyL, cmp_lt, cmp_le, cmp_gt, cmp_ge, cmp_eqi, cmp_nei, callN, biC, optI, k_len, k_range, k_abs, k_max, k_min, k_int, k_tuple, k_sum, k_zip, n_ahead, n_along, n_area, n_around, n_back, n_behind, n_below, n_big, n_blend, n_both_ends, n_bottom, n_cap, n_cell, n_centre, n_contour, n_contours, n_corner, n_corners, n_cutter, n_dashes, n_dot_now, n_dot_p, n_due, n_end, n_end_in, n_ends_in_dash, n_factor, n_first, n_found, n_gone, n_grain, n_half, n_here, n_inner, n_is_closed, n_join, n_joined, n_k, n_kind, n_later_p, n_left, n_length, n_lengths, n_limit, n_line, n_lines, n_lower, n_many, n_message, n_n, n_normal, n_one, n_other, n_pattern, n_piece, n_piece_k, n_pieces, n_place, n_place_k, n_places, n_quarter, n_right, n_root, n_script, n_second, n_self, n_share, n_sign, n_size, n_some, n_source, n_spot, n_spots, n_square, n_start, n_starts_in_dash, n_step, n_steps, n_style, n_things, n_top, n_turn, n_u, n_v, n_vector, n_way_now, n_whole, n_width, n_x, n_y, sub_vp0, sub_vp1, bind_vp, i1, i2, hc, he, hs, cmp_ptn, hpq, methC, listM, List.getElem?_append_left k1, i4, hsz]
          refine ⟨_, _, ⟨rfl, rfl⟩, dn ++ [p], by simp, by simp [upd, ofString_inj, i1], by simp [upd, ofString_inj, i2], ?_⟩
          exact fin (by simp) (by rw [e4]; unfold ddS; rw [if_pos (.inr (by rw [hlast]; simpa using Ne.symm hpq))])) ⟨[], rfl, by simp [upd, ofString_inj], by simp [upd, ofString_inj], by simp, by rw [gl0]; rfl, by simp [dd]⟩ with ⟨L', σ', rfl, dn, e0, i1, i2, i3, i4, i5⟩
  have hdl : l = dn := vps_inj e0
  subst hdl
  have hnn : l.length < n + 57 := by omega
  dsimp only
  generalize hw2 : whileL _ _ _ _ _ = o2
  rcases whileL_of hw2 (fun m L st => L "found" = some (.obj σ.length) ∧ L "is_closed" = some (.bool c) ∧ st.take σ.length = σ ∧ ∃ cur : List Pt, st[σ.length]? = some (.list (cur.map vp)) ∧ cur.length = m ∧ m ≤ l.length ∧ pln c l = if c then stripF m cur else cur)
    (fun L st => L "found" = some (.obj σ.length) ∧ L "is_closed" = some (.bool c) ∧ st.take σ.length = σ ∧ st[σ.length]? = some (.list ((pln c l).map vp)) ∧ (pln c l).length ≤ l.length) (fun m L st hI => by
      obtain ⟨j1, j2, j3, cur, j4, rfl, j5, j6⟩ := hI
      cases c with
      | false =>
        refine .inl ⟨st, by simp [run, exs, lvl_ex, lvl_ev, lvl_tst, exS, evS, evA, tstS, allT, evs, evo, bindP, List.lookup, ofString_inj, ofString_beq, subC_tup, subC_lst, binS, binI, small, most, upd, free, freeL, py, pyL, cmp_lt, cmp_le, cmp_gt, cmp_ge, cmp_eqi, cmp_nei, callN, biC, optI, k_len, k_range, k_abs, k_max, k_min, k_int, k_tuple, k_sum, k_zip, n_ahead, n_along, n_area, n_around, n_back, n_behind, n_below, n_big, n_blend, n_both_ends, n_bottom, n_cap, n_cell, n_centre, n_contour, n_contours, n_corner, n_corners, n_cutter, n_dashes, n_dot_now, n_dot_p, n_due, n_end, n_end_in, n_ends_in_dash, n_factor, n_first, n_found, n_gone, n_grain, n_half, n_here, n_inner, n_is_closed, n_join, n_joined, n_k, n_kind, n_later_p, n_left, n_length, n_lengths, n_limit, n_line, n_lines, n_lower, n_many, n_message, n_n, n_normal, n_one, n_other, n_pattern, n_piece, n_piece_k, n_pieces, n_place, n_place_k, n_places, n_quarter, n_right, n_root, n_script, n_second, n_self, n_share, n_sign, n_size, n_some, n_source, n_spot, n_spots, n_square, n_start, n_starts_in_dash, n_step, n_steps, n_style, n_things, n_top, n_turn, n_u, n_v, n_vector, n_way_now, n_whole, n_width, n_x, n_y, sub_vp0, sub_vp1, bind_vp, j2], j1, j2, j3, ?_, ?_⟩
        · rw [j6]; exact j4
        · rw [j6]; exact j5
      | true =>
        rw [if_pos rfl] at j6
        have hcl : cur.length ≤ 1000000 := by omega
        by_cases h1 : 1 < cur.length
        · obtain ⟨q, hq⟩ : ∃ q, cur.getLast? = some q := by
            cases hh : cur.getLast? with
            | none => rw [List.getLast?_eq_none_iff.mp hh] at h1; simp at h1
            | some q => exact ⟨q, rfl⟩
          obtain ⟨u, hu⟩ : ∃ u, cur.head? = some u := by
            cases hh : cur.head? with
            | none => rw [List.head?_eq_none_iff.mp hh] at h1; simp at h1
            | some q => exact ⟨q, rfl⟩
          have s1 : subC (tbl r) st (.obj σ.length) (.int (-1)) = some (vp q) := sub_last j4 (by rw [last_map, hq]; rfl)
          have s2 : subC (tbl r) st (.obj σ.length) (.int 0) = some (vp u) := sub_0 j4 (by rw [List.head?_map, hu]; rfl)
          obtain ⟨m', hm'⟩ : ∃ m', cur.length = m' + 1 := ⟨cur.length - 1, by omega⟩
          have h1' : 1 < (cur.length : Int) := by omega
          by_cases hqu : q = u
          · subst hqu
            refine .inr ⟨m', st, L, st.set σ.length (.list (cur.dropLast.map vp)), hm', ?_, ?_, j1, j2, take_set j3 (Nat.le_refl _), cur.dropLast, set_self j4, by rw [List.length_dropLast]; omega, by omega, ?_⟩
            · simp [run, exs, lvl_ex, lvl_ev, lvl_tst, exS, evS, evA, tstS, allT, evs, evo, bindP, List.lookup, ofString_inj, ofString_beq, subC_tup, subC_lst, binS, binI, small, most, upd, free, freeL, py, pyL, cmp_lt, cmp_le, cmp_gt, cmp_ge, cmp_eqi, cmp_nei, callN, biC, optI, k_len, k_range, k_abs, k_max, k_min, k_int, k_tuple, k_sum, k_zip, n_ahead, n_along, n_area, n_around, n_back, n_behind, n_below, n_big, n_blend, n_both_ends, n_bottom, n_cap, n_cell, n_centre, n_contour, n_contours, n_corner, n_corners, n_cutter, n_dashes, n_dot_now, n_dot_p, n_due, n_end, n_end_in, n_ends_in_dash, n_factor, n_first, n_found, n_gone, n_grain, n_half, n_here, n_inner, n_is_closed, n_join, n_joined, n_k, n_kind, n_later_p, n_left, n_length, n_lengths, n_limit, n_line, n_lines, n_lower, n_many, n_message, n_n, n_normal, n_one, n_other, n_pattern, n_piece, n_piece_k, n_pieces, n_place, n_place_k, n_places, n_quarter, n_right, n_root, n_script, n_second, n_self, n_share, n_sign, n_size, n_some, n_source, n_spot, n_spots, n_square, n_start, n_starts_in_dash, n_step, n_steps, n_style, n_things, n_top, n_turn, n_u, n_v, n_vector, n_way_now, n_whole, n_width, n_x, n_y, sub_vp0, sub_vp1, bind_vp, j1, j2, items, j4, hcl, h1', s1, s2, cmp_pt]
            · simp [run, exs, lvl_ex, lvl_ev, lvl_tst, exS, evS, evA, tstS, allT, evs, evo, bindP, List.lookup, ofString_inj, ofString_beq, subC_tup, subC_lst, binS, binI, small, most, upd, free, freeL, py, pyL, cmp_lt, cmp_le, cmp_gt, cmp_ge, cmp_eqi, cmp_nei, callN, biC, optI, k_len, k_range, k_abs, k_max, k_min, k_int, k_tuple, k_sum, k_zip, n_ahead, n_along, n_area, n_around, n_back, n_behind, n_below, n_big, n_blend, n_both_ends, n_bottom, n_cap, n_cell, n_centre, n_contour, n_contours, n_corner, n_corners, n_cutter, n_dashes, n_dot_now, n_dot_p, n_due, n_end, n_end_in, n_ends_in_dash, n_factor, n_first, n_found, n_gone, n_grain, n_half, n_here, n_inner, n_is_closed, n_join, n_joined, n_k, n_kind, n_later_p, n_left, n_length, n_lengths, n_limit, n_line, n_lines, n_lower, n_many, n_message, n_n, n_normal, n_one, n_other, n_pattern, n_piece, n_piece_k, n_pieces, n_place, n_place_k, n_places, n_quarter, n_right, n_root, n_script, n_second, n_self, n_share, n_sign, n_size, n_some, n_source, n_spot, n_spots, n_square, n_start, n_starts_in_dash, n_step, n_steps, n_style, n_things, n_top, n_turn, n_u, n_v, n_vector, n_way_now, n_whole, n_width, n_x, n_y, sub_vp0, sub_vp1, bind_vp, j1, j2, methC, listM, j4, hq, hcl, free_vp]
            · rw [if_pos rfl, j6, hm', stripF, if_pos ⟨h1, by rw [hq, hu]⟩]
          · refine .inl ⟨st, ?_, j1, j2, j3, ?_, ?_⟩
            · simp [run, exs, lvl_ex, lvl_ev, lvl_tst, exS, evS, evA, tstS, allT, evs, evo, bindP, List.lookup, ofString_inj, ofString_beq, subC_tup, subC_lst, binS, binI, small, most, upd, free, freeL, py, pyL, cmp_lt, cmp_le, cmp_gt, cmp_ge, cmp_eqi, cmp_nei, callN, biC, optI, k_len, k_range, k_abs, k_max, k_min, k_int, k_tuple, k_sum, k_zip, n_ahead, n_along, n_area, n_around, n_back, n_behind, n_below, n_big, n_blend, n_both_ends, n_bottom, n_cap, n_cell, n_centre, n_contour, n_contours, n_corner, n_corners, n_cutter, n_dashes, n_dot_now, n_dot_p, n_due, n_end, n_end_in, n_ends_in_dash, n_factor, n_first, n_found, n_gone, n_grain, n_half, n_here, n_inner, n_is_closed, n_join, n_joined, n_k, n_kind, n_later_p, n_left, n_length, n_lengths, n_limit, n_line, n_lines, n_lower, n_many, n_message, n_n, n_normal, n_one, n_other, n_pattern, n_piece, n_piece_k, n_pieces, n_place, n_place_k, n_places, n_quarter, n_right, n_root, n_script, n_second, n_self, n_share, n_sign, n_size, n_some, n_source, n_spot, n_spots, n_square, n_start, n_starts_in_dash, n_step, n_steps, n_style, n_things, n_top, n_turn, n_u, n_v, n_vector, n_way_now, n_whole, n_width, n_x, n_y, sub_vp0, sub_vp1, bind_vp, j1, j2, items, j4, hcl, h1', s1, s2, cmp_pt, hqu]
            · rw [j6, hm', stripF, if_neg (by rw [hq, hu]; simp [hqu])]; exact j4
            · rw [j6, hm', stripF, if_neg (by rw [hq, hu]; simp [hqu])]; exact j5
        · have hst : stripF cur.length cur = cur := by
            cases hc : cur.length with
            | zero => rfl
            | succ m' => rw [stripF, if_neg (fun h => h1 h.1)]
          refine .inl ⟨st, ?_, j1, j2, j3, ?_, ?_⟩
          · have h1n : ¬ 1 < (cur.length : Int) := by omega
            simp [run, exs, lvl_ex, lvl_ev, lvl_tst, exS, evS, evA, tstS, allT, evs, evo, bindP, List.lookup, ofString_inj, ofString_beq, subC_tup, subC_lst, binS, binI, small, most, upd, free, freeL, py, pyL, cmp_lt, cmp_le, cmp_gt, cmp_ge, cmp_eqi, cmp_nei, callN, biC, optI, k_len, k_range, k_abs, k_max, k_min, k_int, k_tuple, k_sum, k_zip, n_ahead, n_along, n_area, n_around, n_back, n_behind, n_below, n_big, n_blend, n_both_ends, n_bottom, n_cap, n_cell, n_centre, n_contour, n_contours, n_corner, n_corners, n_cutter, n_dashes, n_dot_now, n_dot_p, n_due, n_end, n_end_in, n_ends_in_dash, n_factor, n_first, n_found, n_gone, n_grain, n_half, n_here, n_inner, n_is_closed, n_join, n_joined, n_k, n_kind, n_later_p, n_left, n_length, n_lengths, n_limit, n_line, n_lines, n_lower, n_many, n_message, n_n, n_normal, n_one, n_other, n_pattern, n_piece, n_piece_k, n_pieces, n_place, n_place_k, n_places, n_quarter, n_right, n_root, n_script, n_second, n_self, n_share, n_sign, n_size, n_some, n_source, n_spot, n_spots, n_square, n_start, n_starts_in_dash, n_step, n_steps, n_style, n_things, n_top, n_turn, n_u, n_v, n_vector, n_way_now, n_whole, n_width, n_x, n_y, sub_vp0, sub_vp1, bind_vp, j1, j2, items, j4, hcl, h1n]
          · rw [j6, hst]; exact j4
          · rw [j6, hst]; exact j5) ⟨i1, i2, i3, dd l, i4, rfl, i5, by unfold pln strip; cases c <;> rfl⟩ (by omega) with ⟨L2, σ2, rfl, j1, j2, j3, j4, j5⟩
  have hpl : (pln c l).length ≤ 1000000 := by omega
  have hk2 : σ.length ≤ σ2.length := Nat.le_of_lt (lt_of j4)
  cases c with
  | false =>
    simp [run, exs, lvl_ex, lvl_ev, lvl_tst, exS, evS, evA, tstS, allT, evs, evo, bindP, List.lookup, ofString_inj, ofString_beq, subC_tup, subC_lst, binS, binI, small, most, upd, free, freeL, py, pyL, cmp_lt, cmp_le, cmp_gt, cmp_ge, cmp_eqi, cmp_nei, callN, biC, optI, k_len, k_range, k_abs, k_max, k_min, k_int, k_tuple, k_sum, k_zip, n_ahead, n_along, n_area, n_around, n_back, n_behind, n_below, n_big, n_blend, n_both_ends, n_bottom, n_cap, n_cell, n_centre, n_contour, n_contours, n_corner, n_corners, n_cutter, n_dashes, n_dot_now, n_dot_p, n_due, n_end, n_end_in, n_ends_in_dash, n_factor, n_first, n_found, n_gone, n_grain, n_half, n_here, n_inner, n_is_closed, n_join, n_joined, n_k, n_kind, n_later_p, n_left, n_length, n_lengths, n_limit, n_line, n_lines, n_lower, n_many, n_message, n_n, n_normal, n_one, n_other, n_pattern, n_piece, n_piece_k, n_pieces, n_place, n_place_k, n_places, n_quarter, n_right, n_root, n_script, n_second, n_self, n_share, n_sign, n_size, n_some, n_source, n_spot, n_spots, n_square, n_start, n_starts_in_dash, n_step, n_steps, n_style, n_things, n_top, n_turn, n_u, n_v, n_vector, n_way_now, n_whole, n_width, n_x, n_y, sub_vp0, sub_vp1, bind_vp, j1, j2, items, j4, hpl]
    exact ⟨_, _, ⟨rfl, rfl⟩, j3, Nat.le_refl _, j4⟩
  | true =>
    simp [run, exs, lvl_ex, lvl_ev, lvl_tst, exS, evS, evA, tstS, allT, evs, evo, bindP, List.lookup, ofString_inj, ofString_beq, subC_tup, subC_lst, binS, binI, small, most, upd, free, freeL, py, pyL, cmp_lt, cmp_le, cmp_gt, cmp_ge, cmp_eqi, cmp_nei, callN, biC, optI, k_len, k_range, k_abs, k_max, k_min, k_int, k_tuple, k_sum, k_zip, n_ahead, n_along, n_area, n_around, n_back, n_behind, n_below, n_big, n_blend, n_both_ends, n_bottom, n_cap, n_cell, n_centre, n_contour, n_contours, n_corner, n_corners, n_cutter, n_dashes, n_dot_now, n_dot_p, n_due, n_end, n_end_in, n_ends_in_dash, n_factor, n_first, n_found, n_gone, n_grain, n_half, n_here, n_inner, n_is_closed, n_join, n_joined, n_k, n_kind, n_later_p, n_left, n_length, n_lengths, n_limit, n_line, n_lines, n_lower, n_many, n_message, n_n, n_normal, n_one, n_other, n_pattern, n_piece, n_piece_k, n_pieces, n_place, n_place_k, n_places, n_quarter, n_right, n_root, n_script, n_second, n_self, n_share, n_sign, n_size, n_some, n_source, n_spot, n_spots, n_square, n_start, n_starts_in_dash, n_step, n_steps, n_style, n_things, n_top, n_turn, n_u, n_v, n_vector, n_way_now, n_whole, n_width, n_x, n_y, sub_vp0, sub_vp1, bind_vp, j1, j2, items, j4, hpl]
    exact ⟨_, _, ⟨⟨rfl, by omega⟩, rfl⟩, j3, Nat.le_refl _, j4⟩
end Mine
end
section
open PySem PySem.W PyProof.Rows PySem.Calls
set_option linter.unusedVariables false
set_option linter.unusedSimpArgs false
set_option maxRecDepth 100000
namespace Mine
variable {r : Nat → Option (List Int)} {T : Tbl} {F : Funs} {L : Loc} {σ : Sto} {n : Nat}

def at0 (l : List Pt) (i : Nat) : Pt := l.getD i (0, 0)
theorem at0_get {l : List Pt} {i : Nat} (h : i < l.length) : (l.map vp)[i]? = some (vp (at0 l i)) := by
  rw [List.getElem?_map, List.getElem?_eq_getElem h]
  simp [at0, List.getD, List.getElem?_eq_getElem h]
def sides (l : List Pt) (h : Int) : List (List Pt) := (List.range (l.length - 1)).map fun i => quad (at0 l i) (at0 l (i + 1)) h
/-- neighbours are apart -/
def Apart (l : List Pt) : Prop := ∀ i, i + 1 < l.length → Sd (at0 l i) (at0 l (i + 1))

theorem side_pieces_c {k : Nat} {l : List Pt} {h : Int} (hk : σ[k]? = some (.list (l.map vp))) (ha : Apart l) (hl : l.length ≤ 1000) (hh : Hf h) : callD (lvl (tbl r) (n + 120)) d_side_pieces.1 [.obj k, .int h] σ = some (.obj σ.length, σ ++ [.list ((sides l h).map vps)]) := by
  have hl' : l.length ≤ 1000000 := by omega
  have b1 : -1152921504606846976 < (l.length : Int) - 1 := by omega
  have b2 : (l.length : Int) - 1 < 1152921504606846976 := by omega
  have b3 : (l.length : Int) - 1 ≤ 1000000 := by omega
  refine callD_list' rfl freeL_pcs ?_
  simp [d_side_pieces, run, exs, lvl_ex, lvl_ev, lvl_tst, exS, evS, evA, tstS, allT, evs, evo, bindP, List.lookup, ofString_inj, ofString_beq, subC_tup, subC_lst, binS, binI, small, most, upd, free, freeL, py, pyL, cmp_lt, cmp_le, cmp_gt, cmp_ge, cmp_eqi, cmp_nei, callN, biC, optI, k_len, k_range, k_abs, k_max, k_min, k_int, k_tuple, k_sum, k_zip, n_ahead, n_along, n_area, n_around, n_back, n_behind, n_below, n_big, n_blend, n_both_ends, n_bottom, n_cap, n_cell, n_centre, n_contour, n_contours, n_corner, n_corners, n_cutter, n_dashes, n_dot_now, n_dot_p, n_due, n_end, n_end_in, n_ends_in_dash, n_factor, n_first, n_found, n_gone, n_grain, n_half, n_here, n_inner, n_is_closed, n_join, n_joined, n_k, n_kind, n_later_p, n_left, n_length, n_lengths, n_limit, n_line, n_lines, n_lower, n_many, n_message, n_n, n_normal, n_one, n_other, n_pattern, n_piece, n_piece_k, n_pieces, n_place, n_place_k, n_places, n_quarter, n_right, n_root, n_script, n_second, n_self, n_share, n_sign, n_size, n_some, n_source, n_spot, n_spots, n_square, n_start, n_starts_in_dash, n_step, n_steps, n_style, n_things, n_top, n_turn, n_u, n_v, n_vector, n_way_now, n_whole, n_width, n_x, n_y, sub_vp0, sub_vp1, bind_vp, bindT_name, bindT_tup, bindT_obj, names?, updL, overE, items, hk, hl', b1, b2, b3]
  generalize hw : clauses _ _ _ _ _ _ _ _ = o
  have hc := clauses1_of (σ := σ) hw rfl rfl (fun _ => true) (fun v => match v with | .int i => vps (quad (at0 l i.toNat) (at0 l (i.toNat + 1)) h) | _ => .none) (fun l' => by rw [still_one]; simp [items, small, most, b1, b2, b3]) (fun v hv l' => by
    obtain ⟨i, hi, rfl⟩ := List.mem_map.mp hv
    have hi' := List.mem_range.mp hi
    have h1 : i + 1 < l.length := by omega
    have s1 : subC (tbl r) (σ ++ [.list l']) (.obj k) (.int (i : Nat)) = some (vp (at0 l i)) := sub_at (app_l hk) (at0_get (by omega)) (by omega)
    have s2 : subC (tbl r) (σ ++ [.list l']) (.obj k) (.int ((i : Int) + 1)) = some (vp (at0 l (i + 1))) := by
      have := sub_at (T := tbl r) (σ := σ ++ [.list l']) (app_l hk) (at0_get (l := l) (i := i + 1) h1) (by omega)
      simpa using this
    refine ⟨_, rfl, by simp [tests], fun _ => ?_⟩
    simp [hide, run, exs, lvl_ex, lvl_ev, lvl_tst, exS, evS, evA, tstS, allT, evs, evo, bindP, List.lookup, ofString_inj, ofString_beq, subC_tup, subC_lst, binS, binI, small, most, upd, free, freeL, py, pyL, cmp_lt, cmp_le, cmp_gt, cmp_ge, cmp_eqi, cmp_nei, callN, biC, optI, k_len, k_range, k_abs, k_max, k_min, k_int, k_tuple, k_sum, k_zip, n_ahead, n_along, n_area, n_around, n_back, n_behind, n_below, n_big, n_blend, n_both_ends, n_bottom, n_cap, n_cell, n_centre, n_contour, n_contours, n_corner, n_corners, n_cutter, n_dashes, n_dot_now, n_dot_p, n_due, n_end, n_end_in, n_ends_in_dash, n_factor, n_first, n_found, n_gone, n_grain, n_half, n_here, n_inner, n_is_closed, n_join, n_joined, n_k, n_kind, n_later_p, n_left, n_length, n_lengths, n_limit, n_line, n_lines, n_lower, n_many, n_message, n_n, n_normal, n_one, n_other, n_pattern, n_piece, n_piece_k, n_pieces, n_place, n_place_k, n_places, n_quarter, n_right, n_root, n_script, n_second, n_self, n_share, n_sign, n_size, n_some, n_source, n_spot, n_spots, n_square, n_start, n_starts_in_dash, n_step, n_steps, n_style, n_things, n_top, n_turn, n_u, n_v, n_vector, n_way_now, n_whole, n_width, n_x, n_y, sub_vp0, sub_vp1, bind_vp, s1, s2, k_parallel, parallel_c (ha i h1) hh]) (by simp [most]; omega)
  subst hc
  simp
  refine ⟨_, _, ⟨rfl, rfl⟩, by simp, by simp, ?_⟩
  rw [gl0]
  simp [sides]
  rw [List.filter_eq_self.mpr (fun _ _ => rfl), List.map_map]
  rfl

def vtri (t : Pt × Pt × Pt) : V := .tup [vp t.1, vp t.2.1, vp t.2.2]
/-- the corners of a line -/
def cors (c : Bool) (l : List Pt) : List (Pt × Pt × Pt) := if c then (List.range l.length).map fun i => (at0 l (if i = 0 then l.length - 1 else i - 1), at0 l i, at0 l ((i + 1) % l.length))
  else (List.range (l.length - 2)).map fun i => (at0 l i, at0 l (i + 1), at0 l (i + 2))
theorem freeL_tri {P : List (Pt × Pt × Pt)} : freeL (P.map vtri) = true := by
  induction P with
  | nil => rfl
  | cons p P ih => rw [List.map_cons, freeL, ih]; simp [vtri, free, freeL, free_vp]
theorem filter_tt {α : Type} {l : List α} : l.filter (fun _ => true) = l := List.filter_eq_self.mpr (fun _ _ => rfl)

theorem fmod_cast {i m : Nat} : (((i + 1) % m : Nat) : Int) = ((i : Int) + 1).fmod m := by
  rw [Int.fmod_eq_emod_of_nonneg _ (Int.natCast_nonneg m)]
  rw [Int.natCast_emod, Int.natCast_add]
  rfl
theorem corners_t {k : Nat} {l : List Pt} (hk : σ[k]? = some (.list (l.map vp))) (hl : l.length ≤ 1000) (hl2 : 2 ≤ l.length) : callD (lvl (tbl r) (n + 60)) d_corners_of.1 [.obj k, .bool true] σ = some (.obj σ.length, σ ++ [.list ((cors true l).map vtri)]) := by
  have hl' : l.length ≤ 1000000 := by omega
  obtain ⟨N, hN⟩ : ∃ N : Int, (l.length : Int) = N := ⟨_, rfl⟩
  have b1 : -1152921504606846976 < N := by omega
  have b2 : N < 1152921504606846976 := by omega
  have b3 : N - 1 ≤ 1000000 := by omega
  have b4 : N ≤ 1000000 := by omega
  have b5 : -1152921504606846976 < N - 1 := by omega
  have b6 : N - 1 < 1152921504606846976 := by omega
  have b7 : N - 1 - 1 ≤ 1000000 := by omega
  refine callD_list' rfl freeL_tri ?_
  simp [d_corners_of, run, exs, lvl_ex, lvl_ev, lvl_tst, exS, evS, evA, tstS, allT, evs, evo, bindP, List.lookup, ofString_inj, ofString_beq, subC_tup, subC_lst, binS, binI, small, most, upd, free, freeL, py, pyL, cmp_lt, cmp_le, cmp_gt, cmp_ge, cmp_eqi, cmp_nei, callN, biC, optI, k_len, k_range, k_abs, k_max, k_min, k_int, k_tuple, k_sum, k_zip, n_ahead, n_along, n_area, n_around, n_back, n_behind, n_below, n_big, n_blend, n_both_ends, n_bottom, n_cap, n_cell, n_centre, n_contour, n_contours, n_corner, n_corners, n_cutter, n_dashes, n_dot_now, n_dot_p, n_due, n_end, n_end_in, n_ends_in_dash, n_factor, n_first, n_found, n_gone, n_grain, n_half, n_here, n_inner, n_is_closed, n_join, n_joined, n_k, n_kind, n_later_p, n_left, n_length, n_lengths, n_limit, n_line, n_lines, n_lower, n_many, n_message, n_n, n_normal, n_one, n_other, n_pattern, n_piece, n_piece_k, n_pieces, n_place, n_place_k, n_places, n_quarter, n_right, n_root, n_script, n_second, n_self, n_share, n_sign, n_size, n_some, n_source, n_spot, n_spots, n_square, n_start, n_starts_in_dash, n_step, n_steps, n_style, n_things, n_top, n_turn, n_u, n_v, n_vector, n_way_now, n_whole, n_width, n_x, n_y, sub_vp0, sub_vp1, bind_vp, bindT_name, bindT_tup, bindT_obj, names?, updL, overE, items, hk, hl', hN, b1, b2, b4]
  generalize hw : clauses _ _ _ _ _ _ _ _ = o
  have hc := clauses1_of (σ := σ) hw rfl rfl (fun _ => true) (fun v => match v with | .int i => vtri (at0 l (if i.toNat = 0 then l.length - 1 else i.toNat - 1), at0 l i.toNat, at0 l ((i.toNat + 1) % l.length)) | _ => .none) (fun l' => by rw [still_one]; simp [items, small, most, b1, b2, b4]) (fun v hv l' => by
    obtain ⟨i, hi, rfl⟩ := List.mem_map.mp hv
    have hi' : i < l.length := by have := List.mem_range.mp hi; omega
    have hk' := app_l (l := [.list l']) hk
    have s1 : subC (tbl r) (σ ++ [.list l']) (.obj k) (.int (i : Nat)) = some (vp (at0 l i)) := sub_at hk' (at0_get (by omega)) (by omega)
    have s2 : subC (tbl r) (σ ++ [.list l']) (.obj k) (.int ((i : Int) - 1)) = some (vp (at0 l (if i = 0 then l.length - 1 else i - 1))) := by
      by_cases h0 : i = 0
      · subst h0
        rw [if_pos rfl, show (((0 : Nat) : Int) - 1) = -1 from by decide]
        refine sub_last hk' ?_
        rw [List.getLast?_eq_getElem?, List.length_map]
        exact at0_get (by omega)
      · rw [if_neg h0]
        have := sub_at (T := tbl r) (j := i - 1) hk' (at0_get (l := l) (by omega)) (by omega)
        rwa [show ((i - 1 : Nat) : Int) = (i : Int) - 1 by omega] at this
    have s3 : subC (tbl r) (σ ++ [.list l']) (.obj k) (.int (((i : Int) + 1).fmod N)) = some (vp (at0 l ((i + 1) % l.length))) := by
      have hlt : (i + 1) % l.length < l.length := Nat.mod_lt _ (by omega)
      have := sub_at (T := tbl r) (j := (i + 1) % l.length) hk' (at0_get (l := l) hlt) (by omega)
      rwa [fmod_cast, hN] at this
    have hz : ¬ N = 0 := by omega
    have hz' : ¬ l = [] := by intro e; rw [e] at hl2; simp at hl2
    refine ⟨_, rfl, by simp [tests], fun _ => ?_⟩
    simp [hide, run, exs, lvl_ex, lvl_ev, lvl_tst, exS, evS, evA, tstS, allT, evs, evo, bindP, List.lookup, ofString_inj, ofString_beq, subC_tup, subC_lst, binS, binI, small, most, upd, free, freeL, py, pyL, cmp_lt, cmp_le, cmp_gt, cmp_ge, cmp_eqi, cmp_nei, callN, biC, optI, k_len, k_range, k_abs, k_max, k_min, k_int, k_tuple, k_sum, k_zip, n_ahead, n_along, n_area, n_around, n_back, n_behind, n_below, n_big, n_blend, n_both_ends, n_bottom, n_cap, n_cell, n_centre, n_contour, n_contours, n_corner, n_corners, n_cutter, n_dashes, n_dot_now, n_dot_p, n_due, n_end, n_end_in, n_ends_in_dash, n_factor, n_first, n_found, n_gone, n_grain, n_half, n_here, n_inner, n_is_closed, n_join, n_joined, n_k, n_kind, n_later_p, n_left, n_length, n_lengths, n_limit, n_line, n_lines, n_lower, n_many, n_message, n_n, n_normal, n_one, n_other, n_pattern, n_piece, n_piece_k, n_pieces, n_place, n_place_k, n_places, n_quarter, n_right, n_root, n_script, n_second, n_self, n_share, n_sign, n_size, n_some, n_source, n_spot, n_spots, n_square, n_start, n_starts_in_dash, n_step, n_steps, n_style, n_things, n_top, n_turn, n_u, n_v, n_vector, n_way_now, n_whole, n_width, n_x, n_y, sub_vp0, sub_vp1, bind_vp, s1, s2, s3, hN, hz, hz', vtri]) (by simp [most]; omega)
  subst hc
  simp
  refine ⟨_, _, ⟨rfl, rfl⟩, by simp, by simp, ?_⟩
  rw [gl0, filter_tt, List.map_map]
  simp [cors, ← hN]

theorem corners_f {k : Nat} {l : List Pt} (hk : σ[k]? = some (.list (l.map vp))) (hl : l.length ≤ 1000) (hl2 : 2 ≤ l.length) : callD (lvl (tbl r) (n + 60)) d_corners_of.1 [.obj k, .bool false] σ = some (.obj σ.length, σ ++ [.list ((cors false l).map vtri)]) := by
  have hl' : l.length ≤ 1000000 := by omega
  have b1 : -1152921504606846976 < (l.length : Int) := by omega
  have b2 : (l.length : Int) < 1152921504606846976 := by omega
  have b3 : (l.length : Int) - 1 ≤ 1000000 := by omega
  have b4 : (l.length : Int) ≤ 1000000 := by omega
  have b5 : -1152921504606846976 < (l.length : Int) - 1 := by omega
  have b6 : (l.length : Int) - 1 < 1152921504606846976 := by omega
  have b7 : (l.length : Int) - 1 - 1 ≤ 1000000 := by omega
  refine callD_list' rfl freeL_tri ?_
  simp [d_corners_of, run, exs, lvl_ex, lvl_ev, lvl_tst, exS, evS, evA, tstS, allT, evs, evo, bindP, List.lookup, ofString_inj, ofString_beq, subC_tup, subC_lst, binS, binI, small, most, upd, free, freeL, py, pyL, cmp_lt, cmp_le, cmp_gt, cmp_ge, cmp_eqi, cmp_nei, callN, biC, optI, k_len, k_range, k_abs, k_max, k_min, k_int, k_tuple, k_sum, k_zip, n_ahead, n_along, n_area, n_around, n_back, n_behind, n_below, n_big, n_blend, n_both_ends, n_bottom, n_cap, n_cell, n_centre, n_contour, n_contours, n_corner, n_corners, n_cutter, n_dashes, n_dot_now, n_dot_p, n_due, n_end, n_end_in, n_ends_in_dash, n_factor, n_first, n_found, n_gone, n_grain, n_half, n_here, n_inner, n_is_closed, n_join, n_joined, n_k, n_kind, n_later_p, n_left, n_length, n_lengths, n_limit, n_line, n_lines, n_lower, n_many, n_message, n_n, n_normal, n_one, n_other, n_pattern, n_piece, n_piece_k, n_pieces, n_place, n_place_k, n_places, n_quarter, n_right, n_root, n_script, n_second, n_self, n_share, n_sign, n_size, n_some, n_source, n_spot, n_spots, n_square, n_start, n_starts_in_dash, n_step, n_steps, n_style, n_things, n_top, n_turn, n_u, n_v, n_vector, n_way_now, n_whole, n_width, n_x, n_y, sub_vp0, sub_vp1, bind_vp, bindT_name, bindT_tup, bindT_obj, names?, updL, overE, items, hk, hl', b1, b2, b4, b5, b6, b7]
  generalize hw : clauses _ _ _ _ _ _ _ _ = o
  have hc := clauses1_of (σ := σ) hw rfl rfl (fun _ => true) (fun v => match v with | .int i => vtri (at0 l (i.toNat - 1), at0 l i.toNat, at0 l (i.toNat + 1)) | _ => .none) (fun l' => by rw [still_one]; simp [items, small, most, b1, b2, b4, b5, b6, b7]) (fun v hv l' => by
    obtain ⟨i, hi, rfl⟩ := List.mem_map.mp hv
    have hi' : i < l.length - 2 := by have := List.mem_range.mp hi; omega
    have hk' := app_l (l := [.list l']) hk
    have s1 : subC (tbl r) (σ ++ [.list l']) (.obj k) (.int (1 + (i : Int))) = some (vp (at0 l (1 + i))) := by
      have := sub_at (T := tbl r) (j := 1 + i) hk' (at0_get (l := l) (by omega)) (by omega)
      rwa [show ((1 + i : Nat) : Int) = 1 + (i : Int) by omega] at this
    have s2 : subC (tbl r) (σ ++ [.list l']) (.obj k) (.int (1 + (i : Int) - 1)) = some (vp (at0 l i)) := by
      have := sub_at (T := tbl r) (j := i) hk' (at0_get (l := l) (by omega)) (by omega)
      rwa [show ((i : Nat) : Int) = 1 + (i : Int) - 1 by omega] at this
    have s3 : subC (tbl r) (σ ++ [.list l']) (.obj k) (.int (1 + (i : Int) + 1)) = some (vp (at0 l (1 + i + 1))) := by
      have := sub_at (T := tbl r) (j := 1 + i + 1) hk' (at0_get (l := l) (by omega)) (by omega)
      rwa [show ((1 + i + 1 : Nat) : Int) = 1 + (i : Int) + 1 by omega] at this
    have e1 : (1 + (i : Int)).toNat = 1 + i := by omega
    have e2 : 1 + i - 1 = i := by omega
    refine ⟨_, rfl, by simp [tests], fun _ => ?_⟩
    simp [hide, run, exs, lvl_ex, lvl_ev, lvl_tst, exS, evS, evA, tstS, allT, evs, evo, bindP, List.lookup, ofString_inj, ofString_beq, subC_tup, subC_lst, binS, binI, small, most, upd, free, freeL, py, pyL, cmp_lt, cmp_le, cmp_gt, cmp_ge, cmp_eqi, cmp_nei, callN, biC, optI, k_len, k_range, k_abs, k_max, k_min, k_int, k_tuple, k_sum, k_zip, n_ahead, n_along, n_area, n_around, n_back, n_behind, n_below, n_big, n_blend, n_both_ends, n_bottom, n_cap, n_cell, n_centre, n_contour, n_contours, n_corner, n_corners, n_cutter, n_dashes, n_dot_now, n_dot_p, n_due, n_end, n_end_in, n_ends_in_dash, n_factor, n_first, n_found, n_gone, n_grain, n_half, n_here, n_inner, n_is_closed, n_join, n_joined, n_k, n_kind, n_later_p, n_left, n_length, n_lengths, n_limit, n_line, n_lines, n_lower, n_many, n_message, n_n, n_normal, n_one, n_other, n_pattern, n_piece, n_piece_k, n_pieces, n_place, n_place_k, n_places, n_quarter, n_right, n_root, n_script, n_second, n_self, n_share, n_sign, n_size, n_some, n_source, n_spot, n_spots, n_square, n_start, n_starts_in_dash, n_step, n_steps, n_style, n_things, n_top, n_turn, n_u, n_v, n_vector, n_way_now, n_whole, n_width, n_x, n_y, sub_vp0, sub_vp1, bind_vp, s1, s2, s3, vtri, e1, e2]) (by simp [most]; omega)
  subst hc
  simp
  refine ⟨_, _, ⟨rfl, rfl⟩, by simp, by simp, ?_⟩
  rw [gl0, filter_tt, List.map_map]
  simp [cors]
  rw [show l.length - 1 - 1 = l.length - 2 by omega]
  apply List.map_congr_left
  intro i _
  show vtri (at0 l ((1 + (i : Int)).toNat - 1), at0 l (1 + (i : Int)).toNat, at0 l ((1 + (i : Int)).toNat + 1)) = vtri (at0 l i, at0 l (i + 1), at0 l (i + 2))
  rw [show (1 + (i : Int)).toNat = i + 1 by omega]
  rfl
end Mine
end
section
open PySem PySem.W PyProof.Rows PySem.Calls
set_option linter.unusedVariables false
set_option linter.unusedSimpArgs false
set_option maxRecDepth 100000
namespace Mine
variable {r : Nat → Option (List Int)} {T : Tbl} {F : Funs} {L : Loc} {σ : Sto} {n : Nat}

theorem run_list {α : Type} (l : List α) (a k : Nat) : ((List.range k).map (a + ·)).filterMap (l[·]?) = (l.drop a).take k := by
  have h := pick_run l.toArray a k
  rw [List.toList_toArray] at h
  rw [← h]
  simp
theorem sliceG_plain {α : Type} (l : List α) (lo hi : Option Int) : sliceG l lo hi none = (l.drop (lo.elim 0 (clipAt l.length))).take (hi.elim l.length (clipAt l.length) - lo.elim 0 (clipAt l.length)) := by
  unfold sliceG
  rw [sliceBounds_plain]
  simp only [sliceRange_one, run_list]
theorem slice_first {α : Type} (l : List α) : sliceG l none (some 1) none = l.take 1 := by
  rw [sliceG_plain]
  have e : clipAt l.length 1 = min 1 l.length := clipAt_nat l.length 1
  simp only [Option.elim, List.drop_zero, Nat.sub_zero, e]
  cases l with
  | nil => rfl
  | cons a l => rw [show min 1 (a :: l).length = 1 by simp]
theorem slice_tail {α : Type} (l : List α) : sliceG l (some 1) none none = l.drop 1 := by
  rw [sliceG_plain]
  have e : clipAt l.length 1 = min 1 l.length := clipAt_nat l.length 1
  simp only [Option.elim, e]
  cases l with
  | nil => rfl
  | cons a l => rw [show min 1 (a :: l).length = 1 by simp, List.take_of_length_le (by simp)]
theorem slice_init {α : Type} (l : List α) : sliceG l none (some (-1)) none = l.dropLast := by
  rw [sliceG_plain]
  have e : clipAt l.length (-1) = l.length - 1 := clipAt_neg l.length 1 (by decide)
  simp only [Option.elim, List.drop_zero, Nat.sub_zero, e]
  rw [List.dropLast_eq_take]
theorem slice_rev {α : Type} (l : List α) : sliceG l none none (some (-1)) = l.reverse := by
  unfold sliceG
  rw [krv_bounds]
  show (sliceRange ((l.length : Int) - 1) (-1) (-1)).filterMap (l[·]?) = _
  rw [krv_sliceRange, krv_range, List.filterMap_reverse]
  have := run_list l 0 l.length
  rw [List.drop_zero, List.take_of_length_le (Nat.le_refl _), show ((0 + ·) : Nat → Nat) = id from funext fun k => Nat.zero_add k, List.map_id] at this
  rw [this]

theorem mi_half : (tbl r).meth "Style" "half" = some m_style_half.1 := by kernel_rfl
theorem mi_steps : (tbl r).meth "Style" "steps" = some m_style_steps.1 := by kernel_rfl
theorem mi_style : (tbl r).meth "Style" "__init__" = some m_style_init.1 := by kernel_rfl
theorem df_style : (tbl r).dfl "Style" = [.str "miter", .str "butt", .tup [.int 4, .int 1], .tup [], .int 0] := by kernel_rfl
theorem fd_width : (tbl r).field "Style" "width" = true := by kernel_rfl
theorem fd_join : (tbl r).field "Style" "join" = true := by kernel_rfl
theorem fd_cap : (tbl r).field "Style" "cap" = true := by kernel_rfl
theorem fd_limit : (tbl r).field "Style" "limit" = true := by kernel_rfl
theorem fd_dashes : (tbl r).field "Style" "dashes" = true := by kernel_rfl
theorem fd_start : (tbl r).field "Style" "start" = true := by kernel_rfl
/-- a style's fields -/
def stl (w : Int) (jn kd : Bool) : List (Str × V) := [("width", .int w), ("join", jnV jn), ("cap", kdV kd), ("limit", .tup [.int 1, .int 1]), ("dashes", .tup []), ("start", .int 0)]
theorem ls_width {w : Int} {jn kd : Bool} : (stl w jn kd).lookup (Str.ofString "width") = some (.int w) := by simp [stl, List.lookup, ofString_beq]
theorem ls_join {w : Int} {jn kd : Bool} : (stl w jn kd).lookup (Str.ofString "join") = some (jnV jn) := by simp [stl, List.lookup, ofString_beq]
theorem ls_cap {w : Int} {jn kd : Bool} : (stl w jn kd).lookup (Str.ofString "cap") = some (kdV kd) := by simp [stl, List.lookup, ofString_beq]
theorem ls_limit {w : Int} {jn kd : Bool} : (stl w jn kd).lookup (Str.ofString "limit") = some (.tup [.int 1, .int 1]) := by simp [stl, List.lookup, ofString_beq]
theorem ls_dashes {w : Int} {jn kd : Bool} : (stl w jn kd).lookup (Str.ofString "dashes") = some (.tup []) := by simp [stl, List.lookup, ofString_beq]
theorem ls_start {w : Int} {jn kd : Bool} : (stl w jn kd).lookup (Str.ofString "start") = some (.int 0) := by simp [stl, List.lookup, ofString_beq]
theorem ls_half {w : Int} {jn kd : Bool} : (stl w jn kd).lookup (Str.ofString "half") = none := by simp [stl, List.lookup, ofString_beq]
theorem ls_steps {w : Int} {jn kd : Bool} : (stl w jn kd).lookup (Str.ofString "steps") = none := by simp [stl, List.lookup, ofString_beq]

theorem half_c {w : Int} {jn kd : Bool} {k : Nat} (hk : σ[k]? = some (.inst "Style" (stl w jn kd))) : callD (lvl (tbl r) (n + 20)) m_style_half.1 [.obj k] σ = some (.int (w.fdiv 2), σ) := by
  refine callD_pure0 rfl rfl ?_
  simp [m_style_half, run, exs, lvl_ex, lvl_ev, lvl_tst, exS, evS, evA, tstS, allT, evs, evo, bindP, List.lookup, ofString_inj, ofString_beq, subC_tup, subC_lst, binS, binI, small, most, upd, free, freeL, py, pyL, cmp_lt, cmp_le, cmp_gt, cmp_ge, cmp_eqi, cmp_nei, callN, biC, optI, k_len, k_range, k_abs, k_max, k_min, k_int, k_tuple, k_sum, k_zip, n_ahead, n_along, n_area, n_around, n_back, n_behind, n_below, n_big, n_blend, n_both_ends, n_bottom, n_cap, n_cell, n_centre, n_contour, n_contours, n_corner, n_corners, n_cutter, n_dashes, n_dot_now, n_dot_p, n_due, n_end, n_end_in, n_ends_in_dash, n_factor, n_first, n_found, n_gone, n_grain, n_half, n_here, n_inner, n_is_closed, n_join, n_joined, n_k, n_kind, n_later_p, n_left, n_length, n_lengths, n_limit, n_line, n_lines, n_lower, n_many, n_message, n_n, n_normal, n_one, n_other, n_pattern, n_piece, n_piece_k, n_pieces, n_place, n_place_k, n_places, n_quarter, n_right, n_root, n_script, n_second, n_self, n_share, n_sign, n_size, n_some, n_source, n_spot, n_spots, n_square, n_start, n_starts_in_dash, n_step, n_steps, n_style, n_things, n_top, n_turn, n_u, n_v, n_vector, n_way_now, n_whole, n_width, n_x, n_y, sub_vp0, sub_vp1, bind_vp, hk, ls_width, fd_width]

theorem style_c {w : Int} {jn kd : Bool} : mkC (tbl r) (lvl (tbl r) (n + 30)) "Style" [.int w, jnV jn, kdV kd, .tup [.int 1, .int 1]] σ = some (.obj σ.length, σ ++ [.inst "Style" (stl w jn kd)]) := by
  have key : ∃ L', exs (lvl (tbl r) (n + 30)).ex (bindP (m_style_init.1.params.args.map (·.arg)) [.obj σ.length, .int w, jnV jn, kdV kd, .tup [.int 1, .int 1], .tup [], .int 0]) (σ ++ [.inst "Style" []]) m_style_init.1.body = some (.next, L', σ ++ [.inst "Style" (stl w jn kd)]) := by
    simp [m_style_init, bindT_name, bindT_tup, bindT_obj, names?, updL, run, exs, lvl_ex, lvl_ev, lvl_tst, exS, evS, evA, tstS, allT, evs, evo, bindP, List.lookup, ofString_inj, ofString_beq, subC_tup, subC_lst, binS, binI, small, most, upd, free, freeL, py, pyL, cmp_lt, cmp_le, cmp_gt, cmp_ge, cmp_eqi, cmp_nei, callN, biC, optI, k_len, k_range, k_abs, k_max, k_min, k_int, k_tuple, k_sum, k_zip, n_ahead, n_along, n_area, n_around, n_back, n_behind, n_below, n_big, n_blend, n_both_ends, n_bottom, n_cap, n_cell, n_centre, n_contour, n_contours, n_corner, n_corners, n_cutter, n_dashes, n_dot_now, n_dot_p, n_due, n_end, n_end_in, n_ends_in_dash, n_factor, n_first, n_found, n_gone, n_grain, n_half, n_here, n_inner, n_is_closed, n_join, n_joined, n_k, n_kind, n_later_p, n_left, n_length, n_lengths, n_limit, n_line, n_lines, n_lower, n_many, n_message, n_n, n_normal, n_one, n_other, n_pattern, n_piece, n_piece_k, n_pieces, n_place, n_place_k, n_places, n_quarter, n_right, n_root, n_script, n_second, n_self, n_share, n_sign, n_size, n_some, n_source, n_spot, n_spots, n_square, n_start, n_starts_in_dash, n_step, n_steps, n_style, n_things, n_top, n_turn, n_u, n_v, n_vector, n_way_now, n_whole, n_width, n_x, n_y, sub_vp0, sub_vp1, bind_vp, putF, fd_width, fd_join, fd_cap, fd_limit, fd_dashes, fd_start, sl0, stl]
  obtain ⟨L', hL⟩ := key
  unfold mkC
  rw [mi_style, df_style]
  have hn : m_style_init.1.params.args.length = 7 := rfl
  simp [hn, hL]
  refine gc_inst (by simp) (Nat.le_refl _) (by rw [gl0]; rfl) ?_
  cases jn <;> cases kd <;> rfl

/-- corners that lie apart -/
def ApartC (C : List (Pt × Pt × Pt)) : Prop := ∀ t ∈ C, Sd t.1 t.2.1 ∧ Sd t.2.1 t.2.2
def crnT (h : Int) (t : Pt × Pt × Pt) : List Pt := crn t.1 t.2.1 t.2.2 h

theorem join_pieces_c {k s : Nat} {C : List (Pt × Pt × Pt)} {w : Int} {jn kd : Bool} {st : Int} (hk : σ[k]? = some (.list (C.map vtri))) (hs : σ[s]? = some (.inst "Style" (stl w jn kd))) (ha : ApartC C) (hl : C.length ≤ 1000) (hh : Hf (w.fdiv 2)) : callD (lvl (tbl r) (n + 150)) d_join_pieces.1 [.obj k, .obj s, .int st] σ = some (.obj σ.length, σ ++ [.list ((C.map (crnT (w.fdiv 2))).map vps)]) := by
  have hl' : C.length ≤ 1000000 := by omega
  refine callD_list' rfl freeL_pcs ?_
  simp [d_join_pieces, run, exs, lvl_ex, lvl_ev, lvl_tst, exS, evS, evA, tstS, allT, evs, evo, bindP, List.lookup, ofString_inj, ofString_beq, subC_tup, subC_lst, binS, binI, small, most, upd, free, freeL, py, pyL, cmp_lt, cmp_le, cmp_gt, cmp_ge, cmp_eqi, cmp_nei, callN, biC, optI, k_len, k_range, k_abs, k_max, k_min, k_int, k_tuple, k_sum, k_zip, n_ahead, n_along, n_area, n_around, n_back, n_behind, n_below, n_big, n_blend, n_both_ends, n_bottom, n_cap, n_cell, n_centre, n_contour, n_contours, n_corner, n_corners, n_cutter, n_dashes, n_dot_now, n_dot_p, n_due, n_end, n_end_in, n_ends_in_dash, n_factor, n_first, n_found, n_gone, n_grain, n_half, n_here, n_inner, n_is_closed, n_join, n_joined, n_k, n_kind, n_later_p, n_left, n_length, n_lengths, n_limit, n_line, n_lines, n_lower, n_many, n_message, n_n, n_normal, n_one, n_other, n_pattern, n_piece, n_piece_k, n_pieces, n_place, n_place_k, n_places, n_quarter, n_right, n_root, n_script, n_second, n_self, n_share, n_sign, n_size, n_some, n_source, n_spot, n_spots, n_square, n_start, n_starts_in_dash, n_step, n_steps, n_style, n_things, n_top, n_turn, n_u, n_v, n_vector, n_way_now, n_whole, n_width, n_x, n_y, sub_vp0, sub_vp1, bind_vp, bindT_name, bindT_tup, bindT_obj, names?, updL, overE, items, hk, hs, hl', methC, ls_half, mi_half, half_c hs]
  generalize hw : clauses _ _ _ _ _ _ _ _ = o
  have hc := clauses1_of (σ := σ) hw rfl rfl (fun _ => true) (fun v => match v with | .tup [.tup [.int a, .int b], .tup [.int c, .int d], .tup [.int e, .int f]] => vps (crn (a, b) (c, d) (e, f) (w.fdiv 2)) | _ => .none) (fun l' => by rw [still_one]; simp [items, app_l hk, hl', most]) (fun v hv l' => by
    obtain ⟨t, ht, rfl⟩ := List.mem_map.mp hv
    obtain ⟨s1, s2⟩ := ha t ht
    have hs' := app_l (l := [.list l']) hs
    refine ⟨_, bindT_tup, by simp [tests], fun _ => ?_⟩
    simp [hide, bindT_name, bindT_tup, bindT_obj, names?, updL, run, exs, lvl_ex, lvl_ev, lvl_tst, exS, evS, evA, tstS, allT, evs, evo, bindP, List.lookup, ofString_inj, ofString_beq, subC_tup, subC_lst, binS, binI, small, most, upd, free, freeL, py, pyL, cmp_lt, cmp_le, cmp_gt, cmp_ge, cmp_eqi, cmp_nei, callN, biC, optI, k_len, k_range, k_abs, k_max, k_min, k_int, k_tuple, k_sum, k_zip, n_ahead, n_along, n_area, n_around, n_back, n_behind, n_below, n_big, n_blend, n_both_ends, n_bottom, n_cap, n_cell, n_centre, n_contour, n_contours, n_corner, n_corners, n_cutter, n_dashes, n_dot_now, n_dot_p, n_due, n_end, n_end_in, n_ends_in_dash, n_factor, n_first, n_found, n_gone, n_grain, n_half, n_here, n_inner, n_is_closed, n_join, n_joined, n_k, n_kind, n_later_p, n_left, n_length, n_lengths, n_limit, n_line, n_lines, n_lower, n_many, n_message, n_n, n_normal, n_one, n_other, n_pattern, n_piece, n_piece_k, n_pieces, n_place, n_place_k, n_places, n_quarter, n_right, n_root, n_script, n_second, n_self, n_share, n_sign, n_size, n_some, n_source, n_spot, n_spots, n_square, n_start, n_starts_in_dash, n_step, n_steps, n_style, n_things, n_top, n_turn, n_u, n_v, n_vector, n_way_now, n_whole, n_width, n_x, n_y, sub_vp0, sub_vp1, bind_vp, hs', ls_join, ls_limit, fd_join, fd_limit, k_join_spots, join_c s1 s2 hh]
    rfl) (by simp [most]; omega)
  subst hc
  simp
  refine ⟨_, _, ⟨rfl, rfl⟩, by simp, by simp, ?_⟩
  rw [gl0, filter_tt]
  simp only [List.map_map]
  rfl
end Mine
end
section
open PySem PySem.W PyProof.Rows PySem.Calls
set_option linter.unusedVariables false
set_option linter.unusedSimpArgs false
set_option maxRecDepth 100000
namespace Mine
variable {r : Nat → Option (List Int)} {T : Tbl} {F : Funs} {L : Loc} {σ : Sto} {n : Nat}

theorem get_take {σ0 : Sto} {k : Nat} {o : Ob} (h : σ.take σ0.length = σ0) (hk : σ0[k]? = some o) : σ[k]? = some o := by
  have hlt := lt_of hk
  rw [← h, List.getElem?_take_of_lt hlt] at hk
  exact hk

/-- neighbours differ -/
def Nb (l : List Pt) : Prop := ∀ i, i + 1 < l.length → at0 l i ≠ at0 l (i + 1)
def Box (l : List Pt) : Prop := ∀ p ∈ l, (-100 ≤ p.1 ∧ p.1 ≤ 100) ∧ (-100 ≤ p.2 ∧ p.2 ≤ 100)
theorem at0_app_l {l m : List Pt} {i : Nat} (h : i < l.length) : at0 (l ++ m) i = at0 l i := by
  unfold at0; rw [List.getD_eq_getElem?_getD, List.getD_eq_getElem?_getD, List.getElem?_append_left h]
theorem at0_app_r {l : List Pt} {p : Pt} : at0 (l ++ [p]) l.length = p := by
  unfold at0; rw [List.getD_eq_getElem?_getD, List.getElem?_append_right (Nat.le_refl _)]; simp
theorem at0_last {l : List Pt} {p : Pt} (h : l.getLast? = some p) : at0 l (l.length - 1) = p := by
  rw [List.getLast?_eq_getElem?] at h
  unfold at0; rw [List.getD_eq_getElem?_getD, h]; rfl
theorem at0_head {l : List Pt} {p : Pt} (h : l.head? = some p) : at0 l 0 = p := by
  rw [List.head?_eq_getElem?] at h
  unfold at0; rw [List.getD_eq_getElem?_getD, h]; rfl
theorem at0_mem {l : List Pt} {i : Nat} (h : i < l.length) : at0 l i ∈ l := by
  unfold at0; rw [List.getD_eq_getElem?_getD, List.getElem?_eq_getElem h]; exact List.getElem_mem h
theorem at0_drop {l : List Pt} {i : Nat} (h : i < l.length - 1) : at0 l.dropLast i = at0 l i := by
  unfold at0; rw [List.getD_eq_getElem?_getD, List.getD_eq_getElem?_getD, List.getElem?_dropLast, if_pos h]
theorem last_some {l : List Pt} (h : l ≠ []) : l.getLast? = some (at0 l (l.length - 1)) := by
  cases hh : l.getLast? with
  | none => exact absurd (List.getLast?_eq_none_iff.mp hh) h
  | some q => rw [at0_last hh]
theorem head_some {l : List Pt} (h : l ≠ []) : l.head? = some (at0 l 0) := by
  cases hh : l.head? with
  | none => exact absurd (List.head?_eq_none_iff.mp hh) h
  | some q => rw [at0_head hh]
theorem Nb.nil : Nb [] := fun i h => by simp at h
theorem Nb.snoc {l : List Pt} {p : Pt} (h : Nb l) (hp : l = [] ∨ l.getLast? ≠ some p) : Nb (l ++ [p]) := by
  intro i hi
  rw [List.length_append, List.length_singleton] at hi
  by_cases h1 : i + 1 < l.length
  · rw [at0_app_l (by omega), at0_app_l h1]; exact h i h1
  · have e : i + 1 = l.length := by omega
    rw [e, at0_app_r, at0_app_l (by omega)]
    intro hq
    have hne : l ≠ [] := by intro h0; rw [h0] at e; simp at e
    rcases hp with hp | hp
    · exact hne hp
    · apply hp
      rw [last_some hne, show l.length - 1 = i by omega, hq]
theorem Nb.ddS {l : List Pt} {p : Pt} (h : Nb l) : Nb (ddS l p) := by
  unfold Mine.ddS
  split
  · exact h.snoc ‹_›
  · exact h
theorem Nb.dd {l : List Pt} : Nb (dd l) := by
  unfold Mine.dd
  have key : ∀ (l acc : List Pt), Nb acc → Nb (l.foldl Mine.ddS acc) := by
    intro l
    induction l with
    | nil => intro acc h; exact h
    | cons p l ih => intro acc h; exact ih _ h.ddS
  exact key l [] Nb.nil
theorem Nb.drop {l : List Pt} (h : Nb l) : Nb l.dropLast := by
  intro i hi
  rw [List.length_dropLast] at hi
  rw [at0_drop (by omega), at0_drop (by omega)]
  exact h i (by omega)
theorem stripF_ok : ∀ (m : Nat) (l : List Pt), l.length ≤ m → Nb l → Nb (stripF m l) ∧ (1 < (stripF m l).length → (stripF m l).getLast? ≠ (stripF m l).head?) ∧ (∀ p ∈ stripF m l, p ∈ l) ∧ (stripF m l).length ≤ l.length := by
  intro m
  induction m with
  | zero =>
    intro l hl h
    have : l = [] := List.length_eq_zero_iff.mp (by omega)
    subst this
    exact ⟨h, fun h => by simp [stripF] at h, fun p hp => hp, Nat.le_refl _⟩
  | succ m ih =>
    intro l hl h
    unfold stripF
    split
    · rename_i hc
      obtain ⟨a, b, c, d⟩ := ih l.dropLast (by rw [List.length_dropLast]; omega) h.drop
      exact ⟨a, b, fun p hp => List.dropLast_subset _ (c p hp), by rw [List.length_dropLast] at d; omega⟩
    · rename_i hc
      exact ⟨h, fun h1 h2 => hc ⟨h1, h2⟩, fun p hp => hp, Nat.le_refl _⟩
theorem dd_sub {l : List Pt} : ∀ p ∈ dd l, p ∈ l := by
  unfold dd
  have key : ∀ (l acc : List Pt), ∀ p ∈ l.foldl ddS acc, p ∈ acc ∨ p ∈ l := by
    intro l
    induction l with
    | nil => intro acc p h; exact .inl h
    | cons q l ih =>
      intro acc p h
      rcases ih _ p h with h | h
      · unfold ddS at h
        split at h
        · rcases List.mem_append.mp h with h | h
          · exact .inl h
          · rw [List.mem_singleton] at h; subst h; exact .inr (.head _)
        · exact .inl h
      · exact .inr (.tail _ h)
  intro p h
  rcases key l [] p h with h | h
  · cases h
  · exact h
theorem dd_len {l : List Pt} : (dd l).length ≤ l.length := by
  unfold dd
  have key : ∀ (l acc : List Pt), (l.foldl ddS acc).length ≤ acc.length + l.length := by
    intro l
    induction l with
    | nil => intro acc; exact Nat.le_refl _
    | cons q l ih =>
      intro acc
      refine Nat.le_trans (ih _) ?_
      unfold ddS
      split <;> simp <;> omega
  simpa using key l []

structure Fine (c : Bool) (m : List Pt) : Prop where
  nb : Nb m
  cy : c = true → 1 < m.length → at0 m (m.length - 1) ≠ at0 m 0
  bx : Box m
theorem pln_fine {c : Bool} {l : List Pt} (h : Box l) : Fine c (pln c l) ∧ (pln c l).length ≤ l.length := by
  unfold pln
  cases c with
  | false => exact ⟨⟨Nb.dd, fun h => (nomatch h), fun p hp => h p (dd_sub p hp)⟩, dd_len⟩
  | true =>
    obtain ⟨a, b, c, d⟩ := stripF_ok (dd l).length (dd l) (Nat.le_refl _) Nb.dd
    refine ⟨⟨a, fun _ h1 e => ?_, fun p hp => h p (dd_sub p (c p hp))⟩, Nat.le_trans d dd_len⟩
    have hne : strip (dd l) ≠ [] := by intro h0; rw [if_pos rfl, h0] at h1; simp at h1
    refine b h1 ?_
    show (strip (dd l)).getLast? = (strip (dd l)).head?
    rw [last_some hne, head_some hne]
    exact congrArg some e
theorem sd_of {m : List Pt} {i j : Nat} (h : Box m) (hi : i < m.length) (hj : j < m.length) (hne : at0 m i ≠ at0 m j) : Sd (at0 m i) (at0 m j) := by
  obtain ⟨⟨a1, a2⟩, a3, a4⟩ := h _ (at0_mem hi)
  obtain ⟨⟨b1, b2⟩, b3, b4⟩ := h _ (at0_mem hj)
  exact ⟨by omega, by omega, by omega, by omega, hne⟩
theorem Fine.apart {c : Bool} {m : List Pt} (h : Fine c m) : Apart m := fun i hi => sd_of h.bx (by omega) hi (h.nb i hi)
theorem Fine.around {m : List Pt} (h : Fine true m) (h2 : 2 ≤ m.length) : Apart (m ++ m.take 1) := by
  have e : m.take 1 = [at0 m 0] := by
    cases m with
    | nil => simp at h2
    | cons a m => rfl
  rw [e]
  have hb : Box (m ++ [at0 m 0]) := by
    intro p hp
    rcases List.mem_append.mp hp with hp | hp
    · exact h.bx p hp
    · rw [List.mem_singleton] at hp; subst hp; exact h.bx _ (at0_mem (by omega))
  intro i hi
  refine sd_of hb (by omega) hi ?_
  rw [List.length_append, List.length_singleton] at hi
  by_cases h1 : i + 1 < m.length
  · rw [at0_app_l (by omega), at0_app_l h1]; exact h.nb i h1
  · rw [show i + 1 = m.length by omega, at0_app_r, at0_app_l (by omega), show i = m.length - 1 by omega]
    exact h.cy rfl (by omega)
theorem Fine.cors {c : Bool} {m : List Pt} (h : Fine c m) (h2 : 2 ≤ m.length) : ApartC (cors c m) := by
  intro t ht
  unfold Mine.cors at ht
  cases c with
  | false =>
    rw [if_neg (by decide)] at ht
    obtain ⟨i, hi, rfl⟩ := List.mem_map.mp ht
    have := List.mem_range.mp hi
    exact ⟨h.apart i (by omega), h.apart (i + 1) (by omega)⟩
  | true =>
    rw [if_pos rfl] at ht
    obtain ⟨i, hi, rfl⟩ := List.mem_map.mp ht
    have hi' := List.mem_range.mp hi
    constructor
    · dsimp only
      by_cases h0 : i = 0
      · rw [if_pos h0, h0]
        exact sd_of h.bx (by omega) (by omega) (h.cy rfl (by omega))
      · rw [if_neg h0]
        have := h.apart (i - 1) (by omega)
        rwa [show i - 1 + 1 = i by omega] at this
    · dsimp only
      by_cases h0 : i + 1 < m.length
      · rw [Nat.mod_eq_of_lt h0]; exact h.apart i h0
      · have e : i + 1 = m.length := by omega
        rw [e, Nat.mod_self, show i = m.length - 1 by omega]
        exact sd_of h.bx (by omega) (by omega) (h.cy rfl (by omega))
theorem Sd.symm {p q : Pt} (h : Sd p q) : Sd q p := by
  obtain ⟨a, b, c, d, e⟩ := h
  exact ⟨by omega, by omega, by omega, by omega, e.symm⟩
theorem Fine.c1 {c : Bool} {m : List Pt} (h : Fine c m) (h2 : 2 ≤ m.length) : Sd (at0 m 1) (at0 m 0) := (h.apart 0 (by omega)).symm
theorem Fine.c2 {c : Bool} {m : List Pt} (h : Fine c m) (h2 : 2 ≤ m.length) : Sd (at0 m (m.length - 2)) (at0 m (m.length - 1)) := by
  have := h.apart (m.length - 2) (by omega)
  rwa [show m.length - 2 + 1 = m.length - 1 by omega] at this

/-- a line's pieces, when it has two spots or more -/
def pcs (c kd : Bool) (m : List Pt) (h : Int) : List (List Pt) := sides (if c then m ++ m.take 1 else m) h ++ (cors c m).map (crnT h) ++ (if c then [] else [capOf kd (at0 m 1) (at0 m 0) h, capOf kd (at0 m (m.length - 2)) (at0 m (m.length - 1)) h])
def pieces (c kd : Bool) (l : List Pt) (h : Int) : List (List Pt) :=
  if pln c l = [] then [] else if (pln c l).length = 1 then [dotOf kd (at0 (pln c l) 0) h] else pcs c kd (pln c l) h
end Mine
end
section
open PySem PySem.W PyProof.Rows PySem.Calls
set_option linter.unusedVariables false
set_option linter.unusedSimpArgs false
set_option maxRecDepth 100000
namespace Mine
variable {r : Nat → Option (List Int)} {T : Tbl} {F : Funs} {L : Loc} {σ : Sto} {n : Nat}

theorem len_le {α : Type} {l : List α} (h : l.length ≤ 1000) : l.length ≤ 1000000 := by omega
theorem sub_last2 {k : Nat} {m : List Pt} (h : σ[k]? = some (.list (m.map vp))) (h2 : 2 ≤ m.length) : subC T σ (.obj k) (.int (-2)) = some (vp (at0 m (m.length - 2))) := by
  rw [subC_obj, h]
  dsimp only
  rw [if_pos (by decide)]
  unfold getAt place
  rw [if_neg (by decide), List.length_map, if_pos (by omega)]
  show (m.map vp)[((-2 : Int) + m.length).toNat]? = _
  rw [show ((-2 : Int) + m.length).toNat = m.length - 2 by omega]
  exact at0_get (by omega)
theorem stroked_line_c {s : Nat} {c : Bool} {l : List Pt} {w : Int} {jn kd : Bool} {st : Int} (hs : σ[s]? = some (.inst "Style" (stl w jn kd))) (hb : Box l) (hl : l.length ≤ 100) (hh : Hf (w.fdiv 2)) : callD (lvl (tbl r) (n + 160)) d_stroked_line.1 [.tup [vps l, .bool c], .obj s, .int st] σ = some (.obj σ.length, σ ++ [.list ((pieces c kd l (w.fdiv 2)).map vps)]) := by
  refine callD_list' rfl freeL_pcs ?_
  obtain ⟨k, σ1, p1, p2, p3, p4⟩ := plain_line_c (r := r) (σ := σ) (n := n + 98) (c := c) (l := l) (by omega) (by omega)
  obtain ⟨hf, hlen⟩ := pln_fine (c := c) hb
  generalize hm : pln c l = m at *
  have hs1 := get_take p2 hs
  have k1 := lt_of p4
  have hm1 : m.length ≤ 1000 := by omega
  have hm' : m.length ≤ 1000000 := by omega
  have em : cmpS .Eq (σ1 ++ [.list []]) (.obj k) (.obj σ1.length) = some (decide (m = [])) := cmp_emp (app_l p4) (by rw [gl0]; rfl)
  have hhalf := fun j => half_c (r := r) (n := j) hs1
  rw [show n + 98 + 60 = n + 158 from rfl] at p1
  have hs2 := fun l' => app_l (l := l') hs1
  have p5 := fun l' => app_l (l := l') p4
  have c5 : ∀ l' o, List.set (σ1 ++ l') σ1.length o = σ1 ++ l'.set 0 o := fun _ _ => sl0
  by_cases h0 : m = []
  · subst h0
    simp [d_stroked_line, run, exs, lvl_ex, lvl_ev, lvl_tst, exS, evS, evA, tstS, allT, evs, evo, bindP, List.lookup, ofString_inj, ofString_beq, subC_tup, subC_lst, binS, binI, small, most, upd, free, freeL, py, pyL, cmp_lt, cmp_le, cmp_gt, cmp_ge, cmp_eqi, cmp_nei, callN, biC, optI, k_len, k_range, k_abs, k_max, k_min, k_int, k_tuple, k_sum, k_zip, n_ahead, n_along, n_area, n_around, n_back, n_behind, n_below, n_big, n_blend, n_both_ends, n_bottom, n_cap, n_cell, n_centre, n_contour, n_contours, n_corner, n_corners, n_cutter, n_dashes, n_dot_now, n_dot_p, n_due, n_end, n_end_in, n_ends_in_dash, n_factor, n_first, n_found, n_gone, n_grain, n_half, n_here, n_inner, n_is_closed, n_join, n_joined, n_k, n_kind, n_later_p, n_left, n_length, n_lengths, n_limit, n_line, n_lines, n_lower, n_many, n_message, n_n, n_normal, n_one, n_other, n_pattern, n_piece, n_piece_k, n_pieces, n_place, n_place_k, n_places, n_quarter, n_right, n_root, n_script, n_second, n_self, n_share, n_sign, n_size, n_some, n_source, n_spot, n_spots, n_square, n_start, n_starts_in_dash, n_step, n_steps, n_style, n_things, n_top, n_turn, n_u, n_v, n_vector, n_way_now, n_whole, n_width, n_x, n_y, sub_vp0, sub_vp1, bind_vp, bindT_name, bindT_tup, bindT_obj, names?, updL, k_root_floor, k_nearest_root_share, k_way_of, k_moved_by, k_turned_about, k_normal_of, k_along_of, k_parallel, k_area_twice_of, k_one_sense, k_is_at_least_root, k_is_within_limit, k_bevel_spots, k_join_spots, k_square_about, k_cap_spots, k_dot_spots, k_dashed, k_plain_line, k_side_pieces, k_join_pieces, k_corners_of, k_stroked_line, k_stroked, k_l_pool, k_l_take, k_l_one, k_l_normal, k_l_sensed, k_l_at, k_l_side, k_l_corner, k_l_cap, k_l_due, k_l_drawn, k_Corner, k_Pattern, k_Style, k_MOST_STEPS, p1, hs1, methC, ls_half, mi_half, hhalf, em]
    refine ⟨_, _, ⟨rfl, rfl⟩, take_app p2, by omega, ?_⟩
    rw [gl]
    simp [pieces, hm]
  · have hm0 : m.length ≠ 0 := fun h => h0 (List.length_eq_zero_iff.mp h)
    have e0 : ∀ l', subC (tbl r) (σ1 ++ l') (.obj k) (.int 0) = some (vp (at0 m 0)) := fun l' => sub_0 (p5 l') (by rw [List.head?_map, head_some h0]; rfl)
    by_cases h1 : m.length = 1
    · have hd := fun j => dot_spots_c (r := r) (n := j) (σ := σ1 ++ [.list []]) (kd := kd) (p := at0 m 0) (h := w.fdiv 2) (st := st)
      have h1' : ((m.length : Nat) : Int) = 1 := by omega
      simp [d_stroked_line, run, exs, lvl_ex, lvl_ev, lvl_tst, exS, evS, evA, tstS, allT, evs, evo, bindP, List.lookup, ofString_inj, ofString_beq, subC_tup, subC_lst, binS, binI, small, most, upd, free, freeL, py, pyL, cmp_lt, cmp_le, cmp_gt, cmp_ge, cmp_eqi, cmp_nei, callN, biC, optI, k_len, k_range, k_abs, k_max, k_min, k_int, k_tuple, k_sum, k_zip, n_ahead, n_along, n_area, n_around, n_back, n_behind, n_below, n_big, n_blend, n_both_ends, n_bottom, n_cap, n_cell, n_centre, n_contour, n_contours, n_corner, n_corners, n_cutter, n_dashes, n_dot_now, n_dot_p, n_due, n_end, n_end_in, n_ends_in_dash, n_factor, n_first, n_found, n_gone, n_grain, n_half, n_here, n_inner, n_is_closed, n_join, n_joined, n_k, n_kind, n_later_p, n_left, n_length, n_lengths, n_limit, n_line, n_lines, n_lower, n_many, n_message, n_n, n_normal, n_one, n_other, n_pattern, n_piece, n_piece_k, n_pieces, n_place, n_place_k, n_places, n_quarter, n_right, n_root, n_script, n_second, n_self, n_share, n_sign, n_size, n_some, n_source, n_spot, n_spots, n_square, n_start, n_starts_in_dash, n_step, n_steps, n_style, n_things, n_top, n_turn, n_u, n_v, n_vector, n_way_now, n_whole, n_width, n_x, n_y, sub_vp0, sub_vp1, bind_vp, bindT_name, bindT_tup, bindT_obj, names?, updL, k_root_floor, k_nearest_root_share, k_way_of, k_moved_by, k_turned_about, k_normal_of, k_along_of, k_parallel, k_area_twice_of, k_one_sense, k_is_at_least_root, k_is_within_limit, k_bevel_spots, k_join_spots, k_square_about, k_cap_spots, k_dot_spots, k_dashed, k_plain_line, k_side_pieces, k_join_pieces, k_corners_of, k_stroked_line, k_stroked, k_l_pool, k_l_take, k_l_one, k_l_normal, k_l_sensed, k_l_at, k_l_side, k_l_corner, k_l_cap, k_l_due, k_l_drawn, k_Corner, k_Pattern, k_Style, k_MOST_STEPS, p1, hs1, hs2, methC, ls_half, mi_half, hhalf, em, h0, items, p5, hm', h1, ls_cap, fd_cap, e0, hd]
      refine ⟨_, _, ⟨rfl, rfl⟩, take_app p2, by omega, ?_⟩
      rw [gl]
      simp [pieces, hm, h0, h1]
    · have h2 : 2 ≤ m.length := by omega
      have h1' : ¬ (m.length : Int) = 1 := by omega
      have h3 : 1 < m.length := by omega
      have et : (m.map vp).take 1 = [vp (at0 m 0)] := by
        cases m with
        | nil => exact absurd rfl h0
        | cons a m => rfl
      have et' : m.take 1 = [at0 m 0] := by
        cases m with
        | nil => exact absurd rfl h0
        | cons a m => rfl
      cases c with
      | true =>
        have hsd := fun j => side_pieces_c (r := r) (n := j) (σ := σ1 ++ [.list [], .list [vp (at0 m 0)], .list (m.map vp ++ [vp (at0 m 0)])]) (k := σ1.length + 2) (l := m ++ [at0 m 0]) (h := w.fdiv 2) (by rw [gl]; simp) (by rw [← et']; exact hf.around h2) (by simp; omega) hh
        have hcn := fun j => corners_t (r := r) (n := j) (σ := σ1 ++ [.list [], .list [vp (at0 m 0)], .list (m.map vp ++ [vp (at0 m 0)]), .list ((sides (m ++ [at0 m 0]) (w.fdiv 2)).map vps)]) (k := k) (p5 _) hm1 h2
        have hjn := fun j => join_pieces_c (r := r) (n := j) (σ := σ1 ++ [.list [], .list [vp (at0 m 0)], .list (m.map vp ++ [vp (at0 m 0)]), .list ((sides (m ++ [at0 m 0]) (w.fdiv 2)).map vps), .list ((cors true m).map vtri)]) (k := σ1.length + 4) (s := s) (st := st) (by rw [gl]; rfl) (hs2 _) (hf.cors h2) (by simp [cors]; omega) hh
        simp at hsd hcn hjn
        have q1 : m.length ≤ 999999 := by omega
        have q2 : (sides (m ++ [at0 m 0]) (w.fdiv 2)).length = m.length := by simp [sides]
        have q3 : (cors true m).length = m.length := by simp [cors]
        have q4 : m.length + m.length ≤ 1000000 := by omega
        simp [d_stroked_line, run, exs, lvl_ex, lvl_ev, lvl_tst, exS, evS, evA, tstS, allT, evs, evo, bindP, List.lookup, ofString_inj, ofString_beq, subC_tup, subC_lst, binS, binI, small, most, upd, free, freeL, py, pyL, cmp_lt, cmp_le, cmp_gt, cmp_ge, cmp_eqi, cmp_nei, callN, biC, optI, k_len, k_range, k_abs, k_max, k_min, k_int, k_tuple, k_sum, k_zip, n_ahead, n_along, n_area, n_around, n_back, n_behind, n_below, n_big, n_blend, n_both_ends, n_bottom, n_cap, n_cell, n_centre, n_contour, n_contours, n_corner, n_corners, n_cutter, n_dashes, n_dot_now, n_dot_p, n_due, n_end, n_end_in, n_ends_in_dash, n_factor, n_first, n_found, n_gone, n_grain, n_half, n_here, n_inner, n_is_closed, n_join, n_joined, n_k, n_kind, n_later_p, n_left, n_length, n_lengths, n_limit, n_line, n_lines, n_lower, n_many, n_message, n_n, n_normal, n_one, n_other, n_pattern, n_piece, n_piece_k, n_pieces, n_place, n_place_k, n_places, n_quarter, n_right, n_root, n_script, n_second, n_self, n_share, n_sign, n_size, n_some, n_source, n_spot, n_spots, n_square, n_start, n_starts_in_dash, n_step, n_steps, n_style, n_things, n_top, n_turn, n_u, n_v, n_vector, n_way_now, n_whole, n_width, n_x, n_y, sub_vp0, sub_vp1, bind_vp, bindT_name, bindT_tup, bindT_obj, names?, updL, k_root_floor, k_nearest_root_share, k_way_of, k_moved_by, k_turned_about, k_normal_of, k_along_of, k_parallel, k_area_twice_of, k_one_sense, k_is_at_least_root, k_is_within_limit, k_bevel_spots, k_join_spots, k_square_about, k_cap_spots, k_dot_spots, k_dashed, k_plain_line, k_side_pieces, k_join_pieces, k_corners_of, k_stroked_line, k_stroked, k_l_pool, k_l_take, k_l_one, k_l_normal, k_l_sensed, k_l_at, k_l_side, k_l_corner, k_l_cap, k_l_due, k_l_drawn, k_Corner, k_Pattern, k_Style, k_MOST_STEPS, p1, hs1, hs2, methC, listM, ls_half, mi_half, hhalf, em, h0, items, p5, hm', h1, h1', h3, e0, slice_first, et, hsd, hcn, hjn, q1, q2, q3, q4, gl, sl]
        refine ⟨_, _, ⟨rfl, rfl⟩, take_app p2, by omega, ?_⟩
        rw [gl]
        simp [pieces, hm, h0, h1, pcs, et']
      | false =>
        have hsd := fun j => side_pieces_c (r := r) (n := j) (σ := σ1 ++ [.list []]) (k := k) (l := m) (h := w.fdiv 2) (p5 _) hf.apart hm1 hh
        have hcn := fun j => corners_f (r := r) (n := j) (σ := σ1 ++ [.list [], .list ((sides m (w.fdiv 2)).map vps)]) (k := k) (p5 _) hm1 h2
        have hjn := fun j => join_pieces_c (r := r) (n := j) (σ := σ1 ++ [.list [], .list ((sides m (w.fdiv 2)).map vps), .list ((cors false m).map vtri)]) (k := σ1.length + 2) (s := s) (st := st) (by rw [gl]; rfl) (hs2 _) (hf.cors h2) (by simp [cors]; omega) hh
        simp at hsd hcn hjn
        have q1 : m.length ≤ 999999 := by omega
        have q2 : (sides m (w.fdiv 2)).length = m.length - 1 := by simp [sides]
        have q3 : (cors false m).length = m.length - 2 := by simp [cors]
        have q4 : m.length - 1 + (m.length - 2) ≤ 1000000 := by omega
        have q5 : m.length - 1 + (m.length - 2) < 1000000 := by omega
        have q6 : m.length - 1 + (m.length - 2 + 1) < 1000000 := by omega
        have e1 : ∀ l', subC (tbl r) (σ1 ++ l') (.obj k) (.int 1) = some (vp (at0 m 1)) := fun l' => sub_at (j := 1) (p5 l') (at0_get (by omega)) (by decide)
        have e2 : ∀ l', subC (tbl r) (σ1 ++ l') (.obj k) (.int (-1)) = some (vp (at0 m (m.length - 1))) := fun l' => sub_last (p5 l') (by rw [last_map, last_some h0]; rfl)
        have e3 : ∀ l', subC (tbl r) (σ1 ++ l') (.obj k) (.int (-2)) = some (vp (at0 m (m.length - 2))) := fun l' => sub_last2 (p5 l') h2
        have c1 := fun j τ => cap_spots_c (r := r) (n := j) (σ := τ) (kd := kd) (h := w.fdiv 2) (st := st) (hf.c1 h2) hh
        have c2 := fun j τ => cap_spots_c (r := r) (n := j) (σ := τ) (kd := kd) (h := w.fdiv 2) (st := st) (hf.c2 h2) hh
        simp [d_stroked_line, run, exs, lvl_ex, lvl_ev, lvl_tst, exS, evS, evA, tstS, allT, evs, evo, bindP, List.lookup, ofString_inj, ofString_beq, subC_tup, subC_lst, binS, binI, small, most, upd, free, freeL, py, pyL, cmp_lt, cmp_le, cmp_gt, cmp_ge, cmp_eqi, cmp_nei, callN, biC, optI, k_len, k_range, k_abs, k_max, k_min, k_int, k_tuple, k_sum, k_zip, n_ahead, n_along, n_area, n_around, n_back, n_behind, n_below, n_big, n_blend, n_both_ends, n_bottom, n_cap, n_cell, n_centre, n_contour, n_contours, n_corner, n_corners, n_cutter, n_dashes, n_dot_now, n_dot_p, n_due, n_end, n_end_in, n_ends_in_dash, n_factor, n_first, n_found, n_gone, n_grain, n_half, n_here, n_inner, n_is_closed, n_join, n_joined, n_k, n_kind, n_later_p, n_left, n_length, n_lengths, n_limit, n_line, n_lines, n_lower, n_many, n_message, n_n, n_normal, n_one, n_other, n_pattern, n_piece, n_piece_k, n_pieces, n_place, n_place_k, n_places, n_quarter, n_right, n_root, n_script, n_second, n_self, n_share, n_sign, n_size, n_some, n_source, n_spot, n_spots, n_square, n_start, n_starts_in_dash, n_step, n_steps, n_style, n_things, n_top, n_turn, n_u, n_v, n_vector, n_way_now, n_whole, n_width, n_x, n_y, sub_vp0, sub_vp1, bind_vp, bindT_name, bindT_tup, bindT_obj, names?, updL, k_root_floor, k_nearest_root_share, k_way_of, k_moved_by, k_turned_about, k_normal_of, k_along_of, k_parallel, k_area_twice_of, k_one_sense, k_is_at_least_root, k_is_within_limit, k_bevel_spots, k_join_spots, k_square_about, k_cap_spots, k_dot_spots, k_dashed, k_plain_line, k_side_pieces, k_join_pieces, k_corners_of, k_stroked_line, k_stroked, k_l_pool, k_l_take, k_l_one, k_l_normal, k_l_sensed, k_l_at, k_l_side, k_l_corner, k_l_cap, k_l_due, k_l_drawn, k_Corner, k_Pattern, k_Style, k_MOST_STEPS, p1, hs1, hs2, methC, listM, ls_half, mi_half, ls_cap, fd_cap, hhalf, em, h0, items, p5, hm', h1, h1', h3, e0, slice_first, et, hsd, hcn, hjn, q1, q2, q3, q4, q5, q6, gl, sl, e1, e2, e3, c1, c2]
        refine ⟨_, _, ⟨rfl, rfl⟩, take_app p2, by omega, ?_⟩
        rw [gl]
        simp [pieces, hm, h0, h1, pcs, et']
end Mine
end
section
open PySem PySem.W PyProof.Rows PySem.Calls
set_option linter.unusedVariables false
set_option linter.unusedSimpArgs false
set_option maxRecDepth 100000
namespace Mine
variable {r : Nat → Option (List Int)} {T : Tbl} {F : Funs} {L : Loc} {σ : Sto} {n : Nat}

/-- a body that gives back a value with P -/
def Ret (F : Funs) (L : Loc) (σ : Sto) (ss : List Stmt) (P : V → Sto → Prop) : Prop := ∃ v L' σ', exs F.ex L σ ss = some (.ret v, L', σ') ∧ P v σ'
theorem Ret.step {s : Stmt} {ss : List Stmt} {P : V → Sto → Prop} (R : Loc → Sto → Prop) (h : ∃ L1 σ1, F.ex L σ s = some (.next, L1, σ1) ∧ R L1 σ1) (k : ∀ L1 σ1, R L1 σ1 → Ret F L1 σ1 ss P) : Ret F L σ (s :: ss) P := by
  obtain ⟨L1, σ1, e, hr⟩ := h
  obtain ⟨v, L', σ', e2, hp⟩ := k _ _ hr
  exact ⟨v, L', σ', by unfold exs; rw [e]; exact e2, hp⟩
theorem Ret.next {s : Stmt} {ss : List Stmt} {P : V → Sto → Prop} {L1 : Loc} {σ1 : Sto} (h : F.ex L σ s = some (.next, L1, σ1)) (k : Ret F L1 σ1 ss P) : Ret F L σ (s :: ss) P := Ret.step (fun a b => a = L1 ∧ b = σ1) ⟨_, _, h, rfl, rfl⟩ fun _ _ ⟨a, b⟩ => a ▸ b ▸ k
theorem Ret.done {s : Stmt} {ss : List Stmt} {P : V → Sto → Prop} {v : V} {L1 : Loc} {σ1 : Sto} (h : F.ex L σ s = some (.ret v, L1, σ1)) (k : P v σ1) : Ret F L σ (s :: ss) P :=
  ⟨v, L1, σ1, by unfold exs; rw [h], k⟩
theorem Ret.done' {s : Stmt} {ss : List Stmt} {P : V → Sto → Prop} {v : V} {σ1 : Sto} (h : ∃ L1, F.ex L σ s = some (.ret v, L1, σ1)) (k : P v σ1) : Ret F L σ (s :: ss) P := h.elim fun _ h => Ret.done h k
theorem Ret.run {d : DefRec} {vs : List V} {P : V → Sto → Prop} (h : Ret F (bindP (d.params.args.map (·.arg)) vs) σ d.body P) : ∃ v σ', run F d vs σ = some (v, σ') ∧ P v σ' := by
  obtain ⟨v, L', σ', e, hp⟩ := h
  exact ⟨v, σ', by unfold Mine.run; rw [e], hp⟩
theorem callD_list'' {d : DefRec} {vs : List V} (h : vs.length = d.params.args.length) {l : List V} (hf : freeL l = true) (hr : Ret F (bindP (d.params.args.map (·.arg)) vs) σ d.body fun v σ' => ∃ k, v = .obj k ∧ σ'.take σ.length = σ ∧ σ.length ≤ k ∧ σ'[k]? = some (.list l)) : callD F d vs σ = some (.obj σ.length, σ ++ [.list l]) := by
  obtain ⟨v, σ', e, k, rfl, h1, h2, h3⟩ := hr.run
  exact callD_list' h hf ⟨k, σ', e, h1, h2, h3⟩

theorem snoc_ind {α : Type} {P : List α → Prop} (h0 : P []) (hs : ∀ l a, P l → P (l ++ [a])) (l : List α) : P l := by
  have key : ∀ m : List α, P m.reverse := by
    intro m
    induction m with
    | nil => exact h0
    | cons a m ih => rw [List.reverse_cons]; exact hs _ _ ih
  have := key l.reverse
  rwa [List.reverse_reverse] at this
theorem dd_snoc {l : List Pt} {p : Pt} : dd (l ++ [p]) = ddS (dd l) p := by unfold dd; rw [List.foldl_append]; rfl
theorem dd_last {l : List Pt} : (dd l).getLast? = l.getLast? := by
  refine snoc_ind (P := fun l => (dd l).getLast? = l.getLast?) rfl (fun l p ih => ?_) l
  rw [dd_snoc]
  unfold ddS
  split
  · simp
  · rename_i h
    have h' : (dd l).getLast? = some p := by
      by_cases e : (dd l).getLast? = some p
      · exact e
      · exact absurd (.inr e) h
    rw [h']; simp
def newAt (l : List Pt) (k : Nat) : Bool := decide (k = 0) || !decide (at0 l k = at0 l (k - 1))
theorem dd_eq {l : List Pt} : dd l = ((List.range l.length).filter (newAt l)).map (at0 l) := by
  refine snoc_ind (P := fun l => dd l = ((List.range l.length).filter (newAt l)).map (at0 l)) rfl (fun l p ih => ?_) l
  have e1 : ((List.range l.length).filter (newAt (l ++ [p]))).map (at0 (l ++ [p])) = dd l := by
    rw [ih]
    have e2 : (List.range l.length).filter (newAt (l ++ [p])) = (List.range l.length).filter (newAt l) := by
      apply List.filter_congr
      intro k hk
      have hk' := List.mem_range.mp hk
      unfold newAt
      rw [at0_app_l hk', at0_app_l (by omega)]
    rw [e2]
    apply List.map_congr_left
    intro k hk
    exact at0_app_l (List.mem_range.mp (List.mem_filter.mp hk).1)
  rw [dd_snoc, List.length_append, List.length_singleton, List.range_succ, List.filter_append, List.map_append, e1]
  have e3 : at0 (l ++ [p]) l.length = p := at0_app_r
  unfold ddS
  by_cases h0 : l = []
  · subst h0
    simp [newAt, dd, at0]
  · have hlp : 0 < l.length := List.length_pos_iff.mpr h0
    have e4 : at0 (l ++ [p]) (l.length - 1) = at0 l (l.length - 1) := at0_app_l (by omega)
    have hd : (dd l).getLast? = some (at0 l (l.length - 1)) := by rw [dd_last, last_some h0]
    have hd0 : dd l ≠ [] := by intro e; rw [e] at hd; cases hd
    by_cases hp : p = at0 l (l.length - 1)
    · rw [if_neg (by rw [hd]; simp [hd0, hp])]
      have : newAt (l ++ [p]) l.length = false := by
        unfold newAt; rw [e3, e4]; simp [hp]; omega
      simp [this]
    · rw [if_pos (.inr (by rw [hd]; simpa using Ne.symm hp))]
      have : newAt (l ++ [p]) l.length = true := by
        unfold newAt; rw [e3, e4]; simp [hp]
      simp [this, e3]
theorem zip_next {A : List Pt} : zipT (A.map vp) ((A.drop 1).map vp) = (List.range (A.length - 1)).map fun i => .tup [vp (at0 A i), vp (at0 A (i + 1))] := by
  cases A with
  | nil => rfl
  | cons a A =>
    rw [List.drop_succ_cons, List.drop_zero, List.length_cons, Nat.add_sub_cancel]
    induction A generalizing a with
    | nil => rfl
    | cons b A ih =>
      have e := ih b
      rw [List.map_cons] at e
      rw [List.length_cons, List.range_succ_eq_map]
      simp only [List.map_cons, List.map_map, zipT]
      rw [e]
      rfl
end Mine
end
section
open PySem PySem.W PyProof.Rows PySem.Calls
set_option linter.unusedVariables false
set_option linter.unusedSimpArgs false
set_option maxRecDepth 100000
namespace Mine
variable {r : Nat → Option (List Int)} {T : Tbl} {F : Funs} {L : Loc} {σ : Sto} {n : Nat}

theorem oa : (BoolOp.Or == BoolOp.And) = false := rfl
theorem still_two_mk {m k : Nat} {l r : List V} (h1 : σ[m]? = some (.list l)) (h2 : σ[k]? = some (.list r)) (hne : m ≠ k) (hl : l.length ≤ 1000) (hr : r.length ≤ 1000) : still σ (.two m k) (zipT l r) = true := by
  unfold still
  dsimp only
  rw [h1, h2]
  simp only [Bool.and_eq_true, decide_eq_true_eq]
  exact ⟨⟨⟨hne, by unfold most; omega⟩, by unfold most; omega⟩, trivial⟩
/-- what stands while the law's pieces are told -/
structure DueI (σ : Sto) (c kd : Bool) (h : Int) (L : Loc) (st : Sto) : Prop where
  cl : L "is_closed" = some (.bool c)
  kd : L "kind" = some (kdV kd)
  hf : L "half" = some (.int h)
  tk : st.take σ.length = σ
structure DueL (σ : Sto) (c kd : Bool) (h : Int) (m : List Pt) (L : Loc) (st : Sto) : Prop extends DueI σ c kd h L st where
  ln : ∃ j, L "line" = some (.obj j) ∧ st[j]? = some (.list (m.map vp)) ∧ σ.length ≤ j

/-- the places of the corners -/
def plc (c : Bool) (n : Nat) : List Nat := if c then List.range n else (List.range (n - 2)).map (1 + ·)
def tri (m : List Pt) (k : Nat) : Pt × Pt × Pt := (at0 m (if k = 0 then m.length - 1 else k - 1), at0 m k, at0 m ((k + 1) % m.length))
theorem cors_eq {c : Bool} {m : List Pt} : cors c m = (plc c m.length).map (tri m) := by
  cases c with
  | true => rfl
  | false =>
    unfold cors plc
    rw [if_neg (by decide), if_neg (by decide), List.map_map]
    apply List.map_congr_left
    intro i hi
    have := List.mem_range.mp hi
    simp only [tri, Function.comp]
    rw [if_neg (by omega), Nat.mod_eq_of_lt (by omega), show 1 + i - 1 = i by omega, show 1 + i = i + 1 by omega]
def plV (c : Bool) (n : Nat) : V := if c then .rng 0 n else .rng 1 ((n : Int) - 1)
theorem items_plc {c : Bool} {n : Nat} (h : n ≤ 1000) : items σ (plV c n) = some ((plc c n).map fun (k : Nat) => V.int k) := by
  unfold plV plc
  cases c with
  | true =>
    rw [if_pos rfl, if_pos rfl]
    unfold items
    dsimp only
    rw [if_pos (by unfold small most; simp only [Bool.and_eq_true, decide_eq_true_eq]; omega), show ((n : Int) - 0).toNat = n by omega]
    congr 1
    apply List.map_congr_left
    intro k _
    rw [Int.zero_add]
  | false =>
    rw [if_neg (by decide), if_neg (by decide)]
    unfold items
    dsimp only
    rw [if_pos (by unfold small most; simp only [Bool.and_eq_true, decide_eq_true_eq]; omega), show ((n : Int) - 1 - 1).toNat = n - 2 by omega, List.map_map]
    congr 1
theorem due1 {a : Nat} {l : List Pt} {c kd : Bool} {h : Int} (ha : σ[a]? = some (.list (l.map vp))) (hl : l.length ≤ 100) (hb : Box l) (hh : Hf h) : Ret (lvl (tbl r) (n + 160)) (bindP (d_l_due.1.params.args.map (·.arg)) [.obj a, .bool c, kdV kd, .int h]) σ (d_l_due.1.body) (fun v σ' => ∃ k, v = .obj k ∧ σ'.take σ.length = σ ∧ σ.length ≤ k ∧ σ'[k]? = some (.list ((pieces c kd l h).map vps))) := by
  simp only [d_l_due]
  refine Ret.step (DueL σ c kd h (dd l)) ?_ fun L1 σ1 h1 => ?_
  · have hl' : l.length ≤ 1000000 := by omega
    obtain ⟨N, hN⟩ : ∃ N : Int, (l.length : Int) = N := ⟨_, rfl⟩
    have b1 : -1152921504606846976 < N := by omega
    have b2 : N < 1152921504606846976 := by omega
    have b4 : N ≤ 1000000 := by omega
    simp [run, exs, lvl_ex, lvl_ev, lvl_tst, exS, evS, evA, tstS, allT, evs, evo, bindP, List.lookup, ofString_inj, ofString_beq, subC_tup, subC_lst, binS, binI, small, most, upd, free, freeL, py, pyL, cmp_lt, cmp_le, cmp_gt, cmp_ge, cmp_eqi, cmp_nei, callN, biC, optI, k_len, k_range, k_abs, k_max, k_min, k_int, k_tuple, k_sum, k_zip, n_ahead, n_along, n_area, n_around, n_back, n_behind, n_below, n_big, n_blend, n_both_ends, n_bottom, n_cap, n_cell, n_centre, n_contour, n_contours, n_corner, n_corners, n_cutter, n_dashes, n_dot_now, n_dot_p, n_due, n_end, n_end_in, n_ends_in_dash, n_factor, n_first, n_found, n_gone, n_grain, n_half, n_here, n_inner, n_is_closed, n_join, n_joined, n_k, n_kind, n_later_p, n_left, n_length, n_lengths, n_limit, n_line, n_lines, n_lower, n_many, n_message, n_n, n_normal, n_one, n_other, n_pattern, n_piece, n_piece_k, n_pieces, n_place, n_place_k, n_places, n_quarter, n_right, n_root, n_script, n_second, n_self, n_share, n_sign, n_size, n_some, n_source, n_spot, n_spots, n_square, n_start, n_starts_in_dash, n_step, n_steps, n_style, n_things, n_top, n_turn, n_u, n_v, n_vector, n_way_now, n_whole, n_width, n_x, n_y, sub_vp0, sub_vp1, bind_vp, bindT_name, bindT_tup, bindT_obj, names?, updL, k_root_floor, k_nearest_root_share, k_way_of, k_moved_by, k_turned_about, k_normal_of, k_along_of, k_parallel, k_area_twice_of, k_one_sense, k_is_at_least_root, k_is_within_limit, k_bevel_spots, k_join_spots, k_square_about, k_cap_spots, k_dot_spots, k_dashed, k_plain_line, k_side_pieces, k_join_pieces, k_corners_of, k_stroked_line, k_stroked, k_l_pool, k_l_take, k_l_one, k_l_normal, k_l_sensed, k_l_at, k_l_side, k_l_corner, k_l_cap, k_l_due, k_l_drawn, k_Corner, k_Pattern, k_Style, k_MOST_STEPS, overE, items, ha, hl', hN, b1, b2, b4]
    generalize hw : clauses _ _ _ _ _ _ _ _ = o
    have hc := clauses1_of (σ := σ) hw rfl rfl (fun v => match v with | .int i => newAt l i.toNat | _ => false) (fun v => match v with | .int i => vp (at0 l i.toNat) | _ => .none) (fun l' => by rw [still_one]; simp [items, small, most, b1, b2, b4]) (fun v hv l' => by
      obtain ⟨i, hi, rfl⟩ := List.mem_map.mp hv
      have hi' : i < l.length := by have := List.mem_range.mp hi; omega
      have hk' := app_l (l := [.list l']) ha
      have s1 : subC (tbl r) (σ ++ [.list l']) (.obj a) (.int (i : Nat)) = some (vp (at0 l i)) := sub_at hk' (at0_get (by omega)) (by omega)
      by_cases h0 : i = 0
      · subst h0
        refine ⟨_, rfl, by simp [hide, tests, run, exs, lvl_ex, lvl_ev, lvl_tst, exS, evS, evA, tstS, allT, evs, evo, bindP, List.lookup, ofString_inj, ofString_beq, subC_tup, subC_lst, binS, binI, small, most, upd, free, freeL, py, pyL, cmp_lt, cmp_le, cmp_gt, cmp_ge, cmp_eqi, cmp_nei, callN, biC, optI, k_len, k_range, k_abs, k_max, k_min, k_int, k_tuple, k_sum, k_zip, n_ahead, n_along, n_area, n_around, n_back, n_behind, n_below, n_big, n_blend, n_both_ends, n_bottom, n_cap, n_cell, n_centre, n_contour, n_contours, n_corner, n_corners, n_cutter, n_dashes, n_dot_now, n_dot_p, n_due, n_end, n_end_in, n_ends_in_dash, n_factor, n_first, n_found, n_gone, n_grain, n_half, n_here, n_inner, n_is_closed, n_join, n_joined, n_k, n_kind, n_later_p, n_left, n_length, n_lengths, n_limit, n_line, n_lines, n_lower, n_many, n_message, n_n, n_normal, n_one, n_other, n_pattern, n_piece, n_piece_k, n_pieces, n_place, n_place_k, n_places, n_quarter, n_right, n_root, n_script, n_second, n_self, n_share, n_sign, n_size, n_some, n_source, n_spot, n_spots, n_square, n_start, n_starts_in_dash, n_step, n_steps, n_style, n_things, n_top, n_turn, n_u, n_v, n_vector, n_way_now, n_whole, n_width, n_x, n_y, sub_vp0, sub_vp1, bind_vp, newAt], fun _ => ?_⟩
        simp at s1
        simp [hide, run, exs, lvl_ex, lvl_ev, lvl_tst, exS, evS, evA, tstS, allT, evs, evo, bindP, List.lookup, ofString_inj, ofString_beq, subC_tup, subC_lst, binS, binI, small, most, upd, free, freeL, py, pyL, cmp_lt, cmp_le, cmp_gt, cmp_ge, cmp_eqi, cmp_nei, callN, biC, optI, k_len, k_range, k_abs, k_max, k_min, k_int, k_tuple, k_sum, k_zip, n_ahead, n_along, n_area, n_around, n_back, n_behind, n_below, n_big, n_blend, n_both_ends, n_bottom, n_cap, n_cell, n_centre, n_contour, n_contours, n_corner, n_corners, n_cutter, n_dashes, n_dot_now, n_dot_p, n_due, n_end, n_end_in, n_ends_in_dash, n_factor, n_first, n_found, n_gone, n_grain, n_half, n_here, n_inner, n_is_closed, n_join, n_joined, n_k, n_kind, n_later_p, n_left, n_length, n_lengths, n_limit, n_line, n_lines, n_lower, n_many, n_message, n_n, n_normal, n_one, n_other, n_pattern, n_piece, n_piece_k, n_pieces, n_place, n_place_k, n_places, n_quarter, n_right, n_root, n_script, n_second, n_self, n_share, n_sign, n_size, n_some, n_source, n_spot, n_spots, n_square, n_start, n_starts_in_dash, n_step, n_steps, n_style, n_things, n_top, n_turn, n_u, n_v, n_vector, n_way_now, n_whole, n_width, n_x, n_y, sub_vp0, sub_vp1, bind_vp, s1]
      · have h0' : ¬ (i : Int) = 0 := by omega
        have s2 : subC (tbl r) (σ ++ [.list l']) (.obj a) (.int ((i : Int) - 1)) = some (vp (at0 l (i - 1))) := by
          have := sub_at (T := tbl r) (j := i - 1) hk' (at0_get (l := l) (by omega)) (by omega)
          rwa [show ((i - 1 : Nat) : Int) = (i : Int) - 1 by omega] at this
        refine ⟨_, rfl, by by_cases he : at0 l i = at0 l (i - 1) <;> simp [hide, tests, run, exs, lvl_ex, lvl_ev, lvl_tst, exS, evS, evA, tstS, allT, evs, evo, bindP, List.lookup, ofString_inj, ofString_beq, subC_tup, subC_lst, binS, binI, small, most, upd, free, freeL, py, pyL, cmp_lt, cmp_le, cmp_gt, cmp_ge, cmp_eqi, cmp_nei, callN, biC, optI, k_len, k_range, k_abs, k_max, k_min, k_int, k_tuple, k_sum, k_zip, n_ahead, n_along, n_area, n_around, n_back, n_behind, n_below, n_big, n_blend, n_both_ends, n_bottom, n_cap, n_cell, n_centre, n_contour, n_contours, n_corner, n_corners, n_cutter, n_dashes, n_dot_now, n_dot_p, n_due, n_end, n_end_in, n_ends_in_dash, n_factor, n_first, n_found, n_gone, n_grain, n_half, n_here, n_inner, n_is_closed, n_join, n_joined, n_k, n_kind, n_later_p, n_left, n_length, n_lengths, n_limit, n_line, n_lines, n_lower, n_many, n_message, n_n, n_normal, n_one, n_other, n_pattern, n_piece, n_piece_k, n_pieces, n_place, n_place_k, n_places, n_quarter, n_right, n_root, n_script, n_second, n_self, n_share, n_sign, n_size, n_some, n_source, n_spot, n_spots, n_square, n_start, n_starts_in_dash, n_step, n_steps, n_style, n_things, n_top, n_turn, n_u, n_v, n_vector, n_way_now, n_whole, n_width, n_x, n_y, sub_vp0, sub_vp1, bind_vp, newAt, h0, h0', s1, s2, cmp_ptn, he, oa], fun _ => ?_⟩
        simp [hide, run, exs, lvl_ex, lvl_ev, lvl_tst, exS, evS, evA, tstS, allT, evs, evo, bindP, List.lookup, ofString_inj, ofString_beq, subC_tup, subC_lst, binS, binI, small, most, upd, free, freeL, py, pyL, cmp_lt, cmp_le, cmp_gt, cmp_ge, cmp_eqi, cmp_nei, callN, biC, optI, k_len, k_range, k_abs, k_max, k_min, k_int, k_tuple, k_sum, k_zip, n_ahead, n_along, n_area, n_around, n_back, n_behind, n_below, n_big, n_blend, n_both_ends, n_bottom, n_cap, n_cell, n_centre, n_contour, n_contours, n_corner, n_corners, n_cutter, n_dashes, n_dot_now, n_dot_p, n_due, n_end, n_end_in, n_ends_in_dash, n_factor, n_first, n_found, n_gone, n_grain, n_half, n_here, n_inner, n_is_closed, n_join, n_joined, n_k, n_kind, n_later_p, n_left, n_length, n_lengths, n_limit, n_line, n_lines, n_lower, n_many, n_message, n_n, n_normal, n_one, n_other, n_pattern, n_piece, n_piece_k, n_pieces, n_place, n_place_k, n_places, n_quarter, n_right, n_root, n_script, n_second, n_self, n_share, n_sign, n_size, n_some, n_source, n_spot, n_spots, n_square, n_start, n_starts_in_dash, n_step, n_steps, n_style, n_things, n_top, n_turn, n_u, n_v, n_vector, n_way_now, n_whole, n_width, n_x, n_y, sub_vp0, sub_vp1, bind_vp, s1]) (by simp [most]; omega)
    subst hc
    simp
    refine ⟨_, _, ⟨rfl, rfl⟩, ⟨by simp [upd, ofString_inj, bindP, List.lookup, ofString_beq], by simp [upd, ofString_inj, bindP, List.lookup, ofString_beq], by simp [upd, ofString_inj, bindP, List.lookup, ofString_beq], by simp⟩, σ.length, by simp [upd], ?_, Nat.le_refl _⟩
    rw [gl0, dd_eq, List.filter_map, List.map_map, List.map_map, show N.toNat = l.length by omega]
    rfl
  have hdl : (dd l).length ≤ 100 := Nat.le_trans dd_len hl
  refine Ret.step (DueL σ c kd h (pln c l)) ?_ fun L2 σ2 h2 => ?_
  · obtain ⟨⟨i1, i2, i3, i4⟩, j0, j1, j2, j3⟩ := h1
    simp [run, exs, lvl_ex, lvl_ev, lvl_tst, exS, evS, evA, tstS, allT, evs, evo, bindP, List.lookup, ofString_inj, ofString_beq, subC_tup, subC_lst, binS, binI, small, most, upd, free, freeL, py, pyL, cmp_lt, cmp_le, cmp_gt, cmp_ge, cmp_eqi, cmp_nei, callN, biC, optI, k_len, k_range, k_abs, k_max, k_min, k_int, k_tuple, k_sum, k_zip, n_ahead, n_along, n_area, n_around, n_back, n_behind, n_below, n_big, n_blend, n_both_ends, n_bottom, n_cap, n_cell, n_centre, n_contour, n_contours, n_corner, n_corners, n_cutter, n_dashes, n_dot_now, n_dot_p, n_due, n_end, n_end_in, n_ends_in_dash, n_factor, n_first, n_found, n_gone, n_grain, n_half, n_here, n_inner, n_is_closed, n_join, n_joined, n_k, n_kind, n_later_p, n_left, n_length, n_lengths, n_limit, n_line, n_lines, n_lower, n_many, n_message, n_n, n_normal, n_one, n_other, n_pattern, n_piece, n_piece_k, n_pieces, n_place, n_place_k, n_places, n_quarter, n_right, n_root, n_script, n_second, n_self, n_share, n_sign, n_size, n_some, n_source, n_spot, n_spots, n_square, n_start, n_starts_in_dash, n_step, n_steps, n_style, n_things, n_top, n_turn, n_u, n_v, n_vector, n_way_now, n_whole, n_width, n_x, n_y, sub_vp0, sub_vp1, bind_vp]
    generalize hw2 : whileL _ _ _ _ _ = o2
    rcases whileL_of hw2 (fun m L st => DueI σ c kd h L st ∧ ∃ cur : List Pt, (∃ j, L "line" = some (.obj j) ∧ st[j]? = some (.list (cur.map vp)) ∧ σ.length ≤ j) ∧ cur.length = m ∧ m ≤ (dd l).length ∧ pln c l = if c then stripF m cur else cur)
      (fun L st => DueL σ c kd h (pln c l) L st) (fun m L st hI => by
        obtain ⟨hd, cur, ⟨j, j4, j5, j6⟩, rfl, j7, j8⟩ := hI
        obtain ⟨k1, k2, k3, k4⟩ := id hd
        cases c with
        | false =>
          refine .inl ⟨st, by simp [run, exs, lvl_ex, lvl_ev, lvl_tst, exS, evS, evA, tstS, allT, evs, evo, bindP, List.lookup, ofString_inj, ofString_beq, subC_tup, subC_lst, binS, binI, small, most, upd, free, freeL, py, pyL, cmp_lt, cmp_le, cmp_gt, cmp_ge, cmp_eqi, cmp_nei, callN, biC, optI, k_len, k_range, k_abs, k_max, k_min, k_int, k_tuple, k_sum, k_zip, n_ahead, n_along, n_area, n_around, n_back, n_behind, n_below, n_big, n_blend, n_both_ends, n_bottom, n_cap, n_cell, n_centre, n_contour, n_contours, n_corner, n_corners, n_cutter, n_dashes, n_dot_now, n_dot_p, n_due, n_end, n_end_in, n_ends_in_dash, n_factor, n_first, n_found, n_gone, n_grain, n_half, n_here, n_inner, n_is_closed, n_join, n_joined, n_k, n_kind, n_later_p, n_left, n_length, n_lengths, n_limit, n_line, n_lines, n_lower, n_many, n_message, n_n, n_normal, n_one, n_other, n_pattern, n_piece, n_piece_k, n_pieces, n_place, n_place_k, n_places, n_quarter, n_right, n_root, n_script, n_second, n_self, n_share, n_sign, n_size, n_some, n_source, n_spot, n_spots, n_square, n_start, n_starts_in_dash, n_step, n_steps, n_style, n_things, n_top, n_turn, n_u, n_v, n_vector, n_way_now, n_whole, n_width, n_x, n_y, sub_vp0, sub_vp1, bind_vp, k1], hd, j, j4, ?_, j6⟩
          rw [j8]; exact j5
        | true =>
          rw [if_pos rfl] at j8
          have hcl : cur.length ≤ 1000000 := by omega
          by_cases h1 : 1 < cur.length
          · have hne : cur ≠ [] := by intro e; rw [e] at h1; simp at h1
            have hq := last_some hne
            have hu := head_some hne
            have s1 : subC (tbl r) st (.obj j) (.int (-1)) = some (vp (at0 cur (cur.length - 1))) := sub_last j5 (by rw [last_map, hq]; rfl)
            have s2 : subC (tbl r) st (.obj j) (.int 0) = some (vp (at0 cur 0)) := sub_0 j5 (by rw [List.head?_map, hu]; rfl)
            obtain ⟨m', hm'⟩ : ∃ m', cur.length = m' + 1 := ⟨cur.length - 1, by omega⟩
            have h1' : 1 < (cur.length : Int) := by omega
            by_cases hqu : at0 cur 0 = at0 cur (cur.length - 1)
            · refine .inr ⟨m', st, upd L "line" (.obj st.length), st ++ [.list (cur.dropLast.map vp)], hm', ?_, ?_, ⟨by simp [upd, ofString_inj, k1], by simp [upd, ofString_inj, k2], by simp [upd, ofString_inj, k3], take_app k4⟩, cur.dropLast, ⟨st.length, by simp [upd], by rw [gl0]; rfl, by have := lt_of j5; omega⟩, by rw [List.length_dropLast]; omega, by omega, ?_⟩
              · simp [run, exs, lvl_ex, lvl_ev, lvl_tst, exS, evS, evA, tstS, allT, evs, evo, bindP, List.lookup, ofString_inj, ofString_beq, subC_tup, subC_lst, binS, binI, small, most, upd, free, freeL, py, pyL, cmp_lt, cmp_le, cmp_gt, cmp_ge, cmp_eqi, cmp_nei, callN, biC, optI, k_len, k_range, k_abs, k_max, k_min, k_int, k_tuple, k_sum, k_zip, n_ahead, n_along, n_area, n_around, n_back, n_behind, n_below, n_big, n_blend, n_both_ends, n_bottom, n_cap, n_cell, n_centre, n_contour, n_contours, n_corner, n_corners, n_cutter, n_dashes, n_dot_now, n_dot_p, n_due, n_end, n_end_in, n_ends_in_dash, n_factor, n_first, n_found, n_gone, n_grain, n_half, n_here, n_inner, n_is_closed, n_join, n_joined, n_k, n_kind, n_later_p, n_left, n_length, n_lengths, n_limit, n_line, n_lines, n_lower, n_many, n_message, n_n, n_normal, n_one, n_other, n_pattern, n_piece, n_piece_k, n_pieces, n_place, n_place_k, n_places, n_quarter, n_right, n_root, n_script, n_second, n_self, n_share, n_sign, n_size, n_some, n_source, n_spot, n_spots, n_square, n_start, n_starts_in_dash, n_step, n_steps, n_style, n_things, n_top, n_turn, n_u, n_v, n_vector, n_way_now, n_whole, n_width, n_x, n_y, sub_vp0, sub_vp1, bind_vp, k1, j4, items, j5, hcl, h1', s1, s2, cmp_pt, hqu]
              · simp [run, exs, lvl_ex, lvl_ev, lvl_tst, exS, evS, evA, tstS, allT, evs, evo, bindP, List.lookup, ofString_inj, ofString_beq, subC_tup, subC_lst, binS, binI, small, most, upd, free, freeL, py, pyL, cmp_lt, cmp_le, cmp_gt, cmp_ge, cmp_eqi, cmp_nei, callN, biC, optI, k_len, k_range, k_abs, k_max, k_min, k_int, k_tuple, k_sum, k_zip, n_ahead, n_along, n_area, n_around, n_back, n_behind, n_below, n_big, n_blend, n_both_ends, n_bottom, n_cap, n_cell, n_centre, n_contour, n_contours, n_corner, n_corners, n_cutter, n_dashes, n_dot_now, n_dot_p, n_due, n_end, n_end_in, n_ends_in_dash, n_factor, n_first, n_found, n_gone, n_grain, n_half, n_here, n_inner, n_is_closed, n_join, n_joined, n_k, n_kind, n_later_p, n_left, n_length, n_lengths, n_limit, n_line, n_lines, n_lower, n_many, n_message, n_n, n_normal, n_one, n_other, n_pattern, n_piece, n_piece_k, n_pieces, n_place, n_place_k, n_places, n_quarter, n_right, n_root, n_script, n_second, n_self, n_share, n_sign, n_size, n_some, n_source, n_spot, n_spots, n_square, n_start, n_starts_in_dash, n_step, n_steps, n_style, n_things, n_top, n_turn, n_u, n_v, n_vector, n_way_now, n_whole, n_width, n_x, n_y, sub_vp0, sub_vp1, bind_vp, j4, j5, hcl, slice_init]
              · rw [if_pos rfl, j8, hm', stripF, if_pos ⟨h1, by rw [hq, hu, hqu]⟩]
            · refine .inl ⟨st, ?_, hd, j, j4, ?_, j6⟩
              · simp [run, exs, lvl_ex, lvl_ev, lvl_tst, exS, evS, evA, tstS, allT, evs, evo, bindP, List.lookup, ofString_inj, ofString_beq, subC_tup, subC_lst, binS, binI, small, most, upd, free, freeL, py, pyL, cmp_lt, cmp_le, cmp_gt, cmp_ge, cmp_eqi, cmp_nei, callN, biC, optI, k_len, k_range, k_abs, k_max, k_min, k_int, k_tuple, k_sum, k_zip, n_ahead, n_along, n_area, n_around, n_back, n_behind, n_below, n_big, n_blend, n_both_ends, n_bottom, n_cap, n_cell, n_centre, n_contour, n_contours, n_corner, n_corners, n_cutter, n_dashes, n_dot_now, n_dot_p, n_due, n_end, n_end_in, n_ends_in_dash, n_factor, n_first, n_found, n_gone, n_grain, n_half, n_here, n_inner, n_is_closed, n_join, n_joined, n_k, n_kind, n_later_p, n_left, n_length, n_lengths, n_limit, n_line, n_lines, n_lower, n_many, n_message, n_n, n_normal, n_one, n_other, n_pattern, n_piece, n_piece_k, n_pieces, n_place, n_place_k, n_places, n_quarter, n_right, n_root, n_script, n_second, n_self, n_share, n_sign, n_size, n_some, n_source, n_spot, n_spots, n_square, n_start, n_starts_in_dash, n_step, n_steps, n_style, n_things, n_top, n_turn, n_u, n_v, n_vector, n_way_now, n_whole, n_width, n_x, n_y, sub_vp0, sub_vp1, bind_vp, k1, j4, items, j5, hcl, h1', s1, s2, cmp_pt, hqu]
              · rw [j8, hm', stripF, if_neg (by rw [hq, hu]; simp [Ne.symm hqu])]; exact j5
          · have hst : stripF cur.length cur = cur := by
              cases hc : cur.length with
              | zero => rfl
              | succ m' => rw [stripF, if_neg (fun h => h1 h.1)]
            refine .inl ⟨st, ?_, hd, j, j4, ?_, j6⟩
            · have h1n : ¬ 1 < (cur.length : Int) := by omega
              simp [run, exs, lvl_ex, lvl_ev, lvl_tst, exS, evS, evA, tstS, allT, evs, evo, bindP, List.lookup, ofString_inj, ofString_beq, subC_tup, subC_lst, binS, binI, small, most, upd, free, freeL, py, pyL, cmp_lt, cmp_le, cmp_gt, cmp_ge, cmp_eqi, cmp_nei, callN, biC, optI, k_len, k_range, k_abs, k_max, k_min, k_int, k_tuple, k_sum, k_zip, n_ahead, n_along, n_area, n_around, n_back, n_behind, n_below, n_big, n_blend, n_both_ends, n_bottom, n_cap, n_cell, n_centre, n_contour, n_contours, n_corner, n_corners, n_cutter, n_dashes, n_dot_now, n_dot_p, n_due, n_end, n_end_in, n_ends_in_dash, n_factor, n_first, n_found, n_gone, n_grain, n_half, n_here, n_inner, n_is_closed, n_join, n_joined, n_k, n_kind, n_later_p, n_left, n_length, n_lengths, n_limit, n_line, n_lines, n_lower, n_many, n_message, n_n, n_normal, n_one, n_other, n_pattern, n_piece, n_piece_k, n_pieces, n_place, n_place_k, n_places, n_quarter, n_right, n_root, n_script, n_second, n_self, n_share, n_sign, n_size, n_some, n_source, n_spot, n_spots, n_square, n_start, n_starts_in_dash, n_step, n_steps, n_style, n_things, n_top, n_turn, n_u, n_v, n_vector, n_way_now, n_whole, n_width, n_x, n_y, sub_vp0, sub_vp1, bind_vp, k1, j4, items, j5, hcl, h1n]
            · rw [j8, hst]; exact j5) ⟨⟨i1, i2, i3, i4⟩, dd l, ⟨j0, j1, j2, j3⟩, rfl, Nat.le_refl _, by unfold pln strip; cases c <;> rfl⟩ (by omega) with ⟨L2, σ2, rfl, hD⟩
    exact ⟨L2, σ2, rfl, hD⟩
  generalize hm : pln c l = m at *
  obtain ⟨hf, hlen⟩ := pln_fine (c := c) hb
  rw [hm] at hf hlen
  have hm1 : m.length ≤ 1000 := by omega
  have hm' : m.length ≤ 1000000 := by omega
  obtain ⟨⟨i1, i2, i3, i4⟩, j, j1, j2, j3⟩ := h2
  have hj := lt_of j2
  have em : cmpS .Eq (σ2 ++ [.list []]) (.obj j) (.obj σ2.length) = some (decide (m = [])) := cmp_emp (app_l j2) (by rw [gl0]; rfl)
  by_cases h0 : m = []
  · subst h0
    refine Ret.done (v := .obj (σ2.length + 1)) (L1 := L2) (σ1 := σ2 ++ [.list [], .list []]) ?_ ⟨_, rfl, take_app i4, by omega, ?_⟩
    · simp [run, exs, lvl_ex, lvl_ev, lvl_tst, exS, evS, evA, tstS, allT, evs, evo, bindP, List.lookup, ofString_inj, ofString_beq, subC_tup, subC_lst, binS, binI, small, most, upd, free, freeL, py, pyL, cmp_lt, cmp_le, cmp_gt, cmp_ge, cmp_eqi, cmp_nei, callN, biC, optI, k_len, k_range, k_abs, k_max, k_min, k_int, k_tuple, k_sum, k_zip, n_ahead, n_along, n_area, n_around, n_back, n_behind, n_below, n_big, n_blend, n_both_ends, n_bottom, n_cap, n_cell, n_centre, n_contour, n_contours, n_corner, n_corners, n_cutter, n_dashes, n_dot_now, n_dot_p, n_due, n_end, n_end_in, n_ends_in_dash, n_factor, n_first, n_found, n_gone, n_grain, n_half, n_here, n_inner, n_is_closed, n_join, n_joined, n_k, n_kind, n_later_p, n_left, n_length, n_lengths, n_limit, n_line, n_lines, n_lower, n_many, n_message, n_n, n_normal, n_one, n_other, n_pattern, n_piece, n_piece_k, n_pieces, n_place, n_place_k, n_places, n_quarter, n_right, n_root, n_script, n_second, n_self, n_share, n_sign, n_size, n_some, n_source, n_spot, n_spots, n_square, n_start, n_starts_in_dash, n_step, n_steps, n_style, n_things, n_top, n_turn, n_u, n_v, n_vector, n_way_now, n_whole, n_width, n_x, n_y, sub_vp0, sub_vp1, bind_vp, j1, em]
    · rw [gl]; simp [pieces, hm]
  have hm0 : m.length ≠ 0 := fun h => h0 (List.length_eq_zero_iff.mp h)
  have e0 : ∀ l', subC (tbl r) (σ2 ++ l') (.obj j) (.int 0) = some (vp (at0 m 0)) := fun l' => sub_0 (app_l j2) (by rw [List.head?_map, head_some h0]; rfl)
  refine Ret.next (L1 := L2) (σ1 := σ2 ++ [.list []]) (by simp [run, exs, lvl_ex, lvl_ev, lvl_tst, exS, evS, evA, tstS, allT, evs, evo, bindP, List.lookup, ofString_inj, ofString_beq, subC_tup, subC_lst, binS, binI, small, most, upd, free, freeL, py, pyL, cmp_lt, cmp_le, cmp_gt, cmp_ge, cmp_eqi, cmp_nei, callN, biC, optI, k_len, k_range, k_abs, k_max, k_min, k_int, k_tuple, k_sum, k_zip, n_ahead, n_along, n_area, n_around, n_back, n_behind, n_below, n_big, n_blend, n_both_ends, n_bottom, n_cap, n_cell, n_centre, n_contour, n_contours, n_corner, n_corners, n_cutter, n_dashes, n_dot_now, n_dot_p, n_due, n_end, n_end_in, n_ends_in_dash, n_factor, n_first, n_found, n_gone, n_grain, n_half, n_here, n_inner, n_is_closed, n_join, n_joined, n_k, n_kind, n_later_p, n_left, n_length, n_lengths, n_limit, n_line, n_lines, n_lower, n_many, n_message, n_n, n_normal, n_one, n_other, n_pattern, n_piece, n_piece_k, n_pieces, n_place, n_place_k, n_places, n_quarter, n_right, n_root, n_script, n_second, n_self, n_share, n_sign, n_size, n_some, n_source, n_spot, n_spots, n_square, n_start, n_starts_in_dash, n_step, n_steps, n_style, n_things, n_top, n_turn, n_u, n_v, n_vector, n_way_now, n_whole, n_width, n_x, n_y, sub_vp0, sub_vp1, bind_vp, j1, em, h0]) ?_
  by_cases hone : m.length = 1
  · refine Ret.done' (v := .obj (σ2.length + 1)) (σ1 := σ2 ++ [.list [], .list [vps (dotOf kd (at0 m 0) h)]]) ?_ ⟨_, rfl, take_app i4, by omega, ?_⟩
    · cases kd with
      | true => 
        simp [run, exs, lvl_ex, lvl_ev, lvl_tst, exS, evS, evA, tstS, allT, evs, evo, bindP, List.lookup, ofString_inj, ofString_beq, subC_tup, subC_lst, binS, binI, small, most, upd, free, freeL, py, pyL, cmp_lt, cmp_le, cmp_gt, cmp_ge, cmp_eqi, cmp_nei, callN, biC, optI, k_len, k_range, k_abs, k_max, k_min, k_int, k_tuple, k_sum, k_zip, n_ahead, n_along, n_area, n_around, n_back, n_behind, n_below, n_big, n_blend, n_both_ends, n_bottom, n_cap, n_cell, n_centre, n_contour, n_contours, n_corner, n_corners, n_cutter, n_dashes, n_dot_now, n_dot_p, n_due, n_end, n_end_in, n_ends_in_dash, n_factor, n_first, n_found, n_gone, n_grain, n_half, n_here, n_inner, n_is_closed, n_join, n_joined, n_k, n_kind, n_later_p, n_left, n_length, n_lengths, n_limit, n_line, n_lines, n_lower, n_many, n_message, n_n, n_normal, n_one, n_other, n_pattern, n_piece, n_piece_k, n_pieces, n_place, n_place_k, n_places, n_quarter, n_right, n_root, n_script, n_second, n_self, n_share, n_sign, n_size, n_some, n_source, n_spot, n_spots, n_square, n_start, n_starts_in_dash, n_step, n_steps, n_style, n_things, n_top, n_turn, n_u, n_v, n_vector, n_way_now, n_whole, n_width, n_x, n_y, sub_vp0, sub_vp1, bind_vp, bindT_name, bindT_tup, bindT_obj, names?, updL, i2, i3, j1, items, app_l j2, hone, hm', e0, bind_vp, kdV, s_ss, dotOf, sqr, vps, vp]
      | false => 
        simp [run, exs, lvl_ex, lvl_ev, lvl_tst, exS, evS, evA, tstS, allT, evs, evo, bindP, List.lookup, ofString_inj, ofString_beq, subC_tup, subC_lst, binS, binI, small, most, upd, free, freeL, py, pyL, cmp_lt, cmp_le, cmp_gt, cmp_ge, cmp_eqi, cmp_nei, callN, biC, optI, k_len, k_range, k_abs, k_max, k_min, k_int, k_tuple, k_sum, k_zip, n_ahead, n_along, n_area, n_around, n_back, n_behind, n_below, n_big, n_blend, n_both_ends, n_bottom, n_cap, n_cell, n_centre, n_contour, n_contours, n_corner, n_corners, n_cutter, n_dashes, n_dot_now, n_dot_p, n_due, n_end, n_end_in, n_ends_in_dash, n_factor, n_first, n_found, n_gone, n_grain, n_half, n_here, n_inner, n_is_closed, n_join, n_joined, n_k, n_kind, n_later_p, n_left, n_length, n_lengths, n_limit, n_line, n_lines, n_lower, n_many, n_message, n_n, n_normal, n_one, n_other, n_pattern, n_piece, n_piece_k, n_pieces, n_place, n_place_k, n_places, n_quarter, n_right, n_root, n_script, n_second, n_self, n_share, n_sign, n_size, n_some, n_source, n_spot, n_spots, n_square, n_start, n_starts_in_dash, n_step, n_steps, n_style, n_things, n_top, n_turn, n_u, n_v, n_vector, n_way_now, n_whole, n_width, n_x, n_y, sub_vp0, sub_vp1, bind_vp, bindT_name, bindT_tup, bindT_obj, names?, updL, i2, i3, j1, items, app_l j2, hone, hm', e0, bind_vp, kdV, s_bs, dotOf, vps]
    · rw [gl]; simp [pieces, hm, h0, hone]
  have h2 : 2 ≤ m.length := by omega
  have h1' : ¬ (m.length : Int) = 1 := by omega
  refine Ret.next (L1 := L2) (σ1 := σ2 ++ [.list []]) (by simp [run, exs, lvl_ex, lvl_ev, lvl_tst, exS, evS, evA, tstS, allT, evs, evo, bindP, List.lookup, ofString_inj, ofString_beq, subC_tup, subC_lst, binS, binI, small, most, upd, free, freeL, py, pyL, cmp_lt, cmp_le, cmp_gt, cmp_ge, cmp_eqi, cmp_nei, callN, biC, optI, k_len, k_range, k_abs, k_max, k_min, k_int, k_tuple, k_sum, k_zip, n_ahead, n_along, n_area, n_around, n_back, n_behind, n_below, n_big, n_blend, n_both_ends, n_bottom, n_cap, n_cell, n_centre, n_contour, n_contours, n_corner, n_corners, n_cutter, n_dashes, n_dot_now, n_dot_p, n_due, n_end, n_end_in, n_ends_in_dash, n_factor, n_first, n_found, n_gone, n_grain, n_half, n_here, n_inner, n_is_closed, n_join, n_joined, n_k, n_kind, n_later_p, n_left, n_length, n_lengths, n_limit, n_line, n_lines, n_lower, n_many, n_message, n_n, n_normal, n_one, n_other, n_pattern, n_piece, n_piece_k, n_pieces, n_place, n_place_k, n_places, n_quarter, n_right, n_root, n_script, n_second, n_self, n_share, n_sign, n_size, n_some, n_source, n_spot, n_spots, n_square, n_start, n_starts_in_dash, n_step, n_steps, n_style, n_things, n_top, n_turn, n_u, n_v, n_vector, n_way_now, n_whole, n_width, n_x, n_y, sub_vp0, sub_vp1, bind_vp, j1, items, app_l j2, hm', h1']) ?_
  have et : (m.map vp).take 1 = [vp (at0 m 0)] := by
    cases m with
    | nil => exact absurd rfl h0
    | cons a m => rfl
  have et' : m.take 1 = [at0 m 0] := by
    cases m with
    | nil => exact absurd rfl h0
    | cons a m => rfl
  have hA : ∃ A : List Pt, A = (if c then m ++ m.take 1 else m) ∧ Apart A ∧ A.length ≤ 1000 := by
    refine ⟨_, rfl, ?_, ?_⟩
    · cases c with
      | true => exact hf.around h2
      | false => exact hf.apart
    · cases c <;> simp [et'] <;> omega
  obtain ⟨A, eA, aA, lA⟩ := hA
  refine Ret.step (fun L st => DueL σ c kd h m L st ∧ ∃ q, L "around" = some (.obj q) ∧ st[q]? = some (.list (A.map vp))) ?_ fun L3 σ3 h3 => ?_
  · cases c with
    | true =>
      have q1 : m.length ≤ 999999 := by omega
      refine ⟨upd L2 "around" (.obj (σ2.length + 2)), σ2 ++ [.list [], .list [vp (at0 m 0)], .list (m.map vp ++ [vp (at0 m 0)])], ?_, ⟨⟨by simp [upd, ofString_inj, i1], by simp [upd, ofString_inj, i2], by simp [upd, ofString_inj, i3], take_app i4⟩, j, by simp [upd, ofString_inj, j1], app_l j2, j3⟩, _, upd_self, ?_⟩
      · simp [run, exs, lvl_ex, lvl_ev, lvl_tst, exS, evS, evA, tstS, allT, evs, evo, bindP, List.lookup, ofString_inj, ofString_beq, subC_tup, subC_lst, binS, binI, small, most, upd, free, freeL, py, pyL, cmp_lt, cmp_le, cmp_gt, cmp_ge, cmp_eqi, cmp_nei, callN, biC, optI, k_len, k_range, k_abs, k_max, k_min, k_int, k_tuple, k_sum, k_zip, n_ahead, n_along, n_area, n_around, n_back, n_behind, n_below, n_big, n_blend, n_both_ends, n_bottom, n_cap, n_cell, n_centre, n_contour, n_contours, n_corner, n_corners, n_cutter, n_dashes, n_dot_now, n_dot_p, n_due, n_end, n_end_in, n_ends_in_dash, n_factor, n_first, n_found, n_gone, n_grain, n_half, n_here, n_inner, n_is_closed, n_join, n_joined, n_k, n_kind, n_later_p, n_left, n_length, n_lengths, n_limit, n_line, n_lines, n_lower, n_many, n_message, n_n, n_normal, n_one, n_other, n_pattern, n_piece, n_piece_k, n_pieces, n_place, n_place_k, n_places, n_quarter, n_right, n_root, n_script, n_second, n_self, n_share, n_sign, n_size, n_some, n_source, n_spot, n_spots, n_square, n_start, n_starts_in_dash, n_step, n_steps, n_style, n_things, n_top, n_turn, n_u, n_v, n_vector, n_way_now, n_whole, n_width, n_x, n_y, sub_vp0, sub_vp1, bind_vp, i1, j1, app_l j2, hm', slice_first, et, gl, q1]
      · rw [gl, eA, et']; simp
    | false =>
      refine ⟨upd L2 "around" (.obj j), σ2 ++ [.list []], ?_, ⟨⟨by simp [upd, ofString_inj, i1], by simp [upd, ofString_inj, i2], by simp [upd, ofString_inj, i3], take_app i4⟩, j, by simp [upd, ofString_inj, j1], app_l j2, j3⟩, _, upd_self, ?_⟩
      · simp [run, exs, lvl_ex, lvl_ev, lvl_tst, exS, evS, evA, tstS, allT, evs, evo, bindP, List.lookup, ofString_inj, ofString_beq, subC_tup, subC_lst, binS, binI, small, most, upd, free, freeL, py, pyL, cmp_lt, cmp_le, cmp_gt, cmp_ge, cmp_eqi, cmp_nei, callN, biC, optI, k_len, k_range, k_abs, k_max, k_min, k_int, k_tuple, k_sum, k_zip, n_ahead, n_along, n_area, n_around, n_back, n_behind, n_below, n_big, n_blend, n_both_ends, n_bottom, n_cap, n_cell, n_centre, n_contour, n_contours, n_corner, n_corners, n_cutter, n_dashes, n_dot_now, n_dot_p, n_due, n_end, n_end_in, n_ends_in_dash, n_factor, n_first, n_found, n_gone, n_grain, n_half, n_here, n_inner, n_is_closed, n_join, n_joined, n_k, n_kind, n_later_p, n_left, n_length, n_lengths, n_limit, n_line, n_lines, n_lower, n_many, n_message, n_n, n_normal, n_one, n_other, n_pattern, n_piece, n_piece_k, n_pieces, n_place, n_place_k, n_places, n_quarter, n_right, n_root, n_script, n_second, n_self, n_share, n_sign, n_size, n_some, n_source, n_spot, n_spots, n_square, n_start, n_starts_in_dash, n_step, n_steps, n_style, n_things, n_top, n_turn, n_u, n_v, n_vector, n_way_now, n_whole, n_width, n_x, n_y, sub_vp0, sub_vp1, bind_vp, i1, j1]
      · rw [app_l j2, eA]; rfl
  clear i1 i2 i3 i4 j1 j2 j3 hj em e0 et et' σ2 L2
  refine Ret.step (fun L st => DueL σ c kd h m L st ∧ ∃ f, L "found" = some (.obj f) ∧ st[f]? = some (.list ((sides A h).map vps)) ∧ σ.length ≤ f ∧ L "line" ≠ some (.obj f)) ?_ fun L4 σ4 h4 => ?_
  · obtain ⟨⟨⟨i1, i2, i3, i4⟩, j, j1, j2, j3⟩, q, q1, q2⟩ := h3
    have lA' : A.length ≤ 1000000 := by omega
    simp [run, exs, lvl_ex, lvl_ev, lvl_tst, exS, evS, evA, tstS, allT, evs, evo, bindP, List.lookup, ofString_inj, ofString_beq, subC_tup, subC_lst, binS, binI, small, most, upd, free, freeL, py, pyL, cmp_lt, cmp_le, cmp_gt, cmp_ge, cmp_eqi, cmp_nei, callN, biC, optI, k_len, k_range, k_abs, k_max, k_min, k_int, k_tuple, k_sum, k_zip, n_ahead, n_along, n_area, n_around, n_back, n_behind, n_below, n_big, n_blend, n_both_ends, n_bottom, n_cap, n_cell, n_centre, n_contour, n_contours, n_corner, n_corners, n_cutter, n_dashes, n_dot_now, n_dot_p, n_due, n_end, n_end_in, n_ends_in_dash, n_factor, n_first, n_found, n_gone, n_grain, n_half, n_here, n_inner, n_is_closed, n_join, n_joined, n_k, n_kind, n_later_p, n_left, n_length, n_lengths, n_limit, n_line, n_lines, n_lower, n_many, n_message, n_n, n_normal, n_one, n_other, n_pattern, n_piece, n_piece_k, n_pieces, n_place, n_place_k, n_places, n_quarter, n_right, n_root, n_script, n_second, n_self, n_share, n_sign, n_size, n_some, n_source, n_spot, n_spots, n_square, n_start, n_starts_in_dash, n_step, n_steps, n_style, n_things, n_top, n_turn, n_u, n_v, n_vector, n_way_now, n_whole, n_width, n_x, n_y, sub_vp0, sub_vp1, bind_vp, bindT_name, bindT_tup, bindT_obj, names?, updL, k_root_floor, k_nearest_root_share, k_way_of, k_moved_by, k_turned_about, k_normal_of, k_along_of, k_parallel, k_area_twice_of, k_one_sense, k_is_at_least_root, k_is_within_limit, k_bevel_spots, k_join_spots, k_square_about, k_cap_spots, k_dot_spots, k_dashed, k_plain_line, k_side_pieces, k_join_pieces, k_corners_of, k_stroked_line, k_stroked, k_l_pool, k_l_take, k_l_one, k_l_normal, k_l_sensed, k_l_at, k_l_side, k_l_corner, k_l_cap, k_l_due, k_l_drawn, k_Corner, k_Pattern, k_Style, k_MOST_STEPS, overE, q1, q2, slice_tail, lA', app_l q2, gl0]
    generalize hw : clauses _ _ _ _ _ _ _ _ = o
    have hz : zipT (A.map vp) (A.map vp).tail = (List.range (A.length - 1)).map fun i => .tup [vp (at0 A i), vp (at0 A (i + 1))] := by
      rw [← zip_next]; simp
    have hqlt := lt_of q2
    have hc := clauses1_of (σ := σ3 ++ [.list (A.map vp).tail]) hw (by simp) (by simp) (fun _ => true) (fun v => match v with | .tup [.tup [.int a, .int b], .tup [.int c, .int d]] => vps (quad (a, b) (c, d) h) | _ => .none) (fun l' => by
      refine still_two_mk (app_l (app_l q2)) (app_l (by rw [gl0]; rfl)) (by omega) (by simpa using lA) (by simp; omega)) (fun v hv l' => by
      rw [hz] at hv
      obtain ⟨i, hi, rfl⟩ := List.mem_map.mp hv
      have hi' := List.mem_range.mp hi
      refine ⟨_, bindT_tup, by simp [tests], fun _ => ?_⟩
      simp [hide, run, exs, lvl_ex, lvl_ev, lvl_tst, exS, evS, evA, tstS, allT, evs, evo, bindP, List.lookup, ofString_inj, ofString_beq, subC_tup, subC_lst, binS, binI, small, most, upd, free, freeL, py, pyL, cmp_lt, cmp_le, cmp_gt, cmp_ge, cmp_eqi, cmp_nei, callN, biC, optI, k_len, k_range, k_abs, k_max, k_min, k_int, k_tuple, k_sum, k_zip, n_ahead, n_along, n_area, n_around, n_back, n_behind, n_below, n_big, n_blend, n_both_ends, n_bottom, n_cap, n_cell, n_centre, n_contour, n_contours, n_corner, n_corners, n_cutter, n_dashes, n_dot_now, n_dot_p, n_due, n_end, n_end_in, n_ends_in_dash, n_factor, n_first, n_found, n_gone, n_grain, n_half, n_here, n_inner, n_is_closed, n_join, n_joined, n_k, n_kind, n_later_p, n_left, n_length, n_lengths, n_limit, n_line, n_lines, n_lower, n_many, n_message, n_n, n_normal, n_one, n_other, n_pattern, n_piece, n_piece_k, n_pieces, n_place, n_place_k, n_places, n_quarter, n_right, n_root, n_script, n_second, n_self, n_share, n_sign, n_size, n_some, n_source, n_spot, n_spots, n_square, n_start, n_starts_in_dash, n_step, n_steps, n_style, n_things, n_top, n_turn, n_u, n_v, n_vector, n_way_now, n_whole, n_width, n_x, n_y, sub_vp0, sub_vp1, bind_vp, bindT_name, bindT_tup, bindT_obj, names?, updL, k_root_floor, k_nearest_root_share, k_way_of, k_moved_by, k_turned_about, k_normal_of, k_along_of, k_parallel, k_area_twice_of, k_one_sense, k_is_at_least_root, k_is_within_limit, k_bevel_spots, k_join_spots, k_square_about, k_cap_spots, k_dot_spots, k_dashed, k_plain_line, k_side_pieces, k_join_pieces, k_corners_of, k_stroked_line, k_stroked, k_l_pool, k_l_take, k_l_one, k_l_normal, k_l_sensed, k_l_at, k_l_side, k_l_corner, k_l_cap, k_l_due, k_l_drawn, k_Corner, k_Pattern, k_Style, k_MOST_STEPS, i3, law_side_c (aA i (by omega)) hh]
      rfl) (by rw [hz]; simp [most]; omega)
    subst hc
    simp
    refine ⟨_, _, ⟨rfl, rfl⟩, ⟨⟨by simp [upd, ofString_inj, i1], by simp [upd, ofString_inj, i2], by simp [upd, ofString_inj, i3], take_app i4⟩, j, by simp [upd, ofString_inj, j1], app_l j2, j3⟩, _, upd_self, ?_, ?_, ?_⟩
    · rw [gl, filter_tt, hz, List.map_map]
      simp [sides]
      exact fun _ _ => rfl
    · have := lt_of j2; omega
    · have := lt_of j2
      simp [upd, ofString_inj, j1]
      omega
  refine Ret.step (fun L st => (DueL σ c kd h m L st ∧ ∃ f, L "found" = some (.obj f) ∧ st[f]? = some (.list ((sides A h).map vps)) ∧ σ.length ≤ f ∧ L "line" ≠ some (.obj f)) ∧ L "places" = some (plV c m.length)) ?_ fun L5 σ5 h5 => ?_
  · obtain ⟨⟨⟨i1, i2, i3, i4⟩, j, j1, j2, j3⟩, f, f1, f2, f3, f4⟩ := h4
    refine ⟨upd L4 "places" (plV c m.length), σ4, ?_, ⟨⟨⟨by simp [upd, ofString_inj, i1], by simp [upd, ofString_inj, i2], by simp [upd, ofString_inj, i3], i4⟩, j, by simp [upd, ofString_inj, j1], j2, j3⟩, f, by simp [upd, ofString_inj, f1], f2, f3, by simp [upd, ofString_inj]; exact f4⟩, upd_self⟩
    obtain ⟨N, hN⟩ : ∃ N : Int, (m.length : Int) = N := ⟨_, rfl⟩
    cases c <;> simp [run, exs, lvl_ex, lvl_ev, lvl_tst, exS, evS, evA, tstS, allT, evs, evo, bindP, List.lookup, ofString_inj, ofString_beq, subC_tup, subC_lst, binS, binI, small, most, upd, free, freeL, py, pyL, cmp_lt, cmp_le, cmp_gt, cmp_ge, cmp_eqi, cmp_nei, callN, biC, optI, k_len, k_range, k_abs, k_max, k_min, k_int, k_tuple, k_sum, k_zip, n_ahead, n_along, n_area, n_around, n_back, n_behind, n_below, n_big, n_blend, n_both_ends, n_bottom, n_cap, n_cell, n_centre, n_contour, n_contours, n_corner, n_corners, n_cutter, n_dashes, n_dot_now, n_dot_p, n_due, n_end, n_end_in, n_ends_in_dash, n_factor, n_first, n_found, n_gone, n_grain, n_half, n_here, n_inner, n_is_closed, n_join, n_joined, n_k, n_kind, n_later_p, n_left, n_length, n_lengths, n_limit, n_line, n_lines, n_lower, n_many, n_message, n_n, n_normal, n_one, n_other, n_pattern, n_piece, n_piece_k, n_pieces, n_place, n_place_k, n_places, n_quarter, n_right, n_root, n_script, n_second, n_self, n_share, n_sign, n_size, n_some, n_source, n_spot, n_spots, n_square, n_start, n_starts_in_dash, n_step, n_steps, n_style, n_things, n_top, n_turn, n_u, n_v, n_vector, n_way_now, n_whole, n_width, n_x, n_y, sub_vp0, sub_vp1, bind_vp, k_root_floor, k_nearest_root_share, k_way_of, k_moved_by, k_turned_about, k_normal_of, k_along_of, k_parallel, k_area_twice_of, k_one_sense, k_is_at_least_root, k_is_within_limit, k_bevel_spots, k_join_spots, k_square_about, k_cap_spots, k_dot_spots, k_dashed, k_plain_line, k_side_pieces, k_join_pieces, k_corners_of, k_stroked_line, k_stroked, k_l_pool, k_l_take, k_l_one, k_l_normal, k_l_sensed, k_l_at, k_l_side, k_l_corner, k_l_cap, k_l_due, k_l_drawn, k_Corner, k_Pattern, k_Style, k_MOST_STEPS, i1, j1, items, j2, hm', hN, plV]
  refine Ret.step (fun L st => DueL σ c kd h m L st ∧ ∃ f, L "found" = some (.obj f) ∧ st[f]? = some (.list ((sides A h ++ (cors c m).map (crnT h)).map vps)) ∧ σ.length ≤ f ∧ L "line" ≠ some (.obj f)) ?_ fun L6 σ6 h6 => ?_
  · obtain ⟨⟨hd, f, f1, f2, f3, f4⟩, hp⟩ := h5
    simp [run, exs, lvl_ex, lvl_ev, lvl_tst, exS, evS, evA, tstS, allT, evs, evo, bindP, List.lookup, ofString_inj, ofString_beq, subC_tup, subC_lst, binS, binI, small, most, upd, free, freeL, py, pyL, cmp_lt, cmp_le, cmp_gt, cmp_ge, cmp_eqi, cmp_nei, callN, biC, optI, k_len, k_range, k_abs, k_max, k_min, k_int, k_tuple, k_sum, k_zip, n_ahead, n_along, n_area, n_around, n_back, n_behind, n_below, n_big, n_blend, n_both_ends, n_bottom, n_cap, n_cell, n_centre, n_contour, n_contours, n_corner, n_corners, n_cutter, n_dashes, n_dot_now, n_dot_p, n_due, n_end, n_end_in, n_ends_in_dash, n_factor, n_first, n_found, n_gone, n_grain, n_half, n_here, n_inner, n_is_closed, n_join, n_joined, n_k, n_kind, n_later_p, n_left, n_length, n_lengths, n_limit, n_line, n_lines, n_lower, n_many, n_message, n_n, n_normal, n_one, n_other, n_pattern, n_piece, n_piece_k, n_pieces, n_place, n_place_k, n_places, n_quarter, n_right, n_root, n_script, n_second, n_self, n_share, n_sign, n_size, n_some, n_source, n_spot, n_spots, n_square, n_start, n_starts_in_dash, n_step, n_steps, n_style, n_things, n_top, n_turn, n_u, n_v, n_vector, n_way_now, n_whole, n_width, n_x, n_y, sub_vp0, sub_vp1, bind_vp, hp, items_plc hm1]
    generalize hw : forL _ _ _ _ _ = o
    rcases forL_of hw (fun done L st => DueL σ c kd h m L st ∧ ∃ f, L "found" = some (.obj f) ∧ st[f]? = some (.list ((sides A h).map vps ++ done.map fun v => match v with | .int k => vps (crnT h (tri m k.toNat)) | _ => .none)) ∧ σ.length ≤ f ∧ L "line" ≠ some (.obj f)) (fun done L st hI => by rw [still_one]; exact items_plc hm1) (fun done v rest L st hall hI => by
      obtain ⟨⟨⟨i1, i2, i3, i4⟩, j, j1, j2, j3⟩, f, f1, f2, f3, f4⟩ := hI
      obtain ⟨k, hk, rfl⟩ : ∃ k ∈ plc c m.length, v = V.int (k : Nat) := by
        have hv : v ∈ (plc c m.length).map fun (k : Nat) => V.int k := by rw [hall]; simp
        obtain ⟨k, hk, rfl⟩ := List.mem_map.mp hv
        exact ⟨k, hk, rfl⟩
      have hdl : done.length ≤ 1000 := by
        have := congrArg List.length hall
        rw [List.length_map, List.length_append] at this
        have h' : (plc c m.length).length ≤ m.length := by unfold plc; cases c <;> simp
        omega
      have hsl : (sides A h).length ≤ 1000 := by simp [sides]; omega
      have hsd : (sides A h).length + done.length < 1000000 := by omega
      obtain ⟨s1, s2⟩ := hf.cors h2 (tri m k) (by rw [cors_eq]; exact List.mem_map_of_mem hk)
      have hkm : k < m.length := by
        unfold plc at hk
        cases c with
        | true => simpa using hk
        | false => 
          obtain ⟨i, hi, rfl⟩ := List.mem_map.mp hk
          have := List.mem_range.mp hi
          omega
      have e1 : subC (tbl r) st (.obj j) (.int (k : Nat)) = some (vp (at0 m k)) := sub_at j2 (at0_get hkm) (by omega)
      have e2 : subC (tbl r) st (.obj j) (.int ((k : Int) - 1)) = some (vp (at0 m (if k = 0 then m.length - 1 else k - 1))) := by
        by_cases h0 : k = 0
        · subst h0
          rw [if_pos rfl, show (((0 : Nat) : Int) - 1) = -1 from by decide]
          refine sub_last j2 ?_
          rw [List.getLast?_eq_getElem?, List.length_map]
          exact at0_get (by omega)
        · rw [if_neg h0]
          have := sub_at (T := tbl r) (j := k - 1) j2 (at0_get (l := m) (by omega)) (by omega)
          rwa [show ((k - 1 : Nat) : Int) = (k : Int) - 1 by omega] at this
      obtain ⟨N, hN⟩ : ∃ N : Int, (m.length : Int) = N := ⟨_, rfl⟩
      have hN0 : ¬ N = 0 := by omega
      have e3 : subC (tbl r) st (.obj j) (.int (((k : Int) + 1).fmod N)) = some (vp (at0 m ((k + 1) % m.length))) := by
        have hlt : (k + 1) % m.length < m.length := Nat.mod_lt _ (by omega)
        have := sub_at (T := tbl r) (j := (k + 1) % m.length) j2 (at0_get (l := m) hlt) (by omega)
        rwa [fmod_cast, hN] at this
      have e4 := fun n => law_corner_c (r := r) (σ := st) (n := n) s1 s2 hh
      simp only [tri] at e4
      simp [run, exs, lvl_ex, lvl_ev, lvl_tst, exS, evS, evA, tstS, allT, evs, evo, bindP, List.lookup, ofString_inj, ofString_beq, subC_tup, subC_lst, binS, binI, small, most, upd, free, freeL, py, pyL, cmp_lt, cmp_le, cmp_gt, cmp_ge, cmp_eqi, cmp_nei, callN, biC, optI, k_len, k_range, k_abs, k_max, k_min, k_int, k_tuple, k_sum, k_zip, n_ahead, n_along, n_area, n_around, n_back, n_behind, n_below, n_big, n_blend, n_both_ends, n_bottom, n_cap, n_cell, n_centre, n_contour, n_contours, n_corner, n_corners, n_cutter, n_dashes, n_dot_now, n_dot_p, n_due, n_end, n_end_in, n_ends_in_dash, n_factor, n_first, n_found, n_gone, n_grain, n_half, n_here, n_inner, n_is_closed, n_join, n_joined, n_k, n_kind, n_later_p, n_left, n_length, n_lengths, n_limit, n_line, n_lines, n_lower, n_many, n_message, n_n, n_normal, n_one, n_other, n_pattern, n_piece, n_piece_k, n_pieces, n_place, n_place_k, n_places, n_quarter, n_right, n_root, n_script, n_second, n_self, n_share, n_sign, n_size, n_some, n_source, n_spot, n_spots, n_square, n_start, n_starts_in_dash, n_step, n_steps, n_style, n_things, n_top, n_turn, n_u, n_v, n_vector, n_way_now, n_whole, n_width, n_x, n_y, sub_vp0, sub_vp1, bind_vp, bindT_name, bindT_tup, bindT_obj, names?, updL, k_root_floor, k_nearest_root_share, k_way_of, k_moved_by, k_turned_about, k_normal_of, k_along_of, k_parallel, k_area_twice_of, k_one_sense, k_is_at_least_root, k_is_within_limit, k_bevel_spots, k_join_spots, k_square_about, k_cap_spots, k_dot_spots, k_dashed, k_plain_line, k_side_pieces, k_join_pieces, k_corners_of, k_stroked_line, k_stroked, k_l_pool, k_l_take, k_l_one, k_l_normal, k_l_sensed, k_l_at, k_l_side, k_l_corner, k_l_cap, k_l_due, k_l_drawn, k_Corner, k_Pattern, k_Style, k_MOST_STEPS, methC, listM, f1, f2, j1, j2, items, hm', hN, hN0, e1, e2, e3, e4, i3, hsd]
      refine ⟨_, _, ⟨rfl, rfl⟩, ⟨⟨by simp [upd, ofString_inj, i1], by simp [upd, ofString_inj, i2], by simp [upd, ofString_inj, i3], take_set i4 f3⟩, j, by simp [upd, ofString_inj, j1], ?_, j3⟩, f, by simp [upd, ofString_inj, f1], ?_, f3, by simp [upd, ofString_inj]; exact f4⟩
      · rw [set_ne (by intro e; apply f4; rw [j1, e])]; exact j2
      · rw [set_self f2]
        rfl) (by exact ⟨hd, f, f1, by rw [f2]; simp, f3, f4⟩) with ⟨L6, σ6, rfl, hd', f', g1, g2, g3, g4⟩
    refine ⟨L6, σ6, rfl, hd', f', g1, ?_, g3, g4⟩
    rw [g2, cors_eq]
    simp
  obtain ⟨⟨⟨i1, i2, i3, i4⟩, j, j1, j2, j3⟩, f, f1, f2, f3, f4⟩ := h6
  have q2 : (sides A h).length + ((cors c m).length + 2) ≤ 1000000 := by
    have : (cors c m).length ≤ m.length := by unfold cors; cases c <;> simp
    have : (sides A h).length ≤ 1000 := by simp [sides]; omega
    omega
  have q3 : (sides A h).length + (cors c m).length ≤ 999998 := by omega
  have e0 : subC (tbl r) σ6 (.obj j) (.int 0) = some (vp (at0 m 0)) := sub_0 j2 (by rw [List.head?_map, head_some h0]; rfl)
  have e1 : subC (tbl r) σ6 (.obj j) (.int 1) = some (vp (at0 m 1)) := sub_at (j := 1) j2 (at0_get (by omega)) (by decide)
  have e2 : subC (tbl r) σ6 (.obj j) (.int (-1)) = some (vp (at0 m (m.length - 1))) := sub_last j2 (by rw [last_map, last_some h0]; rfl)
  have e3 : subC (tbl r) σ6 (.obj j) (.int (-2)) = some (vp (at0 m (m.length - 2))) := sub_last2 j2 h2
  have c1 := fun j τ => law_cap_c (r := r) (n := j) (σ := τ) (kd := kd) (h := h) (hf.c1 h2) hh
  have c2 := fun j τ => law_cap_c (r := r) (n := j) (σ := τ) (kd := kd) (h := h) (hf.c2 h2) hh
  have ep : pieces c kd l h = pcs c kd m h := by simp [pieces, hm, h0, hone]
  rw [ep]
  cases c with
  | true =>
    refine Ret.next (L1 := L6) (σ1 := σ6) (by simp [run, exs, lvl_ex, lvl_ev, lvl_tst, exS, evS, evA, tstS, allT, evs, evo, bindP, List.lookup, ofString_inj, ofString_beq, subC_tup, subC_lst, binS, binI, small, most, upd, free, freeL, py, pyL, cmp_lt, cmp_le, cmp_gt, cmp_ge, cmp_eqi, cmp_nei, callN, biC, optI, k_len, k_range, k_abs, k_max, k_min, k_int, k_tuple, k_sum, k_zip, n_ahead, n_along, n_area, n_around, n_back, n_behind, n_below, n_big, n_blend, n_both_ends, n_bottom, n_cap, n_cell, n_centre, n_contour, n_contours, n_corner, n_corners, n_cutter, n_dashes, n_dot_now, n_dot_p, n_due, n_end, n_end_in, n_ends_in_dash, n_factor, n_first, n_found, n_gone, n_grain, n_half, n_here, n_inner, n_is_closed, n_join, n_joined, n_k, n_kind, n_later_p, n_left, n_length, n_lengths, n_limit, n_line, n_lines, n_lower, n_many, n_message, n_n, n_normal, n_one, n_other, n_pattern, n_piece, n_piece_k, n_pieces, n_place, n_place_k, n_places, n_quarter, n_right, n_root, n_script, n_second, n_self, n_share, n_sign, n_size, n_some, n_source, n_spot, n_spots, n_square, n_start, n_starts_in_dash, n_step, n_steps, n_style, n_things, n_top, n_turn, n_u, n_v, n_vector, n_way_now, n_whole, n_width, n_x, n_y, sub_vp0, sub_vp1, bind_vp, i1]) ?_
    refine Ret.done' (v := .obj f) (σ1 := σ6) (by simp [run, exs, lvl_ex, lvl_ev, lvl_tst, exS, evS, evA, tstS, allT, evs, evo, bindP, List.lookup, ofString_inj, ofString_beq, subC_tup, subC_lst, binS, binI, small, most, upd, free, freeL, py, pyL, cmp_lt, cmp_le, cmp_gt, cmp_ge, cmp_eqi, cmp_nei, callN, biC, optI, k_len, k_range, k_abs, k_max, k_min, k_int, k_tuple, k_sum, k_zip, n_ahead, n_along, n_area, n_around, n_back, n_behind, n_below, n_big, n_blend, n_both_ends, n_bottom, n_cap, n_cell, n_centre, n_contour, n_contours, n_corner, n_corners, n_cutter, n_dashes, n_dot_now, n_dot_p, n_due, n_end, n_end_in, n_ends_in_dash, n_factor, n_first, n_found, n_gone, n_grain, n_half, n_here, n_inner, n_is_closed, n_join, n_joined, n_k, n_kind, n_later_p, n_left, n_length, n_lengths, n_limit, n_line, n_lines, n_lower, n_many, n_message, n_n, n_normal, n_one, n_other, n_pattern, n_piece, n_piece_k, n_pieces, n_place, n_place_k, n_places, n_quarter, n_right, n_root, n_script, n_second, n_self, n_share, n_sign, n_size, n_some, n_source, n_spot, n_spots, n_square, n_start, n_starts_in_dash, n_step, n_steps, n_style, n_things, n_top, n_turn, n_u, n_v, n_vector, n_way_now, n_whole, n_width, n_x, n_y, sub_vp0, sub_vp1, bind_vp, f1]) ⟨_, rfl, i4, f3, ?_⟩
    rw [f2, pcs, ← eA]; simp
  | false =>
    refine Ret.next (L1 := upd L6 "found" (.obj (σ6.length + 1))) (σ1 := σ6 ++ [.list [vps (capOf kd (at0 m 1) (at0 m 0) h), vps (capOf kd (at0 m (m.length - 2)) (at0 m (m.length - 1)) h)], .list ((pcs false kd m h).map vps)]) ?_ ?_
    · simp [run, exs, lvl_ex, lvl_ev, lvl_tst, exS, evS, evA, tstS, allT, evs, evo, bindP, List.lookup, ofString_inj, ofString_beq, subC_tup, subC_lst, binS, binI, small, most, upd, free, freeL, py, pyL, cmp_lt, cmp_le, cmp_gt, cmp_ge, cmp_eqi, cmp_nei, callN, biC, optI, k_len, k_range, k_abs, k_max, k_min, k_int, k_tuple, k_sum, k_zip, n_ahead, n_along, n_area, n_around, n_back, n_behind, n_below, n_big, n_blend, n_both_ends, n_bottom, n_cap, n_cell, n_centre, n_contour, n_contours, n_corner, n_corners, n_cutter, n_dashes, n_dot_now, n_dot_p, n_due, n_end, n_end_in, n_ends_in_dash, n_factor, n_first, n_found, n_gone, n_grain, n_half, n_here, n_inner, n_is_closed, n_join, n_joined, n_k, n_kind, n_later_p, n_left, n_length, n_lengths, n_limit, n_line, n_lines, n_lower, n_many, n_message, n_n, n_normal, n_one, n_other, n_pattern, n_piece, n_piece_k, n_pieces, n_place, n_place_k, n_places, n_quarter, n_right, n_root, n_script, n_second, n_self, n_share, n_sign, n_size, n_some, n_source, n_spot, n_spots, n_square, n_start, n_starts_in_dash, n_step, n_steps, n_style, n_things, n_top, n_turn, n_u, n_v, n_vector, n_way_now, n_whole, n_width, n_x, n_y, sub_vp0, sub_vp1, bind_vp, k_root_floor, k_nearest_root_share, k_way_of, k_moved_by, k_turned_about, k_normal_of, k_along_of, k_parallel, k_area_twice_of, k_one_sense, k_is_at_least_root, k_is_within_limit, k_bevel_spots, k_join_spots, k_square_about, k_cap_spots, k_dot_spots, k_dashed, k_plain_line, k_side_pieces, k_join_pieces, k_corners_of, k_stroked_line, k_stroked, k_l_pool, k_l_take, k_l_one, k_l_normal, k_l_sensed, k_l_at, k_l_side, k_l_corner, k_l_cap, k_l_due, k_l_drawn, k_Corner, k_Pattern, k_Style, k_MOST_STEPS, i1, i2, i3, f1, j1, e0, e1, e2, e3, c1, c2, app_l f2, gl0, q2, q3]
      rw [pcs, ← eA]; simp
    · refine Ret.done' (v := .obj (σ6.length + 1)) (σ1 := σ6 ++ [.list [vps (capOf kd (at0 m 1) (at0 m 0) h), vps (capOf kd (at0 m (m.length - 2)) (at0 m (m.length - 1)) h)], .list ((pcs false kd m h).map vps)]) (by simp [run, exs, lvl_ex, lvl_ev, lvl_tst, exS, evS, evA, tstS, allT, evs, evo, bindP, List.lookup, ofString_inj, ofString_beq, subC_tup, subC_lst, binS, binI, small, most, upd, free, freeL, py, pyL, cmp_lt, cmp_le, cmp_gt, cmp_ge, cmp_eqi, cmp_nei, callN, biC, optI, k_len, k_range, k_abs, k_max, k_min, k_int, k_tuple, k_sum, k_zip, n_ahead, n_along, n_area, n_around, n_back, n_behind, n_below, n_big, n_blend, n_both_ends, n_bottom, n_cap, n_cell, n_centre, n_contour, n_contours, n_corner, n_corners, n_cutter, n_dashes, n_dot_now, n_dot_p, n_due, n_end, n_end_in, n_ends_in_dash, n_factor, n_first, n_found, n_gone, n_grain, n_half, n_here, n_inner, n_is_closed, n_join, n_joined, n_k, n_kind, n_later_p, n_left, n_length, n_lengths, n_limit, n_line, n_lines, n_lower, n_many, n_message, n_n, n_normal, n_one, n_other, n_pattern, n_piece, n_piece_k, n_pieces, n_place, n_place_k, n_places, n_quarter, n_right, n_root, n_script, n_second, n_self, n_share, n_sign, n_size, n_some, n_source, n_spot, n_spots, n_square, n_start, n_starts_in_dash, n_step, n_steps, n_style, n_things, n_top, n_turn, n_u, n_v, n_vector, n_way_now, n_whole, n_width, n_x, n_y, sub_vp0, sub_vp1, bind_vp]) ⟨_, rfl, take_app i4, by have := lt_of f2; omega, by rw [gl]; rfl⟩
theorem due_c {a : Nat} {l : List Pt} {c kd : Bool} {h : Int} (ha : σ[a]? = some (.list (l.map vp))) (hl : l.length ≤ 100) (hb : Box l) (hh : Hf h) : callD (lvl (tbl r) (n + 160)) d_l_due.1 [.obj a, .bool c, kdV kd, .int h] σ = some (.obj σ.length, σ ++ [.list ((pieces c kd l h).map vps)]) := callD_list'' rfl freeL_pcs (due1 ha hl hb hh)
end Mine
end
section
open PySem PySem.W PyProof.Rows PySem.Calls
set_option linter.unusedVariables false
set_option linter.unusedSimpArgs false
set_option maxRecDepth 100000
namespace Mine
variable {r : Nat → Option (List Int)} {T : Tbl} {F : Funs} {L : Loc} {σ : Sto} {n : Nat}

theorem callD_free {d : DefRec} {vs : List V} (h : vs.length = d.params.args.length) {v : V} (hf : free v = true) (hr : Ret F (bindP (d.params.args.map (·.arg)) vs) σ d.body fun u σ' => u = v ∧ σ'.take σ.length = σ) : callD F d vs σ = some (v, σ) := by
  obtain ⟨u, σ', e, rfl, h1⟩ := hr.run
  rw [callD_run h e, gc_free hf h1]
theorem range_split {α : Type} {N : Nat} {g : Nat → α} {done rest : List α} {v : α} (h : (List.range N).map g = done ++ v :: rest) : v = g done.length ∧ done.length < N := by
  have e := congrArg (·[done.length]?) h
  have hl := congrArg List.length h
  simp only [List.length_map, List.length_range, List.length_append, List.length_cons] at hl
  have hlt : done.length < N := by omega
  simp only [List.getElem?_map, List.getElem?_append_right (Nat.le_refl _), Nat.sub_self, List.getElem?_cons_zero] at e
  rw [List.getElem?_range hlt] at e
  exact ⟨(Option.some.inj e).symm, hlt⟩

def sumR (f : Nat → Int) : Nat → Int
  | 0 => 0
  | k + 1 => sumR f k + f k
def crs (p q : Pt) : Int := p.1 * q.2 - p.2 * q.1
def shoT (m : List Pt) (i : Nat) : Int := crs (at0 m (if i = 0 then m.length - 1 else i - 1)) (at0 m i)
def sho (m : List Pt) : Int := sumR (shoT m) m.length
def fanT (m : List Pt) (i : Nat) : Int := ((at0 m (i + 1)).1 - (at0 m 0).1) * ((at0 m (i + 2)).2 - (at0 m 0).2) - ((at0 m (i + 1)).2 - (at0 m 0).2) * ((at0 m (i + 2)).1 - (at0 m 0).1)
def fan (m : List Pt) : Int := sumR (fanT m) (m.length - 2)
theorem sho_fan {m : List Pt} : sho m = fan m := by
  by_cases h1 : m.length ≤ 1
  · unfold sho fan
    rcases Nat.lt_or_ge m.length 1 with h | h
    · rw [show m.length = 0 by omega]; rfl
    · have e : m.length = 1 := by omega
      rw [e]
      simp [sumR, shoT, e, crs]
      grind
  · have key : ∀ k, sumR (shoT m) (k + 2) - shoT m 0 + crs (at0 m (k + 1)) (at0 m 0) = sumR (fanT m) k := by
      intro k
      induction k with
      | zero =>
        simp [sumR, shoT, crs]
        grind
      | succ k ih =>
        rw [show sumR (fanT m) (k + 1) = sumR (fanT m) k + fanT m k from rfl, ← ih, show sumR (shoT m) (k + 1 + 2) = sumR (shoT m) (k + 2) + shoT m (k + 2) from rfl]
        simp [shoT, fanT, crs]
        grind
    have := key (m.length - 2)
    rw [show m.length - 2 + 2 = m.length by omega, show m.length - 2 + 1 = m.length - 1 by omega] at this
    unfold sho fan
    rw [← this]
    simp [shoT]

def Box2 (l : List Pt) : Prop := ∀ p ∈ l, (-10000 ≤ p.1 ∧ p.1 ≤ 10000) ∧ (-10000 ≤ p.2 ∧ p.2 ≤ 10000)

theorem area_c {k : Nat} {m : List Pt} (hk : σ[k]? = some (.list (m.map vp))) (hl : m.length ≤ 1000) (hb : Box2 m) : callD (lvl (tbl r) (n + 40)) d_area_twice_of.1 [.obj k] σ = some (.int (sho m), σ) := by
  refine callD_free rfl rfl ?_
  have hl' : m.length ≤ 1000000 := by omega
  obtain ⟨N, hN⟩ : ∃ N : Int, (m.length : Int) = N := ⟨_, rfl⟩
  have b1 : -1152921504606846976 < N := by omega
  have b2 : N < 1152921504606846976 := by omega
  have b4 : N ≤ 1000000 := by omega
  simp only [d_area_twice_of]
  refine Ret.next (L1 := upd (bindP ["spots"] [.obj k]) "found" (.int 0)) (σ1 := σ) (by simp [run, exs, lvl_ex, lvl_ev, lvl_tst, exS, evS, evA, tstS, allT, evs, evo, bindP, List.lookup, ofString_inj, ofString_beq, subC_tup, subC_lst, binS, binI, small, most, upd, free, freeL, py, pyL, cmp_lt, cmp_le, cmp_gt, cmp_ge, cmp_eqi, cmp_nei, callN, biC, optI, k_len, k_range, k_abs, k_max, k_min, k_int, k_tuple, k_sum, k_zip, n_ahead, n_along, n_area, n_around, n_back, n_behind, n_below, n_big, n_blend, n_both_ends, n_bottom, n_cap, n_cell, n_centre, n_contour, n_contours, n_corner, n_corners, n_cutter, n_dashes, n_dot_now, n_dot_p, n_due, n_end, n_end_in, n_ends_in_dash, n_factor, n_first, n_found, n_gone, n_grain, n_half, n_here, n_inner, n_is_closed, n_join, n_joined, n_k, n_kind, n_later_p, n_left, n_length, n_lengths, n_limit, n_line, n_lines, n_lower, n_many, n_message, n_n, n_normal, n_one, n_other, n_pattern, n_piece, n_piece_k, n_pieces, n_place, n_place_k, n_places, n_quarter, n_right, n_root, n_script, n_second, n_self, n_share, n_sign, n_size, n_some, n_source, n_spot, n_spots, n_square, n_start, n_starts_in_dash, n_step, n_steps, n_style, n_things, n_top, n_turn, n_u, n_v, n_vector, n_way_now, n_whole, n_width, n_x, n_y, sub_vp0, sub_vp1, bind_vp]) ?_
  refine Ret.step (fun L st => L "found" = some (.int (sho m)) ∧ st = σ) ?_ fun L2 σ2 h2 => ?_
  · simp [run, exs, lvl_ex, lvl_ev, lvl_tst, exS, evS, evA, tstS, allT, evs, evo, bindP, List.lookup, ofString_inj, ofString_beq, subC_tup, subC_lst, binS, binI, small, most, upd, free, freeL, py, pyL, cmp_lt, cmp_le, cmp_gt, cmp_ge, cmp_eqi, cmp_nei, callN, biC, optI, k_len, k_range, k_abs, k_max, k_min, k_int, k_tuple, k_sum, k_zip, n_ahead, n_along, n_area, n_around, n_back, n_behind, n_below, n_big, n_blend, n_both_ends, n_bottom, n_cap, n_cell, n_centre, n_contour, n_contours, n_corner, n_corners, n_cutter, n_dashes, n_dot_now, n_dot_p, n_due, n_end, n_end_in, n_ends_in_dash, n_factor, n_first, n_found, n_gone, n_grain, n_half, n_here, n_inner, n_is_closed, n_join, n_joined, n_k, n_kind, n_later_p, n_left, n_length, n_lengths, n_limit, n_line, n_lines, n_lower, n_many, n_message, n_n, n_normal, n_one, n_other, n_pattern, n_piece, n_piece_k, n_pieces, n_place, n_place_k, n_places, n_quarter, n_right, n_root, n_script, n_second, n_self, n_share, n_sign, n_size, n_some, n_source, n_spot, n_spots, n_square, n_start, n_starts_in_dash, n_step, n_steps, n_style, n_things, n_top, n_turn, n_u, n_v, n_vector, n_way_now, n_whole, n_width, n_x, n_y, sub_vp0, sub_vp1, bind_vp, items, hk, hl', hN, b1, b2, b4]
    generalize hw : forL _ _ _ _ _ = o
    rcases forL_of hw (fun done L st => L "found" = some (.int (sumR (shoT m) done.length)) ∧ L "spots" = some (.obj k) ∧ st = σ) (fun done L st hI => by rw [still_one]; simp [items, small, most, b1, b2, b4]) (fun done v rest L st hall hI => by
      obtain ⟨i1, i2, rfl⟩ := hI
      obtain ⟨rfl, hlt⟩ := range_split hall
      rw [List.length_append, List.length_singleton]
      generalize done.length = i at *
      have hi : i < m.length := by omega
      have e1 : subC (tbl r) st (.obj k) (.int (i : Nat)) = some (vp (at0 m i)) := sub_at hk (at0_get hi) (by omega)
      have e2 : subC (tbl r) st (.obj k) (.int ((i : Int) - 1)) = some (vp (at0 m (if i = 0 then m.length - 1 else i - 1))) := by
        by_cases h0 : i = 0
        · subst h0
          rw [if_pos rfl, show (((0 : Nat) : Int) - 1) = -1 from by decide]
          refine sub_last hk ?_
          rw [List.getLast?_eq_getElem?, List.length_map]
          exact at0_get (by omega)
        · rw [if_neg h0]
          have := sub_at (T := tbl r) (j := i - 1) hk (at0_get (l := m) (by omega)) (by omega)
          rwa [show ((i - 1 : Nat) : Int) = (i : Int) - 1 by omega] at this
      obtain ⟨⟨p1, p2⟩, p3, p4⟩ := hb _ (at0_mem hi)
      obtain ⟨⟨q1, q2⟩, q3, q4⟩ := hb _ (at0_mem (l := m) (i := if i = 0 then m.length - 1 else i - 1) (by split <;> omega))
      have es : sumR (shoT m) (i + 1) = sumR (shoT m) i + ((at0 m (if i = 0 then m.length - 1 else i - 1)).1 * (at0 m i).2 - (at0 m (if i = 0 then m.length - 1 else i - 1)).2 * (at0 m i).1) := rfl
      generalize at0 m (if i = 0 then m.length - 1 else i - 1) = q at *
      generalize at0 m i = p at *
      have c1 : -1152921504606846976 < q.1 := by omega
      have c2 : q.1 < 1152921504606846976 := by omega
      have c3 : -1152921504606846976 < q.2 := by omega
      have c4 : q.2 < 1152921504606846976 := by omega
      simp [run, exs, lvl_ex, lvl_ev, lvl_tst, exS, evS, evA, tstS, allT, evs, evo, bindP, List.lookup, ofString_inj, ofString_beq, subC_tup, subC_lst, binS, binI, small, most, upd, free, freeL, py, pyL, cmp_lt, cmp_le, cmp_gt, cmp_ge, cmp_eqi, cmp_nei, callN, biC, optI, k_len, k_range, k_abs, k_max, k_min, k_int, k_tuple, k_sum, k_zip, n_ahead, n_along, n_area, n_around, n_back, n_behind, n_below, n_big, n_blend, n_both_ends, n_bottom, n_cap, n_cell, n_centre, n_contour, n_contours, n_corner, n_corners, n_cutter, n_dashes, n_dot_now, n_dot_p, n_due, n_end, n_end_in, n_ends_in_dash, n_factor, n_first, n_found, n_gone, n_grain, n_half, n_here, n_inner, n_is_closed, n_join, n_joined, n_k, n_kind, n_later_p, n_left, n_length, n_lengths, n_limit, n_line, n_lines, n_lower, n_many, n_message, n_n, n_normal, n_one, n_other, n_pattern, n_piece, n_piece_k, n_pieces, n_place, n_place_k, n_places, n_quarter, n_right, n_root, n_script, n_second, n_self, n_share, n_sign, n_size, n_some, n_source, n_spot, n_spots, n_square, n_start, n_starts_in_dash, n_step, n_steps, n_style, n_things, n_top, n_turn, n_u, n_v, n_vector, n_way_now, n_whole, n_width, n_x, n_y, sub_vp0, sub_vp1, bind_vp, bindT_name, bindT_tup, bindT_obj, names?, updL, i1, i2, e1, e2, c1, c2, c3, c4]
      exact ⟨_, _, ⟨rfl, rfl⟩, by rw [upd_self, es], by simp [upd, ofString_inj, i2], rfl⟩) (by simp [run, exs, lvl_ex, lvl_ev, lvl_tst, exS, evS, evA, tstS, allT, evs, evo, bindP, List.lookup, ofString_inj, ofString_beq, subC_tup, subC_lst, binS, binI, small, most, upd, free, freeL, py, pyL, cmp_lt, cmp_le, cmp_gt, cmp_ge, cmp_eqi, cmp_nei, callN, biC, optI, k_len, k_range, k_abs, k_max, k_min, k_int, k_tuple, k_sum, k_zip, n_ahead, n_along, n_area, n_around, n_back, n_behind, n_below, n_big, n_blend, n_both_ends, n_bottom, n_cap, n_cell, n_centre, n_contour, n_contours, n_corner, n_corners, n_cutter, n_dashes, n_dot_now, n_dot_p, n_due, n_end, n_end_in, n_ends_in_dash, n_factor, n_first, n_found, n_gone, n_grain, n_half, n_here, n_inner, n_is_closed, n_join, n_joined, n_k, n_kind, n_later_p, n_left, n_length, n_lengths, n_limit, n_line, n_lines, n_lower, n_many, n_message, n_n, n_normal, n_one, n_other, n_pattern, n_piece, n_piece_k, n_pieces, n_place, n_place_k, n_places, n_quarter, n_right, n_root, n_script, n_second, n_self, n_share, n_sign, n_size, n_some, n_source, n_spot, n_spots, n_square, n_start, n_starts_in_dash, n_step, n_steps, n_style, n_things, n_top, n_turn, n_u, n_v, n_vector, n_way_now, n_whole, n_width, n_x, n_y, sub_vp0, sub_vp1, bind_vp, sumR]) with ⟨L6, σ6, rfl, g1, g2, g3⟩
    subst g3
    refine ⟨L6, rfl, ?_⟩
    rw [g1]; simp [sho]
    rw [show N.toNat = m.length by omega]
  · obtain ⟨h2, rfl⟩ := h2
    exact Ret.done' (v := .int (sho m)) (σ1 := σ2) (by simp [run, exs, lvl_ex, lvl_ev, lvl_tst, exS, evS, evA, tstS, allT, evs, evo, bindP, List.lookup, ofString_inj, ofString_beq, subC_tup, subC_lst, binS, binI, small, most, upd, free, freeL, py, pyL, cmp_lt, cmp_le, cmp_gt, cmp_ge, cmp_eqi, cmp_nei, callN, biC, optI, k_len, k_range, k_abs, k_max, k_min, k_int, k_tuple, k_sum, k_zip, n_ahead, n_along, n_area, n_around, n_back, n_behind, n_below, n_big, n_blend, n_both_ends, n_bottom, n_cap, n_cell, n_centre, n_contour, n_contours, n_corner, n_corners, n_cutter, n_dashes, n_dot_now, n_dot_p, n_due, n_end, n_end_in, n_ends_in_dash, n_factor, n_first, n_found, n_gone, n_grain, n_half, n_here, n_inner, n_is_closed, n_join, n_joined, n_k, n_kind, n_later_p, n_left, n_length, n_lengths, n_limit, n_line, n_lines, n_lower, n_many, n_message, n_n, n_normal, n_one, n_other, n_pattern, n_piece, n_piece_k, n_pieces, n_place, n_place_k, n_places, n_quarter, n_right, n_root, n_script, n_second, n_self, n_share, n_sign, n_size, n_some, n_source, n_spot, n_spots, n_square, n_start, n_starts_in_dash, n_step, n_steps, n_style, n_things, n_top, n_turn, n_u, n_v, n_vector, n_way_now, n_whole, n_width, n_x, n_y, sub_vp0, sub_vp1, bind_vp, h2]) ⟨rfl, by simp⟩

def sns (l : List Pt) : Option (List Pt) := if sho (strip (dd l)) = 0 then none else some (if sho (strip (dd l)) > 0 then strip (dd l) else (strip (dd l)).reverse)
def snV : Option (List Pt) → V
  | none => .none
  | some l => vps l
theorem free_snV {o : Option (List Pt)} : free (snV o) = true := by
  cases o with
  | none => rfl
  | some l => exact free_vps
theorem strip_sub {l : List Pt} : (∀ p ∈ strip (dd l), p ∈ l) ∧ (strip (dd l)).length ≤ l.length := by
  obtain ⟨_, _, c, d⟩ := stripF_ok (dd l).length (dd l) (Nat.le_refl _) Nb.dd
  exact ⟨fun p hp => dd_sub p (c p hp), Nat.le_trans d dd_len⟩

theorem one_sense_c {l : List Pt} (hl : l.length ≤ 50) (hb : Box2 l) : callD (lvl (tbl r) (n + 60)) d_one_sense.1 [vps l] σ = some (snV (sns l), σ) := by
  refine callD_free rfl free_snV ?_
  have hl' : l.length ≤ 1000000 := by omega
  have hbm : Box2 (strip (dd l)) := fun p hp => hb p (strip_sub.1 p hp)
  have hlm : (strip (dd l)).length ≤ 50 := Nat.le_trans strip_sub.2 hl
  simp only [d_one_sense]
  refine Ret.next (L1 := upd (bindP ["spots"] [vps l]) "found" (.obj σ.length)) (σ1 := σ ++ [.list []]) (by simp [run, exs, lvl_ex, lvl_ev, lvl_tst, exS, evS, evA, tstS, allT, evs, evo, bindP, List.lookup, ofString_inj, ofString_beq, subC_tup, subC_lst, binS, binI, small, most, upd, free, freeL, py, pyL, cmp_lt, cmp_le, cmp_gt, cmp_ge, cmp_eqi, cmp_nei, callN, biC, optI, k_len, k_range, k_abs, k_max, k_min, k_int, k_tuple, k_sum, k_zip, n_ahead, n_along, n_area, n_around, n_back, n_behind, n_below, n_big, n_blend, n_both_ends, n_bottom, n_cap, n_cell, n_centre, n_contour, n_contours, n_corner, n_corners, n_cutter, n_dashes, n_dot_now, n_dot_p, n_due, n_end, n_end_in, n_ends_in_dash, n_factor, n_first, n_found, n_gone, n_grain, n_half, n_here, n_inner, n_is_closed, n_join, n_joined, n_k, n_kind, n_later_p, n_left, n_length, n_lengths, n_limit, n_line, n_lines, n_lower, n_many, n_message, n_n, n_normal, n_one, n_other, n_pattern, n_piece, n_piece_k, n_pieces, n_place, n_place_k, n_places, n_quarter, n_right, n_root, n_script, n_second, n_self, n_share, n_sign, n_size, n_some, n_source, n_spot, n_spots, n_square, n_start, n_starts_in_dash, n_step, n_steps, n_style, n_things, n_top, n_turn, n_u, n_v, n_vector, n_way_now, n_whole, n_width, n_x, n_y, sub_vp0, sub_vp1, bind_vp]) ?_
  refine Ret.step (fun L st => L "found" = some (.obj σ.length) ∧ st.take σ.length = σ ∧ st[σ.length]? = some (.list ((dd l).map vp))) ?_ fun L2 σ2 h2 => ?_
  · simp [run, exs, lvl_ex, lvl_ev, lvl_tst, exS, evS, evA, tstS, allT, evs, evo, bindP, List.lookup, ofString_inj, ofString_beq, subC_tup, subC_lst, binS, binI, small, most, upd, free, freeL, py, pyL, cmp_lt, cmp_le, cmp_gt, cmp_ge, cmp_eqi, cmp_nei, callN, biC, optI, k_len, k_range, k_abs, k_max, k_min, k_int, k_tuple, k_sum, k_zip, n_ahead, n_along, n_area, n_around, n_back, n_behind, n_below, n_big, n_blend, n_both_ends, n_bottom, n_cap, n_cell, n_centre, n_contour, n_contours, n_corner, n_corners, n_cutter, n_dashes, n_dot_now, n_dot_p, n_due, n_end, n_end_in, n_ends_in_dash, n_factor, n_first, n_found, n_gone, n_grain, n_half, n_here, n_inner, n_is_closed, n_join, n_joined, n_k, n_kind, n_later_p, n_left, n_length, n_lengths, n_limit, n_line, n_lines, n_lower, n_many, n_message, n_n, n_normal, n_one, n_other, n_pattern, n_piece, n_piece_k, n_pieces, n_place, n_place_k, n_places, n_quarter, n_right, n_root, n_script, n_second, n_self, n_share, n_sign, n_size, n_some, n_source, n_spot, n_spots, n_square, n_start, n_starts_in_dash, n_step, n_steps, n_style, n_things, n_top, n_turn, n_u, n_v, n_vector, n_way_now, n_whole, n_width, n_x, n_y, sub_vp0, sub_vp1, bind_vp, bindT_name, bindT_tup, bindT_obj, names?, updL, vps, items, hl']
    generalize hw : forL _ _ _ _ _ = o
    rcases forL_of hw (fun done L st => ∃ dn : List Pt, done = dn.map vp ∧ L "found" = some (.obj σ.length) ∧ st.take σ.length = σ ∧ st[σ.length]? = some (.list ((dd dn).map vp)) ∧ (dd dn).length ≤ dn.length) (fun done L st hI => by
        rw [still_one]; simp [items, most, hl']) (fun done v rest L st hall hI => by
      obtain ⟨dn, rfl, i1, i3, i4, i5⟩ := hI
      obtain ⟨p, rfl⟩ : ∃ p, v = vp p := by
        have hv : v ∈ l.map vp := by rw [hall]; simp
        obtain ⟨p, _, e⟩ := List.mem_map.mp hv
        exact ⟨p, e.symm⟩
      have k1 : σ.length < st.length := lt_of i4
      have hdn : dn.length < 1000 := by
        have := congrArg List.length hall
        simp at this; omega
      have hc : cmpS .Eq (st ++ [.list []]) (.obj σ.length) (.obj st.length) = some (decide (dd dn = [])) := cmp_emp (app_l i4) (by rw [gl0]; rfl)
      have hsz : (dd dn).length < 1000000 := by omega
      have e4 : dd (dn ++ [p]) = ddS (dd dn) p := dd_snoc
      have fin : ∀ {st' : Sto}, st' = (st ++ [Ob.list []]).set σ.length (.list ((dd dn ++ [p]).map vp)) → dd (dn ++ [p]) = dd dn ++ [p] → st'.take σ.length = σ ∧ st'[σ.length]? = some (.list ((dd (dn ++ [p])).map vp)) ∧ (dd (dn ++ [p])).length ≤ (dn ++ [p]).length := by
        rintro st' rfl e
        refine ⟨take_set (take_app i3) (Nat.le_refl _), ?_, dd_len⟩
        rw [set_self (app_l i4), e]
      rcases hlast : (dd dn).getLast? with _ | q
      · have he : dd dn = [] := List.getLast?_eq_none_iff.mp hlast
        simp [run, exs, lvl_ex, lvl_ev, lvl_tst, exS, evS, evA, tstS, allT, evs, evo, bindP, List.lookup, ofString_inj, ofString_beq, subC_tup, subC_lst, binS, binI, small, most, upd, free, freeL, py, pyL, cmp_lt, cmp_le, cmp_gt, cmp_ge, cmp_eqi, cmp_nei, callN, biC, optI, k_len, k_range, k_abs, k_max, k_min, k_int, k_tuple, k_sum, k_zip, n_ahead, n_along, n_area, n_around, n_back, n_behind, n_below, n_big, n_blend, n_both_ends, n_bottom, n_cap, n_cell, n_centre, n_contour, n_contours, n_corner, n_corners, n_cutter, n_dashes, n_dot_now, n_dot_p, n_due, n_end, n_end_in, n_ends_in_dash, n_factor, n_first, n_found, n_gone, n_grain, n_half, n_here, n_inner, n_is_closed, n_join, n_joined, n_k, n_kind, n_later_p, n_left, n_length, n_lengths, n_limit, n_line, n_lines, n_lower, n_many, n_message, n_n, n_normal, n_one, n_other, n_pattern, n_piece, n_piece_k, n_pieces, n_place, n_place_k, n_places, n_quarter, n_right, n_root, n_script, n_second, n_self, n_share, n_sign, n_size, n_some, n_source, n_spot, n_spots, n_square, n_start, n_starts_in_dash, n_step, n_steps, n_style, n_things, n_top, n_turn, n_u, n_v, n_vector, n_way_now, n_whole, n_width, n_x, n_y, sub_vp0, sub_vp1, bind_vp, i1, hc, he, methC, listM, List.getElem?_append_left k1, i4]
        refine ⟨_, _, ⟨rfl, rfl⟩, dn ++ [p], by simp, by simp [upd, ofString_inj, i1], ?_⟩
        exact fin (by rw [he]; rfl) (by rw [e4]; unfold ddS; rw [if_pos (.inl he)])
      · have he : ¬ dd dn = [] := by intro e; rw [e] at hlast; cases hlast
        have hs : subC (tbl r) (st ++ [.list []]) (.obj σ.length) (.int (-1)) = some (vp q) := sub_last (app_l i4) (by rw [last_map, hlast]; rfl)
        by_cases hpq : p = q
        · subst hpq
          simp [run, exs, lvl_ex, lvl_ev, lvl_tst, exS, evS, evA, tstS, allT, evs, evo, bindP, List.lookup, ofString_inj, ofString_beq, subC_tup, subC_lst, binS, binI, small, most, upd, free, freeL, py, pyL, cmp_lt, cmp_le, cmp_gt, cmp_ge, cmp_eqi, cmp_nei, callN, biC, optI, k_len, k_range, k_abs, k_max, k_min, k_int, k_tuple, k_sum, k_zip, n_ahead, n_along, n_area, n_around, n_back, n_behind, n_below, n_big, n_blend, n_both_ends, n_bottom, n_cap, n_cell, n_centre, n_contour, n_contours, n_corner, n_corners, n_cutter, n_dashes, n_dot_now, n_dot_p, n_due, n_end, n_end_in, n_ends_in_dash, n_factor, n_first, n_found, n_gone, n_grain, n_half, n_here, n_inner, n_is_closed, n_join, n_joined, n_k, n_kind, n_later_p, n_left, n_length, n_lengths, n_limit, n_line, n_lines, n_lower, n_many, n_message, n_n, n_normal, n_one, n_other, n_pattern, n_piece, n_piece_k, n_pieces, n_place, n_place_k, n_places, n_quarter, n_right, n_root, n_script, n_second, n_self, n_share, n_sign, n_size, n_some, n_source, n_spot, n_spots, n_square, n_start, n_starts_in_dash, n_step, n_steps, n_style, n_things, n_top, n_turn, n_u, n_v, n_vector, n_way_now, n_whole, n_width, n_x, n_y, sub_vp0, sub_vp1, bind_vp, i1, hc, he, hs, cmp_ptn]
          refine ⟨_, _, ⟨rfl, rfl⟩, dn ++ [p], by simp, by simp [upd, ofString_inj, i1], take_app i3, ?_, dd_len⟩
          rw [app_l i4, e4]; unfold ddS; rw [if_neg (by simp [he, hlast])]
        · simp [run, exs, lvl_ex, lvl_ev, lvl_tst, exS, evS, evA, tstS, allT, evs, evo, bindP, List.lookup, ofString_inj, ofString_beq, subC_tup, subC_lst, binS, binI, small, most, upd, free, freeL, py, pyL, cmp_lt, cmp_le, cmp_gt, cmp_ge, cmp_eqi, cmp_nei, callN, biC, optI, k_len, k_range, k_abs, k_max, k_min, k_int, k_tuple, k_sum, k_zip, n_ahead, n_along, n_area, n_around, n_back, n_behind, n_below, n_big, n_blend, n_both_ends, n_bottom, n_cap, n_cell, n_centre, n_contour, n_contours, n_corner, n_corners, n_cutter, n_dashes, n_dot_now, n_dot_p, n_due, n_end, n_end_in, n_ends_in_dash, n_factor, n_first, n_found, n_gone, n_grain, n_half, n_here, n_inner, n_is_closed, n_join, n_joined, n_k, n_kind, n_later_p, n_left, n_length, n_lengths, n_limit, n_line, n_lines, n_lower, n_many, n_message, n_n, n_normal, n_one, n_other, n_pattern, n_piece, n_piece_k, n_pieces, n_place, n_place_k, n_places, n_quarter, n_right, n_root, n_script, n_second, n_self, n_share, n_sign, n_size, n_some, n_source, n_spot, n_spots, n_square, n_start, n_starts_in_dash, n_step, n_steps, n_style, n_things, n_top, n_turn, n_u, n_v, n_vector, n_way_now, n_whole, n_width, n_x, n_y, sub_vp0, sub_vp1, bind_vp, i1, hc, he, hs, cmp_ptn, hpq, methC, listM, List.getElem?_append_left k1, i4, hsz]
          refine ⟨_, _, ⟨rfl, rfl⟩, dn ++ [p], by simp, by simp [upd, ofString_inj, i1], ?_⟩
          exact fin (by simp) (by rw [e4]; unfold ddS; rw [if_pos (.inr (by rw [hlast]; simpa using Ne.symm hpq))])) ⟨[], rfl, by simp [upd], by simp, by rw [gl0]; rfl, by simp [dd]⟩ with ⟨L', σ', rfl, dn, e0, i1, i3, i4, i5⟩
    have hdl : l = dn := vps_inj e0
    subst hdl
    exact ⟨L', σ', rfl, i1, i3, i4⟩
  have hd50 : (dd l).length ≤ 50 := Nat.le_trans dd_len hl
  refine Ret.step (fun L st => L "found" = some (.obj σ.length) ∧ st.take σ.length = σ ∧ st[σ.length]? = some (.list ((strip (dd l)).map vp))) ?_ fun L3 σ3 h3 => ?_
  · obtain ⟨i1, i3, i4⟩ := h2
    simp [run, exs, lvl_ex, lvl_ev, lvl_tst, exS, evS, evA, tstS, allT, evs, evo, bindP, List.lookup, ofString_inj, ofString_beq, subC_tup, subC_lst, binS, binI, small, most, upd, free, freeL, py, pyL, cmp_lt, cmp_le, cmp_gt, cmp_ge, cmp_eqi, cmp_nei, callN, biC, optI, k_len, k_range, k_abs, k_max, k_min, k_int, k_tuple, k_sum, k_zip, n_ahead, n_along, n_area, n_around, n_back, n_behind, n_below, n_big, n_blend, n_both_ends, n_bottom, n_cap, n_cell, n_centre, n_contour, n_contours, n_corner, n_corners, n_cutter, n_dashes, n_dot_now, n_dot_p, n_due, n_end, n_end_in, n_ends_in_dash, n_factor, n_first, n_found, n_gone, n_grain, n_half, n_here, n_inner, n_is_closed, n_join, n_joined, n_k, n_kind, n_later_p, n_left, n_length, n_lengths, n_limit, n_line, n_lines, n_lower, n_many, n_message, n_n, n_normal, n_one, n_other, n_pattern, n_piece, n_piece_k, n_pieces, n_place, n_place_k, n_places, n_quarter, n_right, n_root, n_script, n_second, n_self, n_share, n_sign, n_size, n_some, n_source, n_spot, n_spots, n_square, n_start, n_starts_in_dash, n_step, n_steps, n_style, n_things, n_top, n_turn, n_u, n_v, n_vector, n_way_now, n_whole, n_width, n_x, n_y, sub_vp0, sub_vp1, bind_vp]
    generalize hw2 : whileL _ _ _ _ _ = o2
    rcases whileL_of hw2 (fun m L st => L "found" = some (.obj σ.length) ∧ st.take σ.length = σ ∧ ∃ cur : List Pt, st[σ.length]? = some (.list (cur.map vp)) ∧ cur.length = m ∧ m ≤ (dd l).length ∧ strip (dd l) = stripF m cur)
      (fun L st => L "found" = some (.obj σ.length) ∧ st.take σ.length = σ ∧ st[σ.length]? = some (.list ((strip (dd l)).map vp))) (fun m L st hI => by
        obtain ⟨j1, j3, cur, j4, rfl, j5, j6⟩ := hI
        have hcl : cur.length ≤ 1000000 := by omega
        by_cases h1 : 1 < cur.length
        · have hne : cur ≠ [] := by intro e; rw [e] at h1; simp at h1
          have hq := last_some hne
          have hu := head_some hne
          have s1 : subC (tbl r) st (.obj σ.length) (.int (-1)) = some (vp (at0 cur (cur.length - 1))) := sub_last j4 (by rw [last_map, hq]; rfl)
          have s2 : subC (tbl r) st (.obj σ.length) (.int 0) = some (vp (at0 cur 0)) := sub_0 j4 (by rw [List.head?_map, hu]; rfl)
          obtain ⟨m', hm'⟩ : ∃ m', cur.length = m' + 1 := ⟨cur.length - 1, by omega⟩
          have h1' : 1 < (cur.length : Int) := by omega
          by_cases hqu : at0 cur (cur.length - 1) = at0 cur 0
          · refine .inr ⟨m', st, L, st.set σ.length (.list (cur.dropLast.map vp)), hm', ?_, ?_, j1, take_set j3 (Nat.le_refl _), cur.dropLast, set_self j4, by rw [List.length_dropLast]; omega, by omega, ?_⟩
            · simp [run, exs, lvl_ex, lvl_ev, lvl_tst, exS, evS, evA, tstS, allT, evs, evo, bindP, List.lookup, ofString_inj, ofString_beq, subC_tup, subC_lst, binS, binI, small, most, upd, free, freeL, py, pyL, cmp_lt, cmp_le, cmp_gt, cmp_ge, cmp_eqi, cmp_nei, callN, biC, optI, k_len, k_range, k_abs, k_max, k_min, k_int, k_tuple, k_sum, k_zip, n_ahead, n_along, n_area, n_around, n_back, n_behind, n_below, n_big, n_blend, n_both_ends, n_bottom, n_cap, n_cell, n_centre, n_contour, n_contours, n_corner, n_corners, n_cutter, n_dashes, n_dot_now, n_dot_p, n_due, n_end, n_end_in, n_ends_in_dash, n_factor, n_first, n_found, n_gone, n_grain, n_half, n_here, n_inner, n_is_closed, n_join, n_joined, n_k, n_kind, n_later_p, n_left, n_length, n_lengths, n_limit, n_line, n_lines, n_lower, n_many, n_message, n_n, n_normal, n_one, n_other, n_pattern, n_piece, n_piece_k, n_pieces, n_place, n_place_k, n_places, n_quarter, n_right, n_root, n_script, n_second, n_self, n_share, n_sign, n_size, n_some, n_source, n_spot, n_spots, n_square, n_start, n_starts_in_dash, n_step, n_steps, n_style, n_things, n_top, n_turn, n_u, n_v, n_vector, n_way_now, n_whole, n_width, n_x, n_y, sub_vp0, sub_vp1, bind_vp, j1, items, j4, hcl, h1', s1, s2, cmp_pt, hqu]
            · simp [run, exs, lvl_ex, lvl_ev, lvl_tst, exS, evS, evA, tstS, allT, evs, evo, bindP, List.lookup, ofString_inj, ofString_beq, subC_tup, subC_lst, binS, binI, small, most, upd, free, freeL, py, pyL, cmp_lt, cmp_le, cmp_gt, cmp_ge, cmp_eqi, cmp_nei, callN, biC, optI, k_len, k_range, k_abs, k_max, k_min, k_int, k_tuple, k_sum, k_zip, n_ahead, n_along, n_area, n_around, n_back, n_behind, n_below, n_big, n_blend, n_both_ends, n_bottom, n_cap, n_cell, n_centre, n_contour, n_contours, n_corner, n_corners, n_cutter, n_dashes, n_dot_now, n_dot_p, n_due, n_end, n_end_in, n_ends_in_dash, n_factor, n_first, n_found, n_gone, n_grain, n_half, n_here, n_inner, n_is_closed, n_join, n_joined, n_k, n_kind, n_later_p, n_left, n_length, n_lengths, n_limit, n_line, n_lines, n_lower, n_many, n_message, n_n, n_normal, n_one, n_other, n_pattern, n_piece, n_piece_k, n_pieces, n_place, n_place_k, n_places, n_quarter, n_right, n_root, n_script, n_second, n_self, n_share, n_sign, n_size, n_some, n_source, n_spot, n_spots, n_square, n_start, n_starts_in_dash, n_step, n_steps, n_style, n_things, n_top, n_turn, n_u, n_v, n_vector, n_way_now, n_whole, n_width, n_x, n_y, sub_vp0, sub_vp1, bind_vp, j1, methC, listM, j4, hq, hcl, free_vp]
            · rw [j6, hm', stripF, if_pos ⟨h1, by rw [hq, hu, hqu]⟩]
          · refine .inl ⟨st, ?_, j1, j3, ?_⟩
            · simp [run, exs, lvl_ex, lvl_ev, lvl_tst, exS, evS, evA, tstS, allT, evs, evo, bindP, List.lookup, ofString_inj, ofString_beq, subC_tup, subC_lst, binS, binI, small, most, upd, free, freeL, py, pyL, cmp_lt, cmp_le, cmp_gt, cmp_ge, cmp_eqi, cmp_nei, callN, biC, optI, k_len, k_range, k_abs, k_max, k_min, k_int, k_tuple, k_sum, k_zip, n_ahead, n_along, n_area, n_around, n_back, n_behind, n_below, n_big, n_blend, n_both_ends, n_bottom, n_cap, n_cell, n_centre, n_contour, n_contours, n_corner, n_corners, n_cutter, n_dashes, n_dot_now, n_dot_p, n_due, n_end, n_end_in, n_ends_in_dash, n_factor, n_first, n_found, n_gone, n_grain, n_half, n_here, n_inner, n_is_closed, n_join, n_joined, n_k, n_kind, n_later_p, n_left, n_length, n_lengths, n_limit, n_line, n_lines, n_lower, n_many, n_message, n_n, n_normal, n_one, n_other, n_pattern, n_piece, n_piece_k, n_pieces, n_place, n_place_k, n_places, n_quarter, n_right, n_root, n_script, n_second, n_self, n_share, n_sign, n_size, n_some, n_source, n_spot, n_spots, n_square, n_start, n_starts_in_dash, n_step, n_steps, n_style, n_things, n_top, n_turn, n_u, n_v, n_vector, n_way_now, n_whole, n_width, n_x, n_y, sub_vp0, sub_vp1, bind_vp, j1, items, j4, hcl, h1', s1, s2, cmp_pt, hqu]
            · rw [j6, hm', stripF, if_neg (by rw [hq, hu]; simp [hqu])]; exact j4
        · have hst : stripF cur.length cur = cur := by
            cases hc : cur.length with
            | zero => rfl
            | succ m' => rw [stripF, if_neg (fun h => h1 h.1)]
          refine .inl ⟨st, ?_, j1, j3, ?_⟩
          · have h1n : ¬ 1 < (cur.length : Int) := by omega
            simp [run, exs, lvl_ex, lvl_ev, lvl_tst, exS, evS, evA, tstS, allT, evs, evo, bindP, List.lookup, ofString_inj, ofString_beq, subC_tup, subC_lst, binS, binI, small, most, upd, free, freeL, py, pyL, cmp_lt, cmp_le, cmp_gt, cmp_ge, cmp_eqi, cmp_nei, callN, biC, optI, k_len, k_range, k_abs, k_max, k_min, k_int, k_tuple, k_sum, k_zip, n_ahead, n_along, n_area, n_around, n_back, n_behind, n_below, n_big, n_blend, n_both_ends, n_bottom, n_cap, n_cell, n_centre, n_contour, n_contours, n_corner, n_corners, n_cutter, n_dashes, n_dot_now, n_dot_p, n_due, n_end, n_end_in, n_ends_in_dash, n_factor, n_first, n_found, n_gone, n_grain, n_half, n_here, n_inner, n_is_closed, n_join, n_joined, n_k, n_kind, n_later_p, n_left, n_length, n_lengths, n_limit, n_line, n_lines, n_lower, n_many, n_message, n_n, n_normal, n_one, n_other, n_pattern, n_piece, n_piece_k, n_pieces, n_place, n_place_k, n_places, n_quarter, n_right, n_root, n_script, n_second, n_self, n_share, n_sign, n_size, n_some, n_source, n_spot, n_spots, n_square, n_start, n_starts_in_dash, n_step, n_steps, n_style, n_things, n_top, n_turn, n_u, n_v, n_vector, n_way_now, n_whole, n_width, n_x, n_y, sub_vp0, sub_vp1, bind_vp, j1, items, j4, hcl, h1n]
          · rw [j6, hst]; exact j4) ⟨i1, i3, dd l, i4, rfl, Nat.le_refl _, rfl⟩ (by omega) with ⟨L2, σ2, rfl, hD⟩
    exact ⟨L2, σ2, rfl, hD⟩
  obtain ⟨i1, i3, i4⟩ := h3
  unfold sns
  generalize strip (dd l) = m at *
  have ar := fun n => area_c (r := r) (n := n) i4 (by omega) hbm
  refine Ret.next (L1 := upd L3 "area" (.int (sho m))) (σ1 := σ3) (by simp [run, exs, lvl_ex, lvl_ev, lvl_tst, exS, evS, evA, tstS, allT, evs, evo, bindP, List.lookup, ofString_inj, ofString_beq, subC_tup, subC_lst, binS, binI, small, most, upd, free, freeL, py, pyL, cmp_lt, cmp_le, cmp_gt, cmp_ge, cmp_eqi, cmp_nei, callN, biC, optI, k_len, k_range, k_abs, k_max, k_min, k_int, k_tuple, k_sum, k_zip, n_ahead, n_along, n_area, n_around, n_back, n_behind, n_below, n_big, n_blend, n_both_ends, n_bottom, n_cap, n_cell, n_centre, n_contour, n_contours, n_corner, n_corners, n_cutter, n_dashes, n_dot_now, n_dot_p, n_due, n_end, n_end_in, n_ends_in_dash, n_factor, n_first, n_found, n_gone, n_grain, n_half, n_here, n_inner, n_is_closed, n_join, n_joined, n_k, n_kind, n_later_p, n_left, n_length, n_lengths, n_limit, n_line, n_lines, n_lower, n_many, n_message, n_n, n_normal, n_one, n_other, n_pattern, n_piece, n_piece_k, n_pieces, n_place, n_place_k, n_places, n_quarter, n_right, n_root, n_script, n_second, n_self, n_share, n_sign, n_size, n_some, n_source, n_spot, n_spots, n_square, n_start, n_starts_in_dash, n_step, n_steps, n_style, n_things, n_top, n_turn, n_u, n_v, n_vector, n_way_now, n_whole, n_width, n_x, n_y, sub_vp0, sub_vp1, bind_vp, k_root_floor, k_nearest_root_share, k_way_of, k_moved_by, k_turned_about, k_normal_of, k_along_of, k_parallel, k_area_twice_of, k_one_sense, k_is_at_least_root, k_is_within_limit, k_bevel_spots, k_join_spots, k_square_about, k_cap_spots, k_dot_spots, k_dashed, k_plain_line, k_side_pieces, k_join_pieces, k_corners_of, k_stroked_line, k_stroked, k_l_pool, k_l_take, k_l_one, k_l_normal, k_l_sensed, k_l_at, k_l_side, k_l_corner, k_l_cap, k_l_due, k_l_drawn, k_Corner, k_Pattern, k_Style, k_MOST_STEPS, i1, ar]) ?_
  by_cases hz : sho m = 0
  · exact Ret.done' (v := .none) (σ1 := σ3) (by simp [run, exs, lvl_ex, lvl_ev, lvl_tst, exS, evS, evA, tstS, allT, evs, evo, bindP, List.lookup, ofString_inj, ofString_beq, subC_tup, subC_lst, binS, binI, small, most, upd, free, freeL, py, pyL, cmp_lt, cmp_le, cmp_gt, cmp_ge, cmp_eqi, cmp_nei, callN, biC, optI, k_len, k_range, k_abs, k_max, k_min, k_int, k_tuple, k_sum, k_zip, n_ahead, n_along, n_area, n_around, n_back, n_behind, n_below, n_big, n_blend, n_both_ends, n_bottom, n_cap, n_cell, n_centre, n_contour, n_contours, n_corner, n_corners, n_cutter, n_dashes, n_dot_now, n_dot_p, n_due, n_end, n_end_in, n_ends_in_dash, n_factor, n_first, n_found, n_gone, n_grain, n_half, n_here, n_inner, n_is_closed, n_join, n_joined, n_k, n_kind, n_later_p, n_left, n_length, n_lengths, n_limit, n_line, n_lines, n_lower, n_many, n_message, n_n, n_normal, n_one, n_other, n_pattern, n_piece, n_piece_k, n_pieces, n_place, n_place_k, n_places, n_quarter, n_right, n_root, n_script, n_second, n_self, n_share, n_sign, n_size, n_some, n_source, n_spot, n_spots, n_square, n_start, n_starts_in_dash, n_step, n_steps, n_style, n_things, n_top, n_turn, n_u, n_v, n_vector, n_way_now, n_whole, n_width, n_x, n_y, sub_vp0, sub_vp1, bind_vp, hz]) ⟨by rw [if_pos hz]; rfl, i3⟩
  · refine Ret.next (L1 := upd L3 "area" (.int (sho m))) (σ1 := σ3) (by simp [run, exs, lvl_ex, lvl_ev, lvl_tst, exS, evS, evA, tstS, allT, evs, evo, bindP, List.lookup, ofString_inj, ofString_beq, subC_tup, subC_lst, binS, binI, small, most, upd, free, freeL, py, pyL, cmp_lt, cmp_le, cmp_gt, cmp_ge, cmp_eqi, cmp_nei, callN, biC, optI, k_len, k_range, k_abs, k_max, k_min, k_int, k_tuple, k_sum, k_zip, n_ahead, n_along, n_area, n_around, n_back, n_behind, n_below, n_big, n_blend, n_both_ends, n_bottom, n_cap, n_cell, n_centre, n_contour, n_contours, n_corner, n_corners, n_cutter, n_dashes, n_dot_now, n_dot_p, n_due, n_end, n_end_in, n_ends_in_dash, n_factor, n_first, n_found, n_gone, n_grain, n_half, n_here, n_inner, n_is_closed, n_join, n_joined, n_k, n_kind, n_later_p, n_left, n_length, n_lengths, n_limit, n_line, n_lines, n_lower, n_many, n_message, n_n, n_normal, n_one, n_other, n_pattern, n_piece, n_piece_k, n_pieces, n_place, n_place_k, n_places, n_quarter, n_right, n_root, n_script, n_second, n_self, n_share, n_sign, n_size, n_some, n_source, n_spot, n_spots, n_square, n_start, n_starts_in_dash, n_step, n_steps, n_style, n_things, n_top, n_turn, n_u, n_v, n_vector, n_way_now, n_whole, n_width, n_x, n_y, sub_vp0, sub_vp1, bind_vp, hz]) ?_
    have hm' : m.length ≤ 1000000 := by omega
    by_cases hp : sho m > 0
    · exact Ret.done' (v := vps m) (σ1 := σ3) (by simp [run, exs, lvl_ex, lvl_ev, lvl_tst, exS, evS, evA, tstS, allT, evs, evo, bindP, List.lookup, ofString_inj, ofString_beq, subC_tup, subC_lst, binS, binI, small, most, upd, free, freeL, py, pyL, cmp_lt, cmp_le, cmp_gt, cmp_ge, cmp_eqi, cmp_nei, callN, biC, optI, k_len, k_range, k_abs, k_max, k_min, k_int, k_tuple, k_sum, k_zip, n_ahead, n_along, n_area, n_around, n_back, n_behind, n_below, n_big, n_blend, n_both_ends, n_bottom, n_cap, n_cell, n_centre, n_contour, n_contours, n_corner, n_corners, n_cutter, n_dashes, n_dot_now, n_dot_p, n_due, n_end, n_end_in, n_ends_in_dash, n_factor, n_first, n_found, n_gone, n_grain, n_half, n_here, n_inner, n_is_closed, n_join, n_joined, n_k, n_kind, n_later_p, n_left, n_length, n_lengths, n_limit, n_line, n_lines, n_lower, n_many, n_message, n_n, n_normal, n_one, n_other, n_pattern, n_piece, n_piece_k, n_pieces, n_place, n_place_k, n_places, n_quarter, n_right, n_root, n_script, n_second, n_self, n_share, n_sign, n_size, n_some, n_source, n_spot, n_spots, n_square, n_start, n_starts_in_dash, n_step, n_steps, n_style, n_things, n_top, n_turn, n_u, n_v, n_vector, n_way_now, n_whole, n_width, n_x, n_y, sub_vp0, sub_vp1, bind_vp, hp, i1, i4, hm', vps]) ⟨by rw [if_neg hz, if_pos hp]; rfl, i3⟩
    · exact Ret.done' (v := vps m.reverse) (σ1 := σ3 ++ [.list (m.reverse.map vp)]) (by simp [run, exs, lvl_ex, lvl_ev, lvl_tst, exS, evS, evA, tstS, allT, evs, evo, bindP, List.lookup, ofString_inj, ofString_beq, subC_tup, subC_lst, binS, binI, small, most, upd, free, freeL, py, pyL, cmp_lt, cmp_le, cmp_gt, cmp_ge, cmp_eqi, cmp_nei, callN, biC, optI, k_len, k_range, k_abs, k_max, k_min, k_int, k_tuple, k_sum, k_zip, n_ahead, n_along, n_area, n_around, n_back, n_behind, n_below, n_big, n_blend, n_both_ends, n_bottom, n_cap, n_cell, n_centre, n_contour, n_contours, n_corner, n_corners, n_cutter, n_dashes, n_dot_now, n_dot_p, n_due, n_end, n_end_in, n_ends_in_dash, n_factor, n_first, n_found, n_gone, n_grain, n_half, n_here, n_inner, n_is_closed, n_join, n_joined, n_k, n_kind, n_later_p, n_left, n_length, n_lengths, n_limit, n_line, n_lines, n_lower, n_many, n_message, n_n, n_normal, n_one, n_other, n_pattern, n_piece, n_piece_k, n_pieces, n_place, n_place_k, n_places, n_quarter, n_right, n_root, n_script, n_second, n_self, n_share, n_sign, n_size, n_some, n_source, n_spot, n_spots, n_square, n_start, n_starts_in_dash, n_step, n_steps, n_style, n_things, n_top, n_turn, n_u, n_v, n_vector, n_way_now, n_whole, n_width, n_x, n_y, sub_vp0, sub_vp1, bind_vp, hp, i1, i4, hm', vps, slice_rev, gl0]) ⟨by rw [if_neg hz, if_neg hp]; rfl, take_app i3⟩
end Mine
end
section
open PySem PySem.W PyProof.Rows PySem.Calls
set_option linter.unusedVariables false
set_option linter.unusedSimpArgs false
set_option maxRecDepth 100000
namespace Mine
variable {r : Nat → Option (List Int)} {T : Tbl} {F : Funs} {L : Loc} {σ : Sto} {n : Nat}

theorem strip_ne {l : List Pt} (h : l ≠ []) : strip (dd l) ≠ [] := by
  have hd : dd l ≠ [] := by
    intro e
    have := dd_last (l := l)
    rw [e, last_some h] at this
    cases this
  have key : ∀ (m : Nat) (l : List Pt), l ≠ [] → stripF m l ≠ [] := by
    intro m
    induction m with
    | zero => intro l h; exact h
    | succ m ih =>
      intro l h
      unfold stripF
      split
      · rename_i hc
        apply ih
        intro e
        have := congrArg List.length e
        rw [List.length_dropLast] at this
        simp at this
        omega
      · exact h
  exact key _ _ hd
theorem sub_tup {l : List Pt} {j : Nat} (h : j < l.length) (hj : j < 1000000) : subC T σ (.tup (l.map vp)) (.int j) = some (vp (at0 l j)) := by
  rw [subC_tup]
  rw [if_pos (by simp [small]; omega)]
  unfold getAt place
  rw [if_pos (by omega), List.length_map, if_pos (by omega)]
  show (l.map vp)[((j : Int)).toNat]? = _
  rw [Int.toNat_natCast]; exact at0_get h

theorem new_tst {q1 q2 q3 q4 q5 q6 q7 q8 q9 q10 q11 q12 q13 : Pos} {k1 k2 : Nat} {l : List Pt} {i : Nat} {S : V} {τ : Sto} (hk : L "place_k" = some (.int (i : Nat))) (hs : L "spots" = some S) (h0 : i ≠ 0) (s1 : subC (tbl r) τ S (.int (i : Nat)) = some (vp (at0 l i))) (s2 : subC (tbl r) τ S (.int ((i : Int) - 1)) = some (vp (at0 l (i - 1)))) :
    tests (fun σ e => (lvl (tbl r) (n + 10)).tst L σ e) τ [.BoolOp .Or [.Compare (.Name "place_k" q1) [.Eq] [.Constant (.int 0) k1 q2] q3, .Compare (.Subscript (.Name "spots" q4) (.Name "place_k" q5) q6) [.NotEq] [.Subscript (.Name "spots" q7) (.BinOp (.Name "place_k" q8) .Sub (.Constant (.int 1) k2 q9) q10) q11] q12] q13] = some (newAt l i, τ) := by
  have h0' : ¬ (i : Int) = 0 := by omega
  have e1 : newAt l i = !decide (at0 l i = at0 l (i - 1)) := by simp [newAt, h0]
  rw [e1]
  simp [tests, run, exs, lvl_ex, lvl_ev, lvl_tst, exS, evS, evA, tstS, allT, evs, evo, bindP, List.lookup, ofString_inj, ofString_beq, subC_tup, subC_lst, binS, binI, small, most, upd, free, freeL, py, pyL, cmp_lt, cmp_le, cmp_gt, cmp_ge, cmp_eqi, cmp_nei, callN, biC, optI, k_len, k_range, k_abs, k_max, k_min, k_int, k_tuple, k_sum, k_zip, n_ahead, n_along, n_area, n_around, n_back, n_behind, n_below, n_big, n_blend, n_both_ends, n_bottom, n_cap, n_cell, n_centre, n_contour, n_contours, n_corner, n_corners, n_cutter, n_dashes, n_dot_now, n_dot_p, n_due, n_end, n_end_in, n_ends_in_dash, n_factor, n_first, n_found, n_gone, n_grain, n_half, n_here, n_inner, n_is_closed, n_join, n_joined, n_k, n_kind, n_later_p, n_left, n_length, n_lengths, n_limit, n_line, n_lines, n_lower, n_many, n_message, n_n, n_normal, n_one, n_other, n_pattern, n_piece, n_piece_k, n_pieces, n_place, n_place_k, n_places, n_quarter, n_right, n_root, n_script, n_second, n_self, n_share, n_sign, n_size, n_some, n_source, n_spot, n_spots, n_square, n_start, n_starts_in_dash, n_step, n_steps, n_style, n_things, n_top, n_turn, n_u, n_v, n_vector, n_way_now, n_whole, n_width, n_x, n_y, sub_vp0, sub_vp1, bind_vp, hk, hs, h0', h0, s1, s2, cmp_ptn]
  cases (decide (at0 l i = at0 l (i - 1))) <;> rfl
theorem sensed_c {l : List Pt} (hl : l.length ≤ 50) (hb : Box2 l) (hne : l ≠ []) : callD (lvl (tbl r) (n + 60)) d_l_sensed.1 [vps l] σ = some (snV (sns l), σ) := by
  refine callD_free rfl free_snV ?_
  have hl' : l.length ≤ 1000000 := by omega
  have hbm : Box2 (strip (dd l)) := fun p hp => hb p (strip_sub.1 p hp)
  have hlm : (strip (dd l)).length ≤ 50 := Nat.le_trans strip_sub.2 hl
  simp only [d_l_sensed]
  refine Ret.step (fun L st => ∃ j, L "found" = some (.obj j) ∧ st.take σ.length = σ ∧ st[j]? = some (.list ((dd l).map vp))) ?_ fun L2 σ2 h2 => ?_
  · obtain ⟨N, hN⟩ : ∃ N : Int, (l.length : Int) = N := ⟨_, rfl⟩
    have b1 : -1152921504606846976 < N := by omega
    have b2 : N < 1152921504606846976 := by omega
    have b4 : N ≤ 1000000 := by omega
    simp [run, exs, lvl_ex, lvl_ev, lvl_tst, exS, evS, evA, tstS, allT, evs, evo, bindP, List.lookup, ofString_inj, ofString_beq, subC_tup, subC_lst, binS, binI, small, most, upd, free, freeL, py, pyL, cmp_lt, cmp_le, cmp_gt, cmp_ge, cmp_eqi, cmp_nei, callN, biC, optI, k_len, k_range, k_abs, k_max, k_min, k_int, k_tuple, k_sum, k_zip, n_ahead, n_along, n_area, n_around, n_back, n_behind, n_below, n_big, n_blend, n_both_ends, n_bottom, n_cap, n_cell, n_centre, n_contour, n_contours, n_corner, n_corners, n_cutter, n_dashes, n_dot_now, n_dot_p, n_due, n_end, n_end_in, n_ends_in_dash, n_factor, n_first, n_found, n_gone, n_grain, n_half, n_here, n_inner, n_is_closed, n_join, n_joined, n_k, n_kind, n_later_p, n_left, n_length, n_lengths, n_limit, n_line, n_lines, n_lower, n_many, n_message, n_n, n_normal, n_one, n_other, n_pattern, n_piece, n_piece_k, n_pieces, n_place, n_place_k, n_places, n_quarter, n_right, n_root, n_script, n_second, n_self, n_share, n_sign, n_size, n_some, n_source, n_spot, n_spots, n_square, n_start, n_starts_in_dash, n_step, n_steps, n_style, n_things, n_top, n_turn, n_u, n_v, n_vector, n_way_now, n_whole, n_width, n_x, n_y, sub_vp0, sub_vp1, bind_vp, bindT_name, bindT_tup, bindT_obj, names?, updL, k_root_floor, k_nearest_root_share, k_way_of, k_moved_by, k_turned_about, k_normal_of, k_along_of, k_parallel, k_area_twice_of, k_one_sense, k_is_at_least_root, k_is_within_limit, k_bevel_spots, k_join_spots, k_square_about, k_cap_spots, k_dot_spots, k_dashed, k_plain_line, k_side_pieces, k_join_pieces, k_corners_of, k_stroked_line, k_stroked, k_l_pool, k_l_take, k_l_one, k_l_normal, k_l_sensed, k_l_at, k_l_side, k_l_corner, k_l_cap, k_l_due, k_l_drawn, k_Corner, k_Pattern, k_Style, k_MOST_STEPS, overE, vps, items, hl', hN, b1, b2, b4]
    generalize hS : V.tup (l.map vp) = S
    generalize hw : clauses _ _ _ _ _ _ _ _ = o
    have hc := clauses1_of (σ := σ) hw rfl rfl (fun v => match v with | .int i => newAt l i.toNat | _ => false) (fun v => match v with | .int i => vp (at0 l i.toNat) | _ => .none) (fun l' => by rw [still_one]; simp [items, small, most, b1, b2, b4]) (fun v hv l' => by
      obtain ⟨i, hi, rfl⟩ := List.mem_map.mp hv
      have hi' : i < l.length := by have := List.mem_range.mp hi; omega
      have s1 : subC (tbl r) (σ ++ [.list l']) S (.int (i : Nat)) = some (vp (at0 l i)) := by rw [← hS]; exact sub_tup hi' (by omega)
      by_cases h0 : i = 0
      · subst h0
        refine ⟨_, rfl, by simp [hide, tests, run, exs, lvl_ex, lvl_ev, lvl_tst, exS, evS, evA, tstS, allT, evs, evo, bindP, List.lookup, ofString_inj, ofString_beq, subC_tup, subC_lst, binS, binI, small, most, upd, free, freeL, py, pyL, cmp_lt, cmp_le, cmp_gt, cmp_ge, cmp_eqi, cmp_nei, callN, biC, optI, k_len, k_range, k_abs, k_max, k_min, k_int, k_tuple, k_sum, k_zip, n_ahead, n_along, n_area, n_around, n_back, n_behind, n_below, n_big, n_blend, n_both_ends, n_bottom, n_cap, n_cell, n_centre, n_contour, n_contours, n_corner, n_corners, n_cutter, n_dashes, n_dot_now, n_dot_p, n_due, n_end, n_end_in, n_ends_in_dash, n_factor, n_first, n_found, n_gone, n_grain, n_half, n_here, n_inner, n_is_closed, n_join, n_joined, n_k, n_kind, n_later_p, n_left, n_length, n_lengths, n_limit, n_line, n_lines, n_lower, n_many, n_message, n_n, n_normal, n_one, n_other, n_pattern, n_piece, n_piece_k, n_pieces, n_place, n_place_k, n_places, n_quarter, n_right, n_root, n_script, n_second, n_self, n_share, n_sign, n_size, n_some, n_source, n_spot, n_spots, n_square, n_start, n_starts_in_dash, n_step, n_steps, n_style, n_things, n_top, n_turn, n_u, n_v, n_vector, n_way_now, n_whole, n_width, n_x, n_y, sub_vp0, sub_vp1, bind_vp, newAt], fun _ => ?_⟩
        simp at s1
        simp [hide, run, exs, lvl_ex, lvl_ev, lvl_tst, exS, evS, evA, tstS, allT, evs, evo, bindP, List.lookup, ofString_inj, ofString_beq, subC_tup, subC_lst, binS, binI, small, most, upd, free, freeL, py, pyL, cmp_lt, cmp_le, cmp_gt, cmp_ge, cmp_eqi, cmp_nei, callN, biC, optI, k_len, k_range, k_abs, k_max, k_min, k_int, k_tuple, k_sum, k_zip, n_ahead, n_along, n_area, n_around, n_back, n_behind, n_below, n_big, n_blend, n_both_ends, n_bottom, n_cap, n_cell, n_centre, n_contour, n_contours, n_corner, n_corners, n_cutter, n_dashes, n_dot_now, n_dot_p, n_due, n_end, n_end_in, n_ends_in_dash, n_factor, n_first, n_found, n_gone, n_grain, n_half, n_here, n_inner, n_is_closed, n_join, n_joined, n_k, n_kind, n_later_p, n_left, n_length, n_lengths, n_limit, n_line, n_lines, n_lower, n_many, n_message, n_n, n_normal, n_one, n_other, n_pattern, n_piece, n_piece_k, n_pieces, n_place, n_place_k, n_places, n_quarter, n_right, n_root, n_script, n_second, n_self, n_share, n_sign, n_size, n_some, n_source, n_spot, n_spots, n_square, n_start, n_starts_in_dash, n_step, n_steps, n_style, n_things, n_top, n_turn, n_u, n_v, n_vector, n_way_now, n_whole, n_width, n_x, n_y, sub_vp0, sub_vp1, bind_vp, s1]
      · have h0' : ¬ (i : Int) = 0 := by omega
        have s2 : subC (tbl r) (σ ++ [.list l']) S (.int ((i : Int) - 1)) = some (vp (at0 l (i - 1))) := by
          rw [← hS]
          have := sub_tup (T := tbl r) (σ := σ ++ [.list l']) (l := l) (j := i - 1) (by omega) (by omega)
          rwa [show ((i - 1 : Nat) : Int) = (i : Int) - 1 by omega] at this
        refine ⟨_, rfl, new_tst (n := n + 49) upd_self (by simp [hide, run, exs, lvl_ex, lvl_ev, lvl_tst, exS, evS, evA, tstS, allT, evs, evo, bindP, List.lookup, ofString_inj, ofString_beq, subC_tup, subC_lst, binS, binI, small, most, upd, free, freeL, py, pyL, cmp_lt, cmp_le, cmp_gt, cmp_ge, cmp_eqi, cmp_nei, callN, biC, optI, k_len, k_range, k_abs, k_max, k_min, k_int, k_tuple, k_sum, k_zip, n_ahead, n_along, n_area, n_around, n_back, n_behind, n_below, n_big, n_blend, n_both_ends, n_bottom, n_cap, n_cell, n_centre, n_contour, n_contours, n_corner, n_corners, n_cutter, n_dashes, n_dot_now, n_dot_p, n_due, n_end, n_end_in, n_ends_in_dash, n_factor, n_first, n_found, n_gone, n_grain, n_half, n_here, n_inner, n_is_closed, n_join, n_joined, n_k, n_kind, n_later_p, n_left, n_length, n_lengths, n_limit, n_line, n_lines, n_lower, n_many, n_message, n_n, n_normal, n_one, n_other, n_pattern, n_piece, n_piece_k, n_pieces, n_place, n_place_k, n_places, n_quarter, n_right, n_root, n_script, n_second, n_self, n_share, n_sign, n_size, n_some, n_source, n_spot, n_spots, n_square, n_start, n_starts_in_dash, n_step, n_steps, n_style, n_things, n_top, n_turn, n_u, n_v, n_vector, n_way_now, n_whole, n_width, n_x, n_y, sub_vp0, sub_vp1, bind_vp]) h0 s1 s2, fun _ => ?_⟩
        simp [hide, run, exs, lvl_ex, lvl_ev, lvl_tst, exS, evS, evA, tstS, allT, evs, evo, bindP, List.lookup, ofString_inj, ofString_beq, subC_tup, subC_lst, binS, binI, small, most, upd, free, freeL, py, pyL, cmp_lt, cmp_le, cmp_gt, cmp_ge, cmp_eqi, cmp_nei, callN, biC, optI, k_len, k_range, k_abs, k_max, k_min, k_int, k_tuple, k_sum, k_zip, n_ahead, n_along, n_area, n_around, n_back, n_behind, n_below, n_big, n_blend, n_both_ends, n_bottom, n_cap, n_cell, n_centre, n_contour, n_contours, n_corner, n_corners, n_cutter, n_dashes, n_dot_now, n_dot_p, n_due, n_end, n_end_in, n_ends_in_dash, n_factor, n_first, n_found, n_gone, n_grain, n_half, n_here, n_inner, n_is_closed, n_join, n_joined, n_k, n_kind, n_later_p, n_left, n_length, n_lengths, n_limit, n_line, n_lines, n_lower, n_many, n_message, n_n, n_normal, n_one, n_other, n_pattern, n_piece, n_piece_k, n_pieces, n_place, n_place_k, n_places, n_quarter, n_right, n_root, n_script, n_second, n_self, n_share, n_sign, n_size, n_some, n_source, n_spot, n_spots, n_square, n_start, n_starts_in_dash, n_step, n_steps, n_style, n_things, n_top, n_turn, n_u, n_v, n_vector, n_way_now, n_whole, n_width, n_x, n_y, sub_vp0, sub_vp1, bind_vp, s1]) (by simp [most]; omega)
    subst hc
    simp
    refine ⟨_, _, ⟨rfl, rfl⟩, σ.length, by simp [upd], by simp, ?_⟩
    rw [gl0, dd_eq, List.filter_map, List.map_map, List.map_map, show N.toNat = l.length by omega]
    rfl
  have hd50 : (dd l).length ≤ 50 := Nat.le_trans dd_len hl
  refine Ret.step (fun L st => ∃ j, L "found" = some (.obj j) ∧ st.take σ.length = σ ∧ st[j]? = some (.list ((strip (dd l)).map vp))) ?_ fun L3 σ3 h3 => ?_
  · obtain ⟨j0, i1, i3, i4⟩ := h2
    simp [run, exs, lvl_ex, lvl_ev, lvl_tst, exS, evS, evA, tstS, allT, evs, evo, bindP, List.lookup, ofString_inj, ofString_beq, subC_tup, subC_lst, binS, binI, small, most, upd, free, freeL, py, pyL, cmp_lt, cmp_le, cmp_gt, cmp_ge, cmp_eqi, cmp_nei, callN, biC, optI, k_len, k_range, k_abs, k_max, k_min, k_int, k_tuple, k_sum, k_zip, n_ahead, n_along, n_area, n_around, n_back, n_behind, n_below, n_big, n_blend, n_both_ends, n_bottom, n_cap, n_cell, n_centre, n_contour, n_contours, n_corner, n_corners, n_cutter, n_dashes, n_dot_now, n_dot_p, n_due, n_end, n_end_in, n_ends_in_dash, n_factor, n_first, n_found, n_gone, n_grain, n_half, n_here, n_inner, n_is_closed, n_join, n_joined, n_k, n_kind, n_later_p, n_left, n_length, n_lengths, n_limit, n_line, n_lines, n_lower, n_many, n_message, n_n, n_normal, n_one, n_other, n_pattern, n_piece, n_piece_k, n_pieces, n_place, n_place_k, n_places, n_quarter, n_right, n_root, n_script, n_second, n_self, n_share, n_sign, n_size, n_some, n_source, n_spot, n_spots, n_square, n_start, n_starts_in_dash, n_step, n_steps, n_style, n_things, n_top, n_turn, n_u, n_v, n_vector, n_way_now, n_whole, n_width, n_x, n_y, sub_vp0, sub_vp1, bind_vp]
    generalize hw2 : whileL _ _ _ _ _ = o2
    rcases whileL_of hw2 (fun m L st => ∃ j, L "found" = some (.obj j) ∧ st.take σ.length = σ ∧ ∃ cur : List Pt, st[j]? = some (.list (cur.map vp)) ∧ cur.length = m ∧ m ≤ (dd l).length ∧ strip (dd l) = stripF m cur)
      (fun L st => ∃ j, L "found" = some (.obj j) ∧ st.take σ.length = σ ∧ st[j]? = some (.list ((strip (dd l)).map vp))) (fun m L st hI => by
        obtain ⟨j, j1, j3, cur, j4, rfl, j5, j6⟩ := hI
        have hcl : cur.length ≤ 1000000 := by omega
        by_cases h1 : 1 < cur.length
        · have hne : cur ≠ [] := by intro e; rw [e] at h1; simp at h1
          have hq := last_some hne
          have hu := head_some hne
          have s1 : subC (tbl r) st (.obj j) (.int (-1)) = some (vp (at0 cur (cur.length - 1))) := sub_last j4 (by rw [last_map, hq]; rfl)
          have s2 : subC (tbl r) st (.obj j) (.int 0) = some (vp (at0 cur 0)) := sub_0 j4 (by rw [List.head?_map, hu]; rfl)
          obtain ⟨m', hm'⟩ : ∃ m', cur.length = m' + 1 := ⟨cur.length - 1, by omega⟩
          have h1' : 1 < (cur.length : Int) := by omega
          by_cases hqu : at0 cur (cur.length - 1) = at0 cur 0
          · refine .inr ⟨m', st, upd L "found" (.obj st.length), st ++ [.list (cur.dropLast.map vp)], hm', ?_, ?_, st.length, upd_self, take_app j3, cur.dropLast, by rw [gl0]; rfl, by rw [List.length_dropLast]; omega, by omega, ?_⟩
            · simp [run, exs, lvl_ex, lvl_ev, lvl_tst, exS, evS, evA, tstS, allT, evs, evo, bindP, List.lookup, ofString_inj, ofString_beq, subC_tup, subC_lst, binS, binI, small, most, upd, free, freeL, py, pyL, cmp_lt, cmp_le, cmp_gt, cmp_ge, cmp_eqi, cmp_nei, callN, biC, optI, k_len, k_range, k_abs, k_max, k_min, k_int, k_tuple, k_sum, k_zip, n_ahead, n_along, n_area, n_around, n_back, n_behind, n_below, n_big, n_blend, n_both_ends, n_bottom, n_cap, n_cell, n_centre, n_contour, n_contours, n_corner, n_corners, n_cutter, n_dashes, n_dot_now, n_dot_p, n_due, n_end, n_end_in, n_ends_in_dash, n_factor, n_first, n_found, n_gone, n_grain, n_half, n_here, n_inner, n_is_closed, n_join, n_joined, n_k, n_kind, n_later_p, n_left, n_length, n_lengths, n_limit, n_line, n_lines, n_lower, n_many, n_message, n_n, n_normal, n_one, n_other, n_pattern, n_piece, n_piece_k, n_pieces, n_place, n_place_k, n_places, n_quarter, n_right, n_root, n_script, n_second, n_self, n_share, n_sign, n_size, n_some, n_source, n_spot, n_spots, n_square, n_start, n_starts_in_dash, n_step, n_steps, n_style, n_things, n_top, n_turn, n_u, n_v, n_vector, n_way_now, n_whole, n_width, n_x, n_y, sub_vp0, sub_vp1, bind_vp, j1, items, j4, hcl, h1', s1, s2, cmp_pt, hqu]
            · simp [run, exs, lvl_ex, lvl_ev, lvl_tst, exS, evS, evA, tstS, allT, evs, evo, bindP, List.lookup, ofString_inj, ofString_beq, subC_tup, subC_lst, binS, binI, small, most, upd, free, freeL, py, pyL, cmp_lt, cmp_le, cmp_gt, cmp_ge, cmp_eqi, cmp_nei, callN, biC, optI, k_len, k_range, k_abs, k_max, k_min, k_int, k_tuple, k_sum, k_zip, n_ahead, n_along, n_area, n_around, n_back, n_behind, n_below, n_big, n_blend, n_both_ends, n_bottom, n_cap, n_cell, n_centre, n_contour, n_contours, n_corner, n_corners, n_cutter, n_dashes, n_dot_now, n_dot_p, n_due, n_end, n_end_in, n_ends_in_dash, n_factor, n_first, n_found, n_gone, n_grain, n_half, n_here, n_inner, n_is_closed, n_join, n_joined, n_k, n_kind, n_later_p, n_left, n_length, n_lengths, n_limit, n_line, n_lines, n_lower, n_many, n_message, n_n, n_normal, n_one, n_other, n_pattern, n_piece, n_piece_k, n_pieces, n_place, n_place_k, n_places, n_quarter, n_right, n_root, n_script, n_second, n_self, n_share, n_sign, n_size, n_some, n_source, n_spot, n_spots, n_square, n_start, n_starts_in_dash, n_step, n_steps, n_style, n_things, n_top, n_turn, n_u, n_v, n_vector, n_way_now, n_whole, n_width, n_x, n_y, sub_vp0, sub_vp1, bind_vp, j1, j4, hcl, slice_init]
            · rw [j6, hm', stripF, if_pos ⟨h1, by rw [hq, hu, hqu]⟩]
          · refine .inl ⟨st, ?_, j, j1, j3, ?_⟩
            · simp [run, exs, lvl_ex, lvl_ev, lvl_tst, exS, evS, evA, tstS, allT, evs, evo, bindP, List.lookup, ofString_inj, ofString_beq, subC_tup, subC_lst, binS, binI, small, most, upd, free, freeL, py, pyL, cmp_lt, cmp_le, cmp_gt, cmp_ge, cmp_eqi, cmp_nei, callN, biC, optI, k_len, k_range, k_abs, k_max, k_min, k_int, k_tuple, k_sum, k_zip, n_ahead, n_along, n_area, n_around, n_back, n_behind, n_below, n_big, n_blend, n_both_ends, n_bottom, n_cap, n_cell, n_centre, n_contour, n_contours, n_corner, n_corners, n_cutter, n_dashes, n_dot_now, n_dot_p, n_due, n_end, n_end_in, n_ends_in_dash, n_factor, n_first, n_found, n_gone, n_grain, n_half, n_here, n_inner, n_is_closed, n_join, n_joined, n_k, n_kind, n_later_p, n_left, n_length, n_lengths, n_limit, n_line, n_lines, n_lower, n_many, n_message, n_n, n_normal, n_one, n_other, n_pattern, n_piece, n_piece_k, n_pieces, n_place, n_place_k, n_places, n_quarter, n_right, n_root, n_script, n_second, n_self, n_share, n_sign, n_size, n_some, n_source, n_spot, n_spots, n_square, n_start, n_starts_in_dash, n_step, n_steps, n_style, n_things, n_top, n_turn, n_u, n_v, n_vector, n_way_now, n_whole, n_width, n_x, n_y, sub_vp0, sub_vp1, bind_vp, j1, items, j4, hcl, h1', s1, s2, cmp_pt, hqu]
            · rw [j6, hm', stripF, if_neg (by rw [hq, hu]; simp [hqu])]; exact j4
        · have hst : stripF cur.length cur = cur := by
            cases hc : cur.length with
            | zero => rfl
            | succ m' => rw [stripF, if_neg (fun h => h1 h.1)]
          refine .inl ⟨st, ?_, j, j1, j3, ?_⟩
          · have h1n : ¬ 1 < (cur.length : Int) := by omega
            simp [run, exs, lvl_ex, lvl_ev, lvl_tst, exS, evS, evA, tstS, allT, evs, evo, bindP, List.lookup, ofString_inj, ofString_beq, subC_tup, subC_lst, binS, binI, small, most, upd, free, freeL, py, pyL, cmp_lt, cmp_le, cmp_gt, cmp_ge, cmp_eqi, cmp_nei, callN, biC, optI, k_len, k_range, k_abs, k_max, k_min, k_int, k_tuple, k_sum, k_zip, n_ahead, n_along, n_area, n_around, n_back, n_behind, n_below, n_big, n_blend, n_both_ends, n_bottom, n_cap, n_cell, n_centre, n_contour, n_contours, n_corner, n_corners, n_cutter, n_dashes, n_dot_now, n_dot_p, n_due, n_end, n_end_in, n_ends_in_dash, n_factor, n_first, n_found, n_gone, n_grain, n_half, n_here, n_inner, n_is_closed, n_join, n_joined, n_k, n_kind, n_later_p, n_left, n_length, n_lengths, n_limit, n_line, n_lines, n_lower, n_many, n_message, n_n, n_normal, n_one, n_other, n_pattern, n_piece, n_piece_k, n_pieces, n_place, n_place_k, n_places, n_quarter, n_right, n_root, n_script, n_second, n_self, n_share, n_sign, n_size, n_some, n_source, n_spot, n_spots, n_square, n_start, n_starts_in_dash, n_step, n_steps, n_style, n_things, n_top, n_turn, n_u, n_v, n_vector, n_way_now, n_whole, n_width, n_x, n_y, sub_vp0, sub_vp1, bind_vp, j1, items, j4, hcl, h1n]
          · rw [j6, hst]; exact j4) ⟨j0, i1, i3, dd l, i4, rfl, Nat.le_refl _, rfl⟩ (by omega) with ⟨L2, σ2, rfl, hD⟩
    exact ⟨L2, σ2, rfl, hD⟩
  obtain ⟨j, i1, i3, i4⟩ := h3
  have hne' := strip_ne hne
  unfold sns
  generalize strip (dd l) = m at *
  have hm0 : 0 < m.length := List.length_pos_iff.mpr hne'
  have e0 : subC (tbl r) σ3 (.obj j) (.int 0) = some (vp (at0 m 0)) := sub_0 i4 (by rw [List.head?_map, head_some hne']; rfl)
  refine Ret.next (L1 := upd (upd (upd L3 "area" (.int 0)) "x" (.int (at0 m 0).1)) "y" (.int (at0 m 0).2)) (σ1 := σ3) (by simp [run, exs, lvl_ex, lvl_ev, lvl_tst, exS, evS, evA, tstS, allT, evs, evo, bindP, List.lookup, ofString_inj, ofString_beq, subC_tup, subC_obj, subC_lst, binS, binI, getAt, place, small, most, upd, free, freeL, py, pyL, cmp_lt, cmp_le, cmp_gt, cmp_ge, cmp_eqi, cmp_nei, callN, biC, optI, k_len, k_range, k_abs, k_max, k_min, k_int, k_tuple, k_sum, k_zip, n_ahead, n_along, n_area, n_around, n_back, n_behind, n_below, n_big, n_blend, n_both_ends, n_bottom, n_cap, n_cell, n_centre, n_contour, n_contours, n_corner, n_corners, n_cutter, n_dashes, n_dot_now, n_dot_p, n_due, n_end, n_end_in, n_ends_in_dash, n_factor, n_first, n_found, n_gone, n_grain, n_half, n_here, n_inner, n_is_closed, n_join, n_joined, n_k, n_kind, n_later_p, n_left, n_length, n_lengths, n_limit, n_line, n_lines, n_lower, n_many, n_message, n_n, n_normal, n_one, n_other, n_pattern, n_piece, n_piece_k, n_pieces, n_place, n_place_k, n_places, n_quarter, n_right, n_root, n_script, n_second, n_self, n_share, n_sign, n_size, n_some, n_source, n_spot, n_spots, n_square, n_start, n_starts_in_dash, n_step, n_steps, n_style, n_things, n_top, n_turn, n_u, n_v, n_vector, n_way_now, n_whole, n_width, n_x, n_y, sub_vp0, sub_vp1, bind_vp, bindT_name, bindT_tup, bindT_obj, names?, updL, i1, e0, sub_vp0, sub_vp1]) ?_
  refine Ret.step (fun L st => L "found" = some (.obj j) ∧ L "area" = some (.int (sho m)) ∧ st = σ3) ?_ fun L5 σ5 h5 => ?_
  · have hm' : m.length ≤ 1000000 := by omega
    obtain ⟨N, hN⟩ : ∃ N : Int, (m.length : Int) = N := ⟨_, rfl⟩
    have b1 : -1152921504606846976 < N - 1 := by omega
    have b2 : N - 1 < 1152921504606846976 := by omega
    have b4 : N - 1 - 1 ≤ 1000000 := by omega
    simp [run, exs, lvl_ex, lvl_ev, lvl_tst, exS, evS, evA, tstS, allT, evs, evo, bindP, List.lookup, ofString_inj, ofString_beq, subC_tup, subC_lst, binS, binI, small, most, upd, free, freeL, py, pyL, cmp_lt, cmp_le, cmp_gt, cmp_ge, cmp_eqi, cmp_nei, callN, biC, optI, k_len, k_range, k_abs, k_max, k_min, k_int, k_tuple, k_sum, k_zip, n_ahead, n_along, n_area, n_around, n_back, n_behind, n_below, n_big, n_blend, n_both_ends, n_bottom, n_cap, n_cell, n_centre, n_contour, n_contours, n_corner, n_corners, n_cutter, n_dashes, n_dot_now, n_dot_p, n_due, n_end, n_end_in, n_ends_in_dash, n_factor, n_first, n_found, n_gone, n_grain, n_half, n_here, n_inner, n_is_closed, n_join, n_joined, n_k, n_kind, n_later_p, n_left, n_length, n_lengths, n_limit, n_line, n_lines, n_lower, n_many, n_message, n_n, n_normal, n_one, n_other, n_pattern, n_piece, n_piece_k, n_pieces, n_place, n_place_k, n_places, n_quarter, n_right, n_root, n_script, n_second, n_self, n_share, n_sign, n_size, n_some, n_source, n_spot, n_spots, n_square, n_start, n_starts_in_dash, n_step, n_steps, n_style, n_things, n_top, n_turn, n_u, n_v, n_vector, n_way_now, n_whole, n_width, n_x, n_y, sub_vp0, sub_vp1, bind_vp, bindT_name, bindT_tup, bindT_obj, names?, updL, k_root_floor, k_nearest_root_share, k_way_of, k_moved_by, k_turned_about, k_normal_of, k_along_of, k_parallel, k_area_twice_of, k_one_sense, k_is_at_least_root, k_is_within_limit, k_bevel_spots, k_join_spots, k_square_about, k_cap_spots, k_dot_spots, k_dashed, k_plain_line, k_side_pieces, k_join_pieces, k_corners_of, k_stroked_line, k_stroked, k_l_pool, k_l_take, k_l_one, k_l_normal, k_l_sensed, k_l_at, k_l_side, k_l_corner, k_l_cap, k_l_due, k_l_drawn, k_Corner, k_Pattern, k_Style, k_MOST_STEPS, items, i1, i4, hm', hN, b1, b2, b4]
    generalize hw : forL _ _ _ _ _ = o
    rcases forL_of hw (fun done L st => L "found" = some (.obj j) ∧ L "area" = some (.int (sumR (fanT m) done.length)) ∧ L "x" = some (.int (at0 m 0).1) ∧ L "y" = some (.int (at0 m 0).2) ∧ st = σ3) (fun done L st hI => by rw [still_one]; simp [items, small, most, b1, b2, b4]) (fun done v rest L st hall hI => by
      obtain ⟨i1, i2, i5, i6, rfl⟩ := hI
      obtain ⟨rfl, hlt⟩ := range_split hall
      rw [List.length_append, List.length_singleton]
      generalize done.length = i at *
      have hi : 1 + i < m.length - 1 := by omega
      have e1 : subC (tbl r) st (.obj j) (.int (1 + (i : Int))) = some (vp (at0 m (i + 1))) := by
        have := sub_at (T := tbl r) (j := i + 1) i4 (at0_get (l := m) (by omega)) (by omega)
        rwa [show ((i + 1 : Nat) : Int) = 1 + (i : Int) by omega] at this
      have e2 : subC (tbl r) st (.obj j) (.int (1 + (i : Int) + 1)) = some (vp (at0 m (i + 2))) := by
        have := sub_at (T := tbl r) (j := i + 2) i4 (at0_get (l := m) (by omega)) (by omega)
        rwa [show ((i + 2 : Nat) : Int) = 1 + (i : Int) + 1 by omega] at this
      obtain ⟨⟨p1, p2⟩, p3, p4⟩ := hbm _ (at0_mem hm0)
      obtain ⟨⟨q1, q2⟩, q3, q4⟩ := hbm _ (at0_mem (l := m) (i := i + 1) (by omega))
      obtain ⟨⟨u1, u2⟩, u3, u4⟩ := hbm _ (at0_mem (l := m) (i := i + 2) (by omega))
      have es : sumR (fanT m) (i + 1) = sumR (fanT m) i + (((at0 m (i + 1)).1 - (at0 m 0).1) * ((at0 m (i + 2)).2 - (at0 m 0).2) - ((at0 m (i + 1)).2 - (at0 m 0).2) * ((at0 m (i + 2)).1 - (at0 m 0).1)) := rfl
      generalize at0 m 0 = p at *
      generalize at0 m (i + 1) = q at *
      generalize at0 m (i + 2) = u at *
      have c1 : -1152921504606846976 < q.1 - p.1 := by omega
      have c2 : q.1 - p.1 < 1152921504606846976 := by omega
      have c3 : -1152921504606846976 < q.2 - p.2 := by omega
      have c4 : q.2 - p.2 < 1152921504606846976 := by omega
      simp [run, exs, lvl_ex, lvl_ev, lvl_tst, exS, evS, evA, tstS, allT, evs, evo, bindP, List.lookup, ofString_inj, ofString_beq, subC_tup, subC_lst, binS, binI, small, most, upd, free, freeL, py, pyL, cmp_lt, cmp_le, cmp_gt, cmp_ge, cmp_eqi, cmp_nei, callN, biC, optI, k_len, k_range, k_abs, k_max, k_min, k_int, k_tuple, k_sum, k_zip, n_ahead, n_along, n_area, n_around, n_back, n_behind, n_below, n_big, n_blend, n_both_ends, n_bottom, n_cap, n_cell, n_centre, n_contour, n_contours, n_corner, n_corners, n_cutter, n_dashes, n_dot_now, n_dot_p, n_due, n_end, n_end_in, n_ends_in_dash, n_factor, n_first, n_found, n_gone, n_grain, n_half, n_here, n_inner, n_is_closed, n_join, n_joined, n_k, n_kind, n_later_p, n_left, n_length, n_lengths, n_limit, n_line, n_lines, n_lower, n_many, n_message, n_n, n_normal, n_one, n_other, n_pattern, n_piece, n_piece_k, n_pieces, n_place, n_place_k, n_places, n_quarter, n_right, n_root, n_script, n_second, n_self, n_share, n_sign, n_size, n_some, n_source, n_spot, n_spots, n_square, n_start, n_starts_in_dash, n_step, n_steps, n_style, n_things, n_top, n_turn, n_u, n_v, n_vector, n_way_now, n_whole, n_width, n_x, n_y, sub_vp0, sub_vp1, bind_vp, bindT_name, bindT_tup, bindT_obj, names?, updL, i1, i2, i5, i6, e1, e2, c1, c2, c3, c4]
      refine ⟨_, _, ⟨rfl, rfl⟩, by simp [upd, ofString_inj, i1], ?_, by simp [upd, ofString_inj, i5], by simp [upd, ofString_inj, i6], rfl⟩
      rw [upd_self, es]
      refine congrArg some (congrArg V.int ?_)
      omega) (by simp [run, exs, lvl_ex, lvl_ev, lvl_tst, exS, evS, evA, tstS, allT, evs, evo, bindP, List.lookup, ofString_inj, ofString_beq, subC_tup, subC_lst, binS, binI, small, most, upd, free, freeL, py, pyL, cmp_lt, cmp_le, cmp_gt, cmp_ge, cmp_eqi, cmp_nei, callN, biC, optI, k_len, k_range, k_abs, k_max, k_min, k_int, k_tuple, k_sum, k_zip, n_ahead, n_along, n_area, n_around, n_back, n_behind, n_below, n_big, n_blend, n_both_ends, n_bottom, n_cap, n_cell, n_centre, n_contour, n_contours, n_corner, n_corners, n_cutter, n_dashes, n_dot_now, n_dot_p, n_due, n_end, n_end_in, n_ends_in_dash, n_factor, n_first, n_found, n_gone, n_grain, n_half, n_here, n_inner, n_is_closed, n_join, n_joined, n_k, n_kind, n_later_p, n_left, n_length, n_lengths, n_limit, n_line, n_lines, n_lower, n_many, n_message, n_n, n_normal, n_one, n_other, n_pattern, n_piece, n_piece_k, n_pieces, n_place, n_place_k, n_places, n_quarter, n_right, n_root, n_script, n_second, n_self, n_share, n_sign, n_size, n_some, n_source, n_spot, n_spots, n_square, n_start, n_starts_in_dash, n_step, n_steps, n_style, n_things, n_top, n_turn, n_u, n_v, n_vector, n_way_now, n_whole, n_width, n_x, n_y, sub_vp0, sub_vp1, bind_vp, sumR, i1]) with ⟨L6, σ6, rfl, g1, g2, g3, g4, g5⟩
    subst g5
    refine ⟨L6, _, rfl, g1, ?_, rfl⟩
    rw [g2]; simp [sho_fan, fan]
    rw [show N.toNat - 1 - 1 = m.length - 2 by omega]
  obtain ⟨h1, h2, rfl⟩ := h5
  have hm' : m.length ≤ 1000000 := by omega
  by_cases hz : sho m = 0
  · exact Ret.done' (v := .none) (σ1 := σ5) (by simp [run, exs, lvl_ex, lvl_ev, lvl_tst, exS, evS, evA, tstS, allT, evs, evo, bindP, List.lookup, ofString_inj, ofString_beq, subC_tup, subC_lst, binS, binI, small, most, upd, free, freeL, py, pyL, cmp_lt, cmp_le, cmp_gt, cmp_ge, cmp_eqi, cmp_nei, callN, biC, optI, k_len, k_range, k_abs, k_max, k_min, k_int, k_tuple, k_sum, k_zip, n_ahead, n_along, n_area, n_around, n_back, n_behind, n_below, n_big, n_blend, n_both_ends, n_bottom, n_cap, n_cell, n_centre, n_contour, n_contours, n_corner, n_corners, n_cutter, n_dashes, n_dot_now, n_dot_p, n_due, n_end, n_end_in, n_ends_in_dash, n_factor, n_first, n_found, n_gone, n_grain, n_half, n_here, n_inner, n_is_closed, n_join, n_joined, n_k, n_kind, n_later_p, n_left, n_length, n_lengths, n_limit, n_line, n_lines, n_lower, n_many, n_message, n_n, n_normal, n_one, n_other, n_pattern, n_piece, n_piece_k, n_pieces, n_place, n_place_k, n_places, n_quarter, n_right, n_root, n_script, n_second, n_self, n_share, n_sign, n_size, n_some, n_source, n_spot, n_spots, n_square, n_start, n_starts_in_dash, n_step, n_steps, n_style, n_things, n_top, n_turn, n_u, n_v, n_vector, n_way_now, n_whole, n_width, n_x, n_y, sub_vp0, sub_vp1, bind_vp, h2, hz]) ⟨by rw [if_pos hz]; rfl, i3⟩
  · by_cases hp : sho m > 0
    · exact Ret.done' (v := vps m) (σ1 := σ5) (by simp [run, exs, lvl_ex, lvl_ev, lvl_tst, exS, evS, evA, tstS, allT, evs, evo, bindP, List.lookup, ofString_inj, ofString_beq, subC_tup, subC_lst, binS, binI, small, most, upd, free, freeL, py, pyL, cmp_lt, cmp_le, cmp_gt, cmp_ge, cmp_eqi, cmp_nei, callN, biC, optI, k_len, k_range, k_abs, k_max, k_min, k_int, k_tuple, k_sum, k_zip, n_ahead, n_along, n_area, n_around, n_back, n_behind, n_below, n_big, n_blend, n_both_ends, n_bottom, n_cap, n_cell, n_centre, n_contour, n_contours, n_corner, n_corners, n_cutter, n_dashes, n_dot_now, n_dot_p, n_due, n_end, n_end_in, n_ends_in_dash, n_factor, n_first, n_found, n_gone, n_grain, n_half, n_here, n_inner, n_is_closed, n_join, n_joined, n_k, n_kind, n_later_p, n_left, n_length, n_lengths, n_limit, n_line, n_lines, n_lower, n_many, n_message, n_n, n_normal, n_one, n_other, n_pattern, n_piece, n_piece_k, n_pieces, n_place, n_place_k, n_places, n_quarter, n_right, n_root, n_script, n_second, n_self, n_share, n_sign, n_size, n_some, n_source, n_spot, n_spots, n_square, n_start, n_starts_in_dash, n_step, n_steps, n_style, n_things, n_top, n_turn, n_u, n_v, n_vector, n_way_now, n_whole, n_width, n_x, n_y, sub_vp0, sub_vp1, bind_vp, k_root_floor, k_nearest_root_share, k_way_of, k_moved_by, k_turned_about, k_normal_of, k_along_of, k_parallel, k_area_twice_of, k_one_sense, k_is_at_least_root, k_is_within_limit, k_bevel_spots, k_join_spots, k_square_about, k_cap_spots, k_dot_spots, k_dashed, k_plain_line, k_side_pieces, k_join_pieces, k_corners_of, k_stroked_line, k_stroked, k_l_pool, k_l_take, k_l_one, k_l_normal, k_l_sensed, k_l_at, k_l_side, k_l_corner, k_l_cap, k_l_due, k_l_drawn, k_Corner, k_Pattern, k_Style, k_MOST_STEPS, hz, hp, h1, h2, i4, hm', vps]) ⟨by rw [if_neg hz, if_pos hp]; rfl, i3⟩
    · exact Ret.done' (v := vps m.reverse) (σ1 := σ5 ++ [.list (m.reverse.map vp)]) (by simp [run, exs, lvl_ex, lvl_ev, lvl_tst, exS, evS, evA, tstS, allT, evs, evo, bindP, List.lookup, ofString_inj, ofString_beq, subC_tup, subC_lst, binS, binI, small, most, upd, free, freeL, py, pyL, cmp_lt, cmp_le, cmp_gt, cmp_ge, cmp_eqi, cmp_nei, callN, biC, optI, k_len, k_range, k_abs, k_max, k_min, k_int, k_tuple, k_sum, k_zip, n_ahead, n_along, n_area, n_around, n_back, n_behind, n_below, n_big, n_blend, n_both_ends, n_bottom, n_cap, n_cell, n_centre, n_contour, n_contours, n_corner, n_corners, n_cutter, n_dashes, n_dot_now, n_dot_p, n_due, n_end, n_end_in, n_ends_in_dash, n_factor, n_first, n_found, n_gone, n_grain, n_half, n_here, n_inner, n_is_closed, n_join, n_joined, n_k, n_kind, n_later_p, n_left, n_length, n_lengths, n_limit, n_line, n_lines, n_lower, n_many, n_message, n_n, n_normal, n_one, n_other, n_pattern, n_piece, n_piece_k, n_pieces, n_place, n_place_k, n_places, n_quarter, n_right, n_root, n_script, n_second, n_self, n_share, n_sign, n_size, n_some, n_source, n_spot, n_spots, n_square, n_start, n_starts_in_dash, n_step, n_steps, n_style, n_things, n_top, n_turn, n_u, n_v, n_vector, n_way_now, n_whole, n_width, n_x, n_y, sub_vp0, sub_vp1, bind_vp, k_root_floor, k_nearest_root_share, k_way_of, k_moved_by, k_turned_about, k_normal_of, k_along_of, k_parallel, k_area_twice_of, k_one_sense, k_is_at_least_root, k_is_within_limit, k_bevel_spots, k_join_spots, k_square_about, k_cap_spots, k_dot_spots, k_dashed, k_plain_line, k_side_pieces, k_join_pieces, k_corners_of, k_stroked_line, k_stroked, k_l_pool, k_l_take, k_l_one, k_l_normal, k_l_sensed, k_l_at, k_l_side, k_l_corner, k_l_cap, k_l_due, k_l_drawn, k_Corner, k_Pattern, k_Style, k_MOST_STEPS, hz, hp, h1, h2, i4, hm', vps, slice_rev, gl0]) ⟨by rw [if_neg hz, if_neg hp]; rfl, take_app i3⟩
end Mine
end
section
open PySem PySem.W PyProof.Rows PySem.Calls
set_option linter.unusedVariables false
set_option linter.unusedSimpArgs false
set_option maxRecDepth 100000
namespace Mine
variable {r : Nat → Option (List Int)} {T : Tbl} {F : Funs} {L : Loc} {σ : Sto} {n : Nat}

/-- a piece is small -/
def Sm (P : List Pt) : Prop := P.length ≤ 4 ∧ Box2 P
theorem nrm_small {p q : Pt} {h : Int} (s : Sd p q) (hh : Hf h) : (-1000 ≤ (nrm p q h).1 ∧ (nrm p q h).1 ≤ 1000) ∧ (-1000 ≤ (nrm p q h).2 ∧ (nrm p q h).2 ≤ 1000) := ⟨nrs_small (s.sh hh).1, nrs_small (s.sh hh).2⟩
def In1 (p : Pt) : Prop := (-100 ≤ p.1 ∧ p.1 ≤ 100) ∧ (-100 ≤ p.2 ∧ p.2 ≤ 100)
theorem sm_quad {p q : Pt} {h : Int} (s : Sd p q) (hh : Hf h) (hp : In1 p) (hq : In1 q) : Sm (quad p q h) := by
  obtain ⟨⟨a, b⟩, c, d⟩ := nrm_small s hh
  obtain ⟨⟨e, f⟩, g, i⟩ := hp
  obtain ⟨⟨e', f'⟩, g', i'⟩ := hq
  refine ⟨by simp [quad], ?_⟩
  intro u hu
  simp only [quad, List.mem_cons, List.not_mem_nil, or_false] at hu
  rcases hu with rfl | rfl | rfl | rfl <;> dsimp only <;> omega
theorem sm_nil : Sm [] := ⟨by simp, fun u hu => by cases hu⟩
theorem sm_crn {a p b : Pt} {h : Int} (s1 : Sd a p) (s2 : Sd p b) (hh : Hf h) (hp : In1 p) : Sm (crn a p b h) := by
  obtain ⟨⟨x1, x2⟩, x3, x4⟩ := nrm_small s1 hh
  obtain ⟨⟨y1, y2⟩, y3, y4⟩ := nrm_small s2 hh
  obtain ⟨⟨e, f⟩, g, i⟩ := hp
  unfold crn
  split
  · exact sm_nil
  · refine ⟨by simp, ?_⟩
    intro u hu
    simp only [List.mem_cons, List.not_mem_nil, or_false] at hu
    by_cases ht : turn3 a p b > 0
    · simp only [if_pos ht] at hu
      rcases hu with rfl | rfl | rfl <;> (try dsimp only) <;> omega
    · simp only [if_neg ht] at hu
      rcases hu with rfl | rfl | rfl <;> (try dsimp only) <;> omega
theorem sm_cap {kd : Bool} {p q : Pt} {h : Int} (s : Sd q p) (hh : Hf h) (hp : In1 p) : Sm (capOf kd q p h) := by
  obtain ⟨⟨a, b⟩, c, d⟩ := nrm_small s hh
  obtain ⟨⟨e, f⟩, g, i⟩ := hp
  cases kd with
  | false => exact sm_nil
  | true =>
    refine ⟨by simp [capOf, capP], ?_⟩
    intro u hu
    simp only [capOf, capP, if_true, List.mem_cons, List.not_mem_nil, or_false] at hu
    rcases hu with rfl | rfl | rfl | rfl <;> dsimp only <;> omega
theorem sm_dot {kd : Bool} {p : Pt} {h : Int} (hh : Hf h) (hp : In1 p) : Sm (dotOf kd p h) := by
  obtain ⟨⟨e, f⟩, g, i⟩ := hp
  obtain ⟨h1, h2⟩ := hh
  cases kd with
  | false => exact sm_nil
  | true =>
    refine ⟨by simp [dotOf, sqr], ?_⟩
    intro u hu
    simp only [dotOf, sqr, if_true, List.mem_cons, List.not_mem_nil, or_false] at hu
    rcases hu with rfl | rfl | rfl | rfl <;> dsimp only <;> omega
theorem around_box {c : Bool} {m : List Pt} (h : Box m) : Box (if c then m ++ m.take 1 else m) := by
  cases c with
  | false => exact h
  | true =>
    intro p hp
    rw [if_pos rfl] at hp
    rcases List.mem_append.mp hp with hp | hp
    · exact h p hp
    · exact h p (List.mem_of_mem_take hp)
theorem pieces_sm {c kd : Bool} {l : List Pt} {h : Int} (hb : Box l) (hh : Hf h) : (∀ P ∈ pieces c kd l h, Sm P) ∧ (pieces c kd l h).length ≤ 2 * l.length + 3 := by
  obtain ⟨hf, hlen⟩ := pln_fine (c := c) hb
  unfold pieces
  generalize pln c l = m at *
  have ix : ∀ {m : List Pt}, Box m → ∀ {i}, i < m.length → In1 (at0 m i) := fun h i hi => h _ (at0_mem hi)
  split
  · exact ⟨fun P hP => (nomatch hP), by simp⟩
  · rename_i h0
    have hpos : 0 < m.length := List.length_pos_iff.mpr h0
    split
    · refine ⟨fun P hP => ?_, by simp⟩
      rw [List.mem_singleton] at hP
      subst hP
      exact sm_dot hh (ix hf.bx hpos)
    · rename_i h1
      have h2 : 2 ≤ m.length := by omega
      unfold pcs
      constructor
      · intro P hP
        rw [List.mem_append, List.mem_append] at hP
        rcases hP with (hP | hP) | hP
        · have ha : Apart (if c then m ++ m.take 1 else m) := by
            cases c with
            | false => exact hf.apart
            | true => exact hf.around h2
          have hb2 := around_box (c := c) hf.bx
          obtain ⟨i, hi, rfl⟩ := List.mem_map.mp hP
          have := List.mem_range.mp hi
          exact sm_quad (ha i (by omega)) hh (ix hb2 (by omega)) (ix hb2 (by omega))
        · obtain ⟨t, ht, rfl⟩ := List.mem_map.mp hP
          obtain ⟨s1, s2⟩ := hf.cors h2 t ht
          refine sm_crn s1 s2 hh ?_
          rw [cors_eq] at ht
          obtain ⟨k, hk, rfl⟩ := List.mem_map.mp ht
          refine ix hf.bx ?_
          unfold plc at hk
          cases c with
          | true => simpa using hk
          | false => 
            obtain ⟨i, hi, rfl⟩ := List.mem_map.mp hk
            have := List.mem_range.mp hi
            omega
        · cases c with
          | true => cases hP
          | false =>
            simp only [Bool.false_eq_true, if_false, List.mem_cons, List.not_mem_nil, or_false] at hP
            rcases hP with rfl | rfl
            · exact sm_cap (hf.c1 h2) hh (ix hf.bx (by omega))
            · exact sm_cap (hf.c2 h2) hh (ix hf.bx (by omega))
      · rw [List.length_append, List.length_append, List.length_map]
        have e1 : (cors c m).length ≤ m.length := by unfold cors; cases c <;> simp
        have e2 : (sides (if c then m ++ m.take 1 else m) h).length ≤ m.length := by
          unfold sides
          cases c <;> simp <;> omega
        have e3 : (if c then ([] : List (List Pt)) else [capOf kd (at0 m 1) (at0 m 0) h, capOf kd (at0 m (m.length - 2)) (at0 m (m.length - 1)) h]).length ≤ 2 := by cases c <;> simp
        omega

theorem mi_ptn : (tbl r).meth "Pattern" "__init__" = some m_pattern_init.1 := by kernel_rfl
theorem mi_plain : (tbl r).meth "Pattern" "is_plain" = some m_pattern_is_plain.1 := by kernel_rfl
theorem df_ptn : (tbl r).dfl "Pattern" = [] := by kernel_rfl
theorem fd_lengths : (tbl r).field "Pattern" "lengths" = true := by kernel_rfl
theorem fd_place : (tbl r).field "Pattern" "place" = true := by kernel_rfl
theorem fd_left : (tbl r).field "Pattern" "left" = true := by kernel_rfl
def ptn : List (Str × V) := [("lengths", .tup []), ("place", .int 0), ("left", .int 0)]
theorem lp_lengths : ptn.lookup (Str.ofString "lengths") = some (.tup []) := by simp [ptn, List.lookup, ofString_beq]
theorem lp_plain : ptn.lookup (Str.ofString "is_plain") = none := by simp [ptn, List.lookup, ofString_beq]

theorem cmp_nil {j k : Nat} (h : σ[k]? = some (.list [])) (h' : σ[j]? = some (.list [])) : cmpS .NotEq σ (.obj k) (.obj j) = some false := by
  rw [(cmp_pcs (P := []) (Q := []) h h').1]; simp
theorem pattern_c : mkC (tbl r) (lvl (tbl r) (n + 30)) "Pattern" [.tup [], .int 0] σ = some (.obj σ.length, σ ++ [.inst "Pattern" ptn]) := by
  have key : ∃ L' , exs (lvl (tbl r) (n + 30)).ex (bindP (m_pattern_init.1.params.args.map (·.arg)) [.obj σ.length, .tup [], .int 0]) (σ ++ [.inst "Pattern" []]) m_pattern_init.1.body = some (.next, L', σ ++ [.inst "Pattern" ptn, .list [], .list []]) := by
    have hc := cmp_nil (σ := σ ++ [.inst "Pattern" [], .list [], .list []]) (j := σ.length + 2) (k := σ.length + 1) (by rw [gl]; rfl) (by rw [gl]; rfl)
    simp [m_pattern_init, run, exs, lvl_ex, lvl_ev, lvl_tst, exS, evS, evA, tstS, allT, evs, evo, bindP, List.lookup, ofString_inj, ofString_beq, subC_tup, subC_lst, binS, binI, small, most, upd, free, freeL, py, pyL, cmp_lt, cmp_le, cmp_gt, cmp_ge, cmp_eqi, cmp_nei, callN, biC, optI, k_len, k_range, k_abs, k_max, k_min, k_int, k_tuple, k_sum, k_zip, n_ahead, n_along, n_area, n_around, n_back, n_behind, n_below, n_big, n_blend, n_both_ends, n_bottom, n_cap, n_cell, n_centre, n_contour, n_contours, n_corner, n_corners, n_cutter, n_dashes, n_dot_now, n_dot_p, n_due, n_end, n_end_in, n_ends_in_dash, n_factor, n_first, n_found, n_gone, n_grain, n_half, n_here, n_inner, n_is_closed, n_join, n_joined, n_k, n_kind, n_later_p, n_left, n_length, n_lengths, n_limit, n_line, n_lines, n_lower, n_many, n_message, n_n, n_normal, n_one, n_other, n_pattern, n_piece, n_piece_k, n_pieces, n_place, n_place_k, n_places, n_quarter, n_right, n_root, n_script, n_second, n_self, n_share, n_sign, n_size, n_some, n_source, n_spot, n_spots, n_square, n_start, n_starts_in_dash, n_step, n_steps, n_style, n_things, n_top, n_turn, n_u, n_v, n_vector, n_way_now, n_whole, n_width, n_x, n_y, sub_vp0, sub_vp1, bind_vp, bindT_name, bindT_tup, bindT_obj, names?, updL, overE, items, clauses, compL, still_one, hc, putF, fd_lengths, fd_place, fd_left, sl0, ptn]
  obtain ⟨L', hL⟩ := key
  unfold mkC
  rw [mi_ptn, df_ptn]
  have hn : m_pattern_init.1.params.args.length = 3 := rfl
  simp [hn, hL]
  exact gc_inst (by simp) (Nat.le_refl _) (by rw [gl0]; rfl) rfl
theorem is_plain_c {k : Nat} (hk : σ[k]? = some (.inst "Pattern" ptn)) : callD (lvl (tbl r) (n + 20)) m_pattern_is_plain.1 [.obj k] σ = some (.bool true, σ) := by
  refine callD_pure0 rfl rfl ?_
  simp [m_pattern_is_plain, run, exs, lvl_ex, lvl_ev, lvl_tst, exS, evS, evA, tstS, allT, evs, evo, bindP, List.lookup, ofString_inj, ofString_beq, subC_tup, subC_lst, binS, binI, small, most, upd, free, freeL, py, pyL, cmp_lt, cmp_le, cmp_gt, cmp_ge, cmp_eqi, cmp_nei, callN, biC, optI, k_len, k_range, k_abs, k_max, k_min, k_int, k_tuple, k_sum, k_zip, n_ahead, n_along, n_area, n_around, n_back, n_behind, n_below, n_big, n_blend, n_both_ends, n_bottom, n_cap, n_cell, n_centre, n_contour, n_contours, n_corner, n_corners, n_cutter, n_dashes, n_dot_now, n_dot_p, n_due, n_end, n_end_in, n_ends_in_dash, n_factor, n_first, n_found, n_gone, n_grain, n_half, n_here, n_inner, n_is_closed, n_join, n_joined, n_k, n_kind, n_later_p, n_left, n_length, n_lengths, n_limit, n_line, n_lines, n_lower, n_many, n_message, n_n, n_normal, n_one, n_other, n_pattern, n_piece, n_piece_k, n_pieces, n_place, n_place_k, n_places, n_quarter, n_right, n_root, n_script, n_second, n_self, n_share, n_sign, n_size, n_some, n_source, n_spot, n_spots, n_square, n_start, n_starts_in_dash, n_step, n_steps, n_style, n_things, n_top, n_turn, n_u, n_v, n_vector, n_way_now, n_whole, n_width, n_x, n_y, sub_vp0, sub_vp1, bind_vp, hk, lp_lengths, fd_lengths]
def con (l : List Pt) (c : Bool) : V := .tup [vps l, .bool c]
theorem dashed_c {l : List Pt} {c : Bool} : callD (lvl (tbl r) (n + 60)) d_dashed.1 [con l c, .tup [], .int 0] σ = some (.obj σ.length, σ ++ [.list [con l c]]) := by
  refine callD_list' rfl (by simp [con, freeL, free, free_vps]) ?_
  have hp := fun n => is_plain_c (r := r) (n := n) (σ := σ ++ [.inst "Pattern" ptn]) (k := σ.length) (by rw [gl0]; rfl)
  simp [d_dashed, run, exs, lvl_ex, lvl_ev, lvl_tst, exS, evS, evA, tstS, allT, evs, evo, bindP, List.lookup, ofString_inj, ofString_beq, subC_tup, subC_lst, binS, binI, small, most, upd, free, freeL, py, pyL, cmp_lt, cmp_le, cmp_gt, cmp_ge, cmp_eqi, cmp_nei, callN, biC, optI, k_len, k_range, k_abs, k_max, k_min, k_int, k_tuple, k_sum, k_zip, n_ahead, n_along, n_area, n_around, n_back, n_behind, n_below, n_big, n_blend, n_both_ends, n_bottom, n_cap, n_cell, n_centre, n_contour, n_contours, n_corner, n_corners, n_cutter, n_dashes, n_dot_now, n_dot_p, n_due, n_end, n_end_in, n_ends_in_dash, n_factor, n_first, n_found, n_gone, n_grain, n_half, n_here, n_inner, n_is_closed, n_join, n_joined, n_k, n_kind, n_later_p, n_left, n_length, n_lengths, n_limit, n_line, n_lines, n_lower, n_many, n_message, n_n, n_normal, n_one, n_other, n_pattern, n_piece, n_piece_k, n_pieces, n_place, n_place_k, n_places, n_quarter, n_right, n_root, n_script, n_second, n_self, n_share, n_sign, n_size, n_some, n_source, n_spot, n_spots, n_square, n_start, n_starts_in_dash, n_step, n_steps, n_style, n_things, n_top, n_turn, n_u, n_v, n_vector, n_way_now, n_whole, n_width, n_x, n_y, sub_vp0, sub_vp1, bind_vp, bindT_name, bindT_tup, bindT_obj, names?, updL, k_root_floor, k_nearest_root_share, k_way_of, k_moved_by, k_turned_about, k_normal_of, k_along_of, k_parallel, k_area_twice_of, k_one_sense, k_is_at_least_root, k_is_within_limit, k_bevel_spots, k_join_spots, k_square_about, k_cap_spots, k_dot_spots, k_dashed, k_plain_line, k_side_pieces, k_join_pieces, k_corners_of, k_stroked_line, k_stroked, k_l_pool, k_l_take, k_l_one, k_l_normal, k_l_sensed, k_l_at, k_l_side, k_l_corner, k_l_cap, k_l_due, k_l_drawn, k_Corner, k_Pattern, k_Style, k_MOST_STEPS, pattern_c, methC, gl0, lp_plain, mi_plain, hp, con]
  exact ⟨_, _, ⟨rfl, rfl⟩, by simp, by omega, by rw [gl]; rfl⟩
theorem steps_c {w : Int} {jn kd : Bool} {k : Nat} (hk : σ[k]? = some (.inst "Style" (stl w jn kd))) : ∃ st, callD (lvl (tbl r) (n + 60)) m_style_steps.1 [.obj k, .int 4] σ = some (.int st, σ) := by
  refine ⟨if 2 + (w.fdiv 2).fdiv 4 < 16 then 2 + (w.fdiv 2).fdiv 4 else 16, callD_pure0 rfl rfl ?_⟩
  have hh := fun n => half_c (r := r) (n := n) hk
  simp [m_style_steps, run, exs, lvl_ex, lvl_ev, lvl_tst, exS, evS, evA, tstS, allT, evs, evo, bindP, List.lookup, ofString_inj, ofString_beq, subC_tup, subC_lst, binS, binI, small, most, upd, free, freeL, py, pyL, cmp_lt, cmp_le, cmp_gt, cmp_ge, cmp_eqi, cmp_nei, callN, biC, optI, k_len, k_range, k_abs, k_max, k_min, k_int, k_tuple, k_sum, k_zip, n_ahead, n_along, n_area, n_around, n_back, n_behind, n_below, n_big, n_blend, n_both_ends, n_bottom, n_cap, n_cell, n_centre, n_contour, n_contours, n_corner, n_corners, n_cutter, n_dashes, n_dot_now, n_dot_p, n_due, n_end, n_end_in, n_ends_in_dash, n_factor, n_first, n_found, n_gone, n_grain, n_half, n_here, n_inner, n_is_closed, n_join, n_joined, n_k, n_kind, n_later_p, n_left, n_length, n_lengths, n_limit, n_line, n_lines, n_lower, n_many, n_message, n_n, n_normal, n_one, n_other, n_pattern, n_piece, n_piece_k, n_pieces, n_place, n_place_k, n_places, n_quarter, n_right, n_root, n_script, n_second, n_self, n_share, n_sign, n_size, n_some, n_source, n_spot, n_spots, n_square, n_start, n_starts_in_dash, n_step, n_steps, n_style, n_things, n_top, n_turn, n_u, n_v, n_vector, n_way_now, n_whole, n_width, n_x, n_y, sub_vp0, sub_vp1, bind_vp, k_root_floor, k_nearest_root_share, k_way_of, k_moved_by, k_turned_about, k_normal_of, k_along_of, k_parallel, k_area_twice_of, k_one_sense, k_is_at_least_root, k_is_within_limit, k_bevel_spots, k_join_spots, k_square_about, k_cap_spots, k_dot_spots, k_dashed, k_plain_line, k_side_pieces, k_join_pieces, k_corners_of, k_stroked_line, k_stroked, k_l_pool, k_l_take, k_l_one, k_l_normal, k_l_sensed, k_l_at, k_l_side, k_l_corner, k_l_cap, k_l_due, k_l_drawn, k_Corner, k_Pattern, k_Style, k_MOST_STEPS, k_MOST_STEPS, methC, hk, ls_half, mi_half, hh]
end Mine
end
section
open PySem PySem.W PyProof.Rows PySem.Calls
set_option linter.unusedVariables false
set_option linter.unusedSimpArgs false
set_option maxRecDepth 100000
namespace Mine
variable {r : Nat → Option (List Int)} {T : Tbl} {F : Funs} {L : Loc} {σ : Sto} {n : Nat}

theorem forL_map {α : Type} {g : α → V} {C : List α} {chk : Sto → Bool} {f : V → Loc → Sto → Option (Fl × Loc × Sto)} {o : Option (Fl × Loc × Sto)} (hw : forL chk f (C.map g) L σ = o) (I : List α → Loc → Sto → Prop) (hc : ∀ dn L σ, I dn L σ → chk σ = true)
    (hf : ∀ dn p rs L σ, C = dn ++ p :: rs → I dn L σ → ∃ L' σ', f (g p) L σ = some (.next, L', σ') ∧ I (dn ++ [p]) L' σ') (h0 : I [] L σ) : ∃ L' σ', o = some (.next, L', σ') ∧ I C L' σ' := by
  have key : ∀ (rs dn : List α) (L : Loc) (σ : Sto), C = dn ++ rs → I dn L σ → ∃ L' σ', forL chk f (rs.map g) L σ = some (.next, L', σ') ∧ I C L' σ' := by
    intro rs
    induction rs with
    | nil =>
      intro dn L σ e hI
      rw [List.append_nil] at e
      subst e
      exact ⟨L, σ, by unfold List.map forL; rw [if_pos (hc _ _ _ hI)], hI⟩
    | cons v rs ih =>
      intro dn L σ e hI
      obtain ⟨L1, σ1, h1, h2⟩ := hf dn v rs L σ e hI
      obtain ⟨L2, σ2, h3, h4⟩ := ih (dn ++ [v]) L1 σ1 (by rw [e]; simp) h2
      exact ⟨L2, σ2, by rw [List.map_cons]; unfold forL; rw [if_pos (hc _ _ _ hI), h1]; exact h3, h4⟩
  obtain ⟨L', σ', e, hI⟩ := key C [] L σ rfl h0
  exact ⟨L', σ', hw ▸ e, hI⟩

/-- what is drawn -/
def drawn (C : List (List Pt × Bool)) (kd : Bool) (h : Int) : List (List Pt) := (C.flatMap fun p => pieces p.2 kd p.1 h).filterMap sns
def conP (p : List Pt × Bool) : V := con p.1 p.2
structure SI (σ : Sto) (s : Nat) (sp : Int) (acc : List (List Pt)) (L : Loc) (st : Sto) : Prop where
  fo : L "found" = some (.obj σ.length)
  sy : L "style" = some (.obj s)
  sp : L "steps" = some (.int sp)
  tk : st.take σ.length = σ
  ac : st[σ.length]? = some (.list (acc.map vdr))
theorem isn_some {l : List Pt} : cmpS .IsNot σ (vps l) .none = some true := rfl
theorem isn_none : cmpS .IsNot σ .none .none = some false := rfl

theorem stroked_low {a s : Nat} {w : Int} {jn kd : Bool} (hs : σ[s]? = some (.inst "Style" (stl w jn kd))) (hw : w.fdiv 2 < 1) : callD (lvl (tbl r) (n + 200)) d_stroked.1 [.obj a, .obj s, .int 4] σ = some (.obj σ.length, σ ++ [.list []]) := by
  refine callD_list' rfl rfl ?_
  have hh := fun n τ => half_c (r := r) (n := n) (app_l (l := τ) hs)
  simp [d_stroked, run, exs, lvl_ex, lvl_ev, lvl_tst, exS, evS, evA, tstS, allT, evs, evo, bindP, List.lookup, ofString_inj, ofString_beq, subC_tup, subC_lst, binS, binI, small, most, upd, free, freeL, py, pyL, cmp_lt, cmp_le, cmp_gt, cmp_ge, cmp_eqi, cmp_nei, callN, biC, optI, k_len, k_range, k_abs, k_max, k_min, k_int, k_tuple, k_sum, k_zip, n_ahead, n_along, n_area, n_around, n_back, n_behind, n_below, n_big, n_blend, n_both_ends, n_bottom, n_cap, n_cell, n_centre, n_contour, n_contours, n_corner, n_corners, n_cutter, n_dashes, n_dot_now, n_dot_p, n_due, n_end, n_end_in, n_ends_in_dash, n_factor, n_first, n_found, n_gone, n_grain, n_half, n_here, n_inner, n_is_closed, n_join, n_joined, n_k, n_kind, n_later_p, n_left, n_length, n_lengths, n_limit, n_line, n_lines, n_lower, n_many, n_message, n_n, n_normal, n_one, n_other, n_pattern, n_piece, n_piece_k, n_pieces, n_place, n_place_k, n_places, n_quarter, n_right, n_root, n_script, n_second, n_self, n_share, n_sign, n_size, n_some, n_source, n_spot, n_spots, n_square, n_start, n_starts_in_dash, n_step, n_steps, n_style, n_things, n_top, n_turn, n_u, n_v, n_vector, n_way_now, n_whole, n_width, n_x, n_y, sub_vp0, sub_vp1, bind_vp, bindT_name, bindT_tup, bindT_obj, names?, updL, k_root_floor, k_nearest_root_share, k_way_of, k_moved_by, k_turned_about, k_normal_of, k_along_of, k_parallel, k_area_twice_of, k_one_sense, k_is_at_least_root, k_is_within_limit, k_bevel_spots, k_join_spots, k_square_about, k_cap_spots, k_dot_spots, k_dashed, k_plain_line, k_side_pieces, k_join_pieces, k_corners_of, k_stroked_line, k_stroked, k_l_pool, k_l_take, k_l_one, k_l_normal, k_l_sensed, k_l_at, k_l_side, k_l_corner, k_l_cap, k_l_due, k_l_drawn, k_Corner, k_Pattern, k_Style, k_MOST_STEPS, methC, app_l hs, ls_half, mi_half, hh, hw]
  exact ⟨_, _, ⟨rfl, rfl⟩, by simp, by omega, by rw [gl0]; rfl⟩

theorem stroked_c {a s : Nat} {C : List (List Pt × Bool)} {w : Int} {jn kd : Bool} (ha : σ[a]? = some (.list (C.map conP))) (hs : σ[s]? = some (.inst "Style" (stl w jn kd))) (hC : ∀ p ∈ C, Box p.1 ∧ p.1.length ≤ 100) (hl : C.length ≤ 100) (hh : Hf (w.fdiv 2)) : callD (lvl (tbl r) (n + 200)) d_stroked.1 [.obj a, .obj s, .int 4] σ = some (.obj σ.length, σ ++ [.list ((drawn C kd (w.fdiv 2)).map vdr)]) := by
  refine callD_list'' rfl freeL_drs ?_
  simp only [d_stroked]
  refine Ret.next (L1 := upd (bindP ["contours", "style", "grain"] [.obj a, .obj s, .int 4]) "found" (.obj σ.length)) (σ1 := σ ++ [.list []]) (by simp [run, exs, lvl_ex, lvl_ev, lvl_tst, exS, evS, evA, tstS, allT, evs, evo, bindP, List.lookup, ofString_inj, ofString_beq, subC_tup, subC_lst, binS, binI, small, most, upd, free, freeL, py, pyL, cmp_lt, cmp_le, cmp_gt, cmp_ge, cmp_eqi, cmp_nei, callN, biC, optI, k_len, k_range, k_abs, k_max, k_min, k_int, k_tuple, k_sum, k_zip, n_ahead, n_along, n_area, n_around, n_back, n_behind, n_below, n_big, n_blend, n_both_ends, n_bottom, n_cap, n_cell, n_centre, n_contour, n_contours, n_corner, n_corners, n_cutter, n_dashes, n_dot_now, n_dot_p, n_due, n_end, n_end_in, n_ends_in_dash, n_factor, n_first, n_found, n_gone, n_grain, n_half, n_here, n_inner, n_is_closed, n_join, n_joined, n_k, n_kind, n_later_p, n_left, n_length, n_lengths, n_limit, n_line, n_lines, n_lower, n_many, n_message, n_n, n_normal, n_one, n_other, n_pattern, n_piece, n_piece_k, n_pieces, n_place, n_place_k, n_places, n_quarter, n_right, n_root, n_script, n_second, n_self, n_share, n_sign, n_size, n_some, n_source, n_spot, n_spots, n_square, n_start, n_starts_in_dash, n_step, n_steps, n_style, n_things, n_top, n_turn, n_u, n_v, n_vector, n_way_now, n_whole, n_width, n_x, n_y, sub_vp0, sub_vp1, bind_vp]) ?_
  have hf := fun n τ => half_c (r := r) (n := n) (app_l (l := τ) hs)
  have hnl : ¬ w.fdiv 2 < 1 := by have := hh.lo; omega
  refine Ret.next (L1 := upd (bindP ["contours", "style", "grain"] [.obj a, .obj s, .int 4]) "found" (.obj σ.length)) (σ1 := σ ++ [.list []]) (by simp [run, exs, lvl_ex, lvl_ev, lvl_tst, exS, evS, evA, tstS, allT, evs, evo, bindP, List.lookup, ofString_inj, ofString_beq, subC_tup, subC_lst, binS, binI, small, most, upd, free, freeL, py, pyL, cmp_lt, cmp_le, cmp_gt, cmp_ge, cmp_eqi, cmp_nei, callN, biC, optI, k_len, k_range, k_abs, k_max, k_min, k_int, k_tuple, k_sum, k_zip, n_ahead, n_along, n_area, n_around, n_back, n_behind, n_below, n_big, n_blend, n_both_ends, n_bottom, n_cap, n_cell, n_centre, n_contour, n_contours, n_corner, n_corners, n_cutter, n_dashes, n_dot_now, n_dot_p, n_due, n_end, n_end_in, n_ends_in_dash, n_factor, n_first, n_found, n_gone, n_grain, n_half, n_here, n_inner, n_is_closed, n_join, n_joined, n_k, n_kind, n_later_p, n_left, n_length, n_lengths, n_limit, n_line, n_lines, n_lower, n_many, n_message, n_n, n_normal, n_one, n_other, n_pattern, n_piece, n_piece_k, n_pieces, n_place, n_place_k, n_places, n_quarter, n_right, n_root, n_script, n_second, n_self, n_share, n_sign, n_size, n_some, n_source, n_spot, n_spots, n_square, n_start, n_starts_in_dash, n_step, n_steps, n_style, n_things, n_top, n_turn, n_u, n_v, n_vector, n_way_now, n_whole, n_width, n_x, n_y, sub_vp0, sub_vp1, bind_vp, methC, app_l hs, ls_half, mi_half, hf, hnl]) ?_
  obtain ⟨sp, hsp⟩ := steps_c (r := r) (n := n + 138) (app_l (l := [.list []]) hs)
  rw [show n + 138 + 60 = n + 198 from rfl] at hsp
  refine Ret.next (L1 := upd (upd (bindP ["contours", "style", "grain"] [.obj a, .obj s, .int 4]) "found" (.obj σ.length)) "steps" (.int sp)) (σ1 := σ ++ [.list []]) (by simp [run, exs, lvl_ex, lvl_ev, lvl_tst, exS, evS, evA, tstS, allT, evs, evo, bindP, List.lookup, ofString_inj, ofString_beq, subC_tup, subC_lst, binS, binI, small, most, upd, free, freeL, py, pyL, cmp_lt, cmp_le, cmp_gt, cmp_ge, cmp_eqi, cmp_nei, callN, biC, optI, k_len, k_range, k_abs, k_max, k_min, k_int, k_tuple, k_sum, k_zip, n_ahead, n_along, n_area, n_around, n_back, n_behind, n_below, n_big, n_blend, n_both_ends, n_bottom, n_cap, n_cell, n_centre, n_contour, n_contours, n_corner, n_corners, n_cutter, n_dashes, n_dot_now, n_dot_p, n_due, n_end, n_end_in, n_ends_in_dash, n_factor, n_first, n_found, n_gone, n_grain, n_half, n_here, n_inner, n_is_closed, n_join, n_joined, n_k, n_kind, n_later_p, n_left, n_length, n_lengths, n_limit, n_line, n_lines, n_lower, n_many, n_message, n_n, n_normal, n_one, n_other, n_pattern, n_piece, n_piece_k, n_pieces, n_place, n_place_k, n_places, n_quarter, n_right, n_root, n_script, n_second, n_self, n_share, n_sign, n_size, n_some, n_source, n_spot, n_spots, n_square, n_start, n_starts_in_dash, n_step, n_steps, n_style, n_things, n_top, n_turn, n_u, n_v, n_vector, n_way_now, n_whole, n_width, n_x, n_y, sub_vp0, sub_vp1, bind_vp, methC, app_l hs, ls_steps, mi_steps, hsp]) ?_
  refine Ret.step (fun L st => SI σ s sp (drawn C kd (w.fdiv 2)) L st) ?_ fun L1 σ1 h1 => Ret.done' (v := .obj σ.length) (σ1 := σ1) (by simp [run, exs, lvl_ex, lvl_ev, lvl_tst, exS, evS, evA, tstS, allT, evs, evo, bindP, List.lookup, ofString_inj, ofString_beq, subC_tup, subC_lst, binS, binI, small, most, upd, free, freeL, py, pyL, cmp_lt, cmp_le, cmp_gt, cmp_ge, cmp_eqi, cmp_nei, callN, biC, optI, k_len, k_range, k_abs, k_max, k_min, k_int, k_tuple, k_sum, k_zip, n_ahead, n_along, n_area, n_around, n_back, n_behind, n_below, n_big, n_blend, n_both_ends, n_bottom, n_cap, n_cell, n_centre, n_contour, n_contours, n_corner, n_corners, n_cutter, n_dashes, n_dot_now, n_dot_p, n_due, n_end, n_end_in, n_ends_in_dash, n_factor, n_first, n_found, n_gone, n_grain, n_half, n_here, n_inner, n_is_closed, n_join, n_joined, n_k, n_kind, n_later_p, n_left, n_length, n_lengths, n_limit, n_line, n_lines, n_lower, n_many, n_message, n_n, n_normal, n_one, n_other, n_pattern, n_piece, n_piece_k, n_pieces, n_place, n_place_k, n_places, n_quarter, n_right, n_root, n_script, n_second, n_self, n_share, n_sign, n_size, n_some, n_source, n_spot, n_spots, n_square, n_start, n_starts_in_dash, n_step, n_steps, n_style, n_things, n_top, n_turn, n_u, n_v, n_vector, n_way_now, n_whole, n_width, n_x, n_y, sub_vp0, sub_vp1, bind_vp, h1.fo]) ⟨_, rfl, h1.tk, Nat.le_refl _, h1.ac⟩
  have hl' : C.length ≤ 1000000 := by omega
  simp [run, exs, lvl_ex, lvl_ev, lvl_tst, exS, evS, evA, tstS, allT, evs, evo, bindP, List.lookup, ofString_inj, ofString_beq, subC_tup, subC_lst, binS, binI, small, most, upd, free, freeL, py, pyL, cmp_lt, cmp_le, cmp_gt, cmp_ge, cmp_eqi, cmp_nei, callN, biC, optI, k_len, k_range, k_abs, k_max, k_min, k_int, k_tuple, k_sum, k_zip, n_ahead, n_along, n_area, n_around, n_back, n_behind, n_below, n_big, n_blend, n_both_ends, n_bottom, n_cap, n_cell, n_centre, n_contour, n_contours, n_corner, n_corners, n_cutter, n_dashes, n_dot_now, n_dot_p, n_due, n_end, n_end_in, n_ends_in_dash, n_factor, n_first, n_found, n_gone, n_grain, n_half, n_here, n_inner, n_is_closed, n_join, n_joined, n_k, n_kind, n_later_p, n_left, n_length, n_lengths, n_limit, n_line, n_lines, n_lower, n_many, n_message, n_n, n_normal, n_one, n_other, n_pattern, n_piece, n_piece_k, n_pieces, n_place, n_place_k, n_places, n_quarter, n_right, n_root, n_script, n_second, n_self, n_share, n_sign, n_size, n_some, n_source, n_spot, n_spots, n_square, n_start, n_starts_in_dash, n_step, n_steps, n_style, n_things, n_top, n_turn, n_u, n_v, n_vector, n_way_now, n_whole, n_width, n_x, n_y, sub_vp0, sub_vp1, bind_vp, items, app_l ha, hl']
  generalize hw : forL _ _ _ _ _ = o
  refine (fun ⟨a, b, c, d, _⟩ => ⟨a, b, c, d⟩ : (∃ L' σ', o = some (Fl.next, L', σ') ∧ SI σ s sp (drawn C kd (w.fdiv 2)) L' σ' ∧ (drawn C kd (w.fdiv 2)).length ≤ 300 * C.length) → ∃ L' σ', o = some (Fl.next, L', σ') ∧ SI σ s sp (drawn C kd (w.fdiv 2)) L' σ') (forL_map hw (fun dn L st => SI σ s sp (drawn dn kd (w.fdiv 2)) L st ∧ (drawn dn kd (w.fdiv 2)).length ≤ 300 * dn.length) (fun dn L st hI => ?_) (fun dn p rs L st hC' hI => ?_) ?_)
  · have := get_take hI.1.tk ha
    rw [still_one]; simp [items, this, most, hl']
  · obtain ⟨⟨i1, i2, i3, i4, i5⟩, i6⟩ := hI
    obtain ⟨l, c⟩ := p
    have hmem : (l, c) ∈ C := by rw [hC']; simp
    obtain ⟨hb, hll⟩ := hC _ hmem
    dsimp only at hb hll
    have hs1 := get_take i4 hs
    simp [run, exs, lvl_ex, lvl_ev, lvl_tst, exS, evS, evA, tstS, allT, evs, evo, bindP, List.lookup, ofString_inj, ofString_beq, subC_tup, subC_lst, binS, binI, small, most, upd, free, freeL, py, pyL, cmp_lt, cmp_le, cmp_gt, cmp_ge, cmp_eqi, cmp_nei, callN, biC, optI, k_len, k_range, k_abs, k_max, k_min, k_int, k_tuple, k_sum, k_zip, n_ahead, n_along, n_area, n_around, n_back, n_behind, n_below, n_big, n_blend, n_both_ends, n_bottom, n_cap, n_cell, n_centre, n_contour, n_contours, n_corner, n_corners, n_cutter, n_dashes, n_dot_now, n_dot_p, n_due, n_end, n_end_in, n_ends_in_dash, n_factor, n_first, n_found, n_gone, n_grain, n_half, n_here, n_inner, n_is_closed, n_join, n_joined, n_k, n_kind, n_later_p, n_left, n_length, n_lengths, n_limit, n_line, n_lines, n_lower, n_many, n_message, n_n, n_normal, n_one, n_other, n_pattern, n_piece, n_piece_k, n_pieces, n_place, n_place_k, n_places, n_quarter, n_right, n_root, n_script, n_second, n_self, n_share, n_sign, n_size, n_some, n_source, n_spot, n_spots, n_square, n_start, n_starts_in_dash, n_step, n_steps, n_style, n_things, n_top, n_turn, n_u, n_v, n_vector, n_way_now, n_whole, n_width, n_x, n_y, sub_vp0, sub_vp1, bind_vp, bindT_name, bindT_tup, bindT_obj, names?, updL, k_root_floor, k_nearest_root_share, k_way_of, k_moved_by, k_turned_about, k_normal_of, k_along_of, k_parallel, k_area_twice_of, k_one_sense, k_is_at_least_root, k_is_within_limit, k_bevel_spots, k_join_spots, k_square_about, k_cap_spots, k_dot_spots, k_dashed, k_plain_line, k_side_pieces, k_join_pieces, k_corners_of, k_stroked_line, k_stroked, k_l_pool, k_l_take, k_l_one, k_l_normal, k_l_sensed, k_l_at, k_l_side, k_l_corner, k_l_cap, k_l_due, k_l_drawn, k_Corner, k_Pattern, k_Style, k_MOST_STEPS, conP, i2, hs1, ls_dashes, ls_start, fd_dashes, fd_start, dashed_c, items, gl0]
    generalize hw2 : forL _ _ _ _ _ = o2
    have hdn : dn.length < 100 := by
      have := congrArg List.length hC'
      simp at this; omega
    have hgr : (drawn (dn ++ [(l, c)]) kd (w.fdiv 2)) = drawn dn kd (w.fdiv 2) ++ (pieces c kd l (w.fdiv 2)).filterMap sns := by
      simp [drawn]
    generalize drawn dn kd (w.fdiv 2) = acc at *
    rw [hgr]
    have hgo : st.length ≠ σ.length := Nat.ne_of_gt (lt_of i5)
    obtain ⟨hps, hpl⟩ := pieces_sm (c := c) (kd := kd) hb hh
    have hpl' : (pieces c kd l (w.fdiv 2)).length ≤ 203 := by omega
    rcases forL_map (C := [()]) (g := fun _ => con l c) hw2 (fun dm L st' => (SI σ s sp (acc ++ ((dm.flatMap fun _ => pieces c kd l (w.fdiv 2)).filterMap sns)) L st') ∧ st'[st.length]? = some (.list [con l c])) (fun dm L st' hI => by
        rw [still_one]; simp [items, hI.2, most]) (fun dm p rs L st' hC' hI => by
      have hdm : dm = [] := by
        cases dm with
        | nil => rfl
        | cons a dm => simp at hC'
      subst hdm
      obtain ⟨⟨i1, i2, i3, i4, i5⟩, i7⟩ := hI
      have hs1 := get_take i4 hs
      have hk := fun n => stroked_line_c (r := r) (n := n) (σ := st') (st := sp) (c := c) hs1 hb hll hh
      simp at i5
      have hg2 : st'.length ≠ σ.length := Nat.ne_of_gt (lt_of i5)
      have hpl2 : (pieces c kd l (w.fdiv 2)).length ≤ 1000000 := by omega
      simp only [con] at *
      simp [run, exs, lvl_ex, lvl_ev, lvl_tst, exS, evS, evA, tstS, allT, evs, evo, bindP, List.lookup, ofString_inj, ofString_beq, subC_tup, subC_lst, binS, binI, small, most, upd, free, freeL, py, pyL, cmp_lt, cmp_le, cmp_gt, cmp_ge, cmp_eqi, cmp_nei, callN, biC, optI, k_len, k_range, k_abs, k_max, k_min, k_int, k_tuple, k_sum, k_zip, n_ahead, n_along, n_area, n_around, n_back, n_behind, n_below, n_big, n_blend, n_both_ends, n_bottom, n_cap, n_cell, n_centre, n_contour, n_contours, n_corner, n_corners, n_cutter, n_dashes, n_dot_now, n_dot_p, n_due, n_end, n_end_in, n_ends_in_dash, n_factor, n_first, n_found, n_gone, n_grain, n_half, n_here, n_inner, n_is_closed, n_join, n_joined, n_k, n_kind, n_later_p, n_left, n_length, n_lengths, n_limit, n_line, n_lines, n_lower, n_many, n_message, n_n, n_normal, n_one, n_other, n_pattern, n_piece, n_piece_k, n_pieces, n_place, n_place_k, n_places, n_quarter, n_right, n_root, n_script, n_second, n_self, n_share, n_sign, n_size, n_some, n_source, n_spot, n_spots, n_square, n_start, n_starts_in_dash, n_step, n_steps, n_style, n_things, n_top, n_turn, n_u, n_v, n_vector, n_way_now, n_whole, n_width, n_x, n_y, sub_vp0, sub_vp1, bind_vp, bindT_name, bindT_tup, bindT_obj, names?, updL, k_root_floor, k_nearest_root_share, k_way_of, k_moved_by, k_turned_about, k_normal_of, k_along_of, k_parallel, k_area_twice_of, k_one_sense, k_is_at_least_root, k_is_within_limit, k_bevel_spots, k_join_spots, k_square_about, k_cap_spots, k_dot_spots, k_dashed, k_plain_line, k_side_pieces, k_join_pieces, k_corners_of, k_stroked_line, k_stroked, k_l_pool, k_l_take, k_l_one, k_l_normal, k_l_sensed, k_l_at, k_l_side, k_l_corner, k_l_cap, k_l_due, k_l_drawn, k_Corner, k_Pattern, k_Style, k_MOST_STEPS, i2, i3, hk, items, gl0, hpl2]
      generalize hw3 : forL _ _ _ _ _ = o3
      rcases forL_map (C := pieces c kd l (w.fdiv 2)) (g := vps) hw3 (fun dq L st2 => (SI σ s sp (acc ++ dq.filterMap sns) L st2) ∧ st2[st.length]? = some (.list [.tup [vps l, .bool c]]) ∧ st2[st'.length]? = some (.list ((pieces c kd l (w.fdiv 2)).map vps))) (fun dq L st2 hI => by
          rw [still_one]; simp [items, hI.2.2, most, hpl2]) (fun dq P rs L st2 hC2 hI => by
        obtain ⟨⟨i1, i2, i3, i4, i5⟩, i7, i8⟩ := hI
        obtain ⟨m1, m2⟩ := hps P (by rw [hC2]; simp)
        have hk := fun n => one_sense_c (r := r) (n := n) (σ := st2) (l := P) (by omega) m2
        have hdq : dq.length ≤ 203 := by
          have := congrArg List.length hC2
          simp at this; omega
        have hfl : (dq.filterMap sns).length ≤ dq.length := List.length_filterMap_le _ _
        have hsz : acc.length + (dq.filterMap sns).length < 1000000 := by omega
        simp at i5
        simp [run, exs, lvl_ex, lvl_ev, lvl_tst, exS, evS, evA, tstS, allT, evs, evo, bindP, List.lookup, ofString_inj, ofString_beq, subC_tup, subC_lst, binS, binI, small, most, upd, free, freeL, py, pyL, cmp_lt, cmp_le, cmp_gt, cmp_ge, cmp_eqi, cmp_nei, callN, biC, optI, k_len, k_range, k_abs, k_max, k_min, k_int, k_tuple, k_sum, k_zip, n_ahead, n_along, n_area, n_around, n_back, n_behind, n_below, n_big, n_blend, n_both_ends, n_bottom, n_cap, n_cell, n_centre, n_contour, n_contours, n_corner, n_corners, n_cutter, n_dashes, n_dot_now, n_dot_p, n_due, n_end, n_end_in, n_ends_in_dash, n_factor, n_first, n_found, n_gone, n_grain, n_half, n_here, n_inner, n_is_closed, n_join, n_joined, n_k, n_kind, n_later_p, n_left, n_length, n_lengths, n_limit, n_line, n_lines, n_lower, n_many, n_message, n_n, n_normal, n_one, n_other, n_pattern, n_piece, n_piece_k, n_pieces, n_place, n_place_k, n_places, n_quarter, n_right, n_root, n_script, n_second, n_self, n_share, n_sign, n_size, n_some, n_source, n_spot, n_spots, n_square, n_start, n_starts_in_dash, n_step, n_steps, n_style, n_things, n_top, n_turn, n_u, n_v, n_vector, n_way_now, n_whole, n_width, n_x, n_y, sub_vp0, sub_vp1, bind_vp, hk]
        cases hsn : sns P with
        | none =>
          simp [run, exs, lvl_ex, lvl_ev, lvl_tst, exS, evS, evA, tstS, allT, evs, evo, bindP, List.lookup, ofString_inj, ofString_beq, subC_tup, subC_lst, binS, binI, small, most, upd, free, freeL, py, pyL, cmp_lt, cmp_le, cmp_gt, cmp_ge, cmp_eqi, cmp_nei, callN, biC, optI, k_len, k_range, k_abs, k_max, k_min, k_int, k_tuple, k_sum, k_zip, n_ahead, n_along, n_area, n_around, n_back, n_behind, n_below, n_big, n_blend, n_both_ends, n_bottom, n_cap, n_cell, n_centre, n_contour, n_contours, n_corner, n_corners, n_cutter, n_dashes, n_dot_now, n_dot_p, n_due, n_end, n_end_in, n_ends_in_dash, n_factor, n_first, n_found, n_gone, n_grain, n_half, n_here, n_inner, n_is_closed, n_join, n_joined, n_k, n_kind, n_later_p, n_left, n_length, n_lengths, n_limit, n_line, n_lines, n_lower, n_many, n_message, n_n, n_normal, n_one, n_other, n_pattern, n_piece, n_piece_k, n_pieces, n_place, n_place_k, n_places, n_quarter, n_right, n_root, n_script, n_second, n_self, n_share, n_sign, n_size, n_some, n_source, n_spot, n_spots, n_square, n_start, n_starts_in_dash, n_step, n_steps, n_style, n_things, n_top, n_turn, n_u, n_v, n_vector, n_way_now, n_whole, n_width, n_x, n_y, sub_vp0, sub_vp1, bind_vp, snV, isn_none]
          exact ⟨_, _, ⟨rfl, rfl⟩, ⟨by simp [upd, ofString_inj, i1], by simp [upd, ofString_inj, i2], by simp [upd, ofString_inj, i3], i4, by rw [i5]; simp [List.filterMap_cons, hsn]⟩, i7, i8⟩
        | some m =>
          simp [run, exs, lvl_ex, lvl_ev, lvl_tst, exS, evS, evA, tstS, allT, evs, evo, bindP, List.lookup, ofString_inj, ofString_beq, subC_tup, subC_lst, binS, binI, small, most, upd, free, freeL, py, pyL, cmp_lt, cmp_le, cmp_gt, cmp_ge, cmp_eqi, cmp_nei, callN, biC, optI, k_len, k_range, k_abs, k_max, k_min, k_int, k_tuple, k_sum, k_zip, n_ahead, n_along, n_area, n_around, n_back, n_behind, n_below, n_big, n_blend, n_both_ends, n_bottom, n_cap, n_cell, n_centre, n_contour, n_contours, n_corner, n_corners, n_cutter, n_dashes, n_dot_now, n_dot_p, n_due, n_end, n_end_in, n_ends_in_dash, n_factor, n_first, n_found, n_gone, n_grain, n_half, n_here, n_inner, n_is_closed, n_join, n_joined, n_k, n_kind, n_later_p, n_left, n_length, n_lengths, n_limit, n_line, n_lines, n_lower, n_many, n_message, n_n, n_normal, n_one, n_other, n_pattern, n_piece, n_piece_k, n_pieces, n_place, n_place_k, n_places, n_quarter, n_right, n_root, n_script, n_second, n_self, n_share, n_sign, n_size, n_some, n_source, n_spot, n_spots, n_square, n_start, n_starts_in_dash, n_step, n_steps, n_style, n_things, n_top, n_turn, n_u, n_v, n_vector, n_way_now, n_whole, n_width, n_x, n_y, sub_vp0, sub_vp1, bind_vp, snV, isn_some, i1, methC, listM, i5, hsz]
          refine ⟨_, _, ⟨rfl, rfl⟩, ⟨by simp [upd, ofString_inj, i1], by simp [upd, ofString_inj, i2], by simp [upd, ofString_inj, i3], take_set i4 (Nat.le_refl _), ?_⟩, ?_, ?_⟩
          · rw [set_self i5]; simp [List.filterMap_cons, hsn]; rfl
          · rw [set_ne (Ne.symm hgo)]; exact i7
          · rw [set_ne (Ne.symm hg2)]; exact i8) (by
        refine ⟨⟨by simp [upd, ofString_inj, i1], by simp [upd, ofString_inj, i2], by simp [upd, ofString_inj, i3], take_app i4, ?_⟩, app_l i7, by rw [gl0]; rfl⟩
        rw [app_l i5]; simp) with ⟨L3, σ3, rfl, h31, h32, h33⟩
      exact ⟨L3, σ3, rfl, h31, h32⟩) (by
      refine ⟨⟨by simp [upd, ofString_inj, i1], by simp [upd, ofString_inj, i2], by simp [upd, ofString_inj, i3], take_app i4, ?_⟩, by rw [gl0]; rfl⟩
      rw [app_l i5]; simp) with ⟨L', σ', rfl, hh1, hh2⟩
    refine ⟨L', σ', rfl, ?_, ?_⟩
    · simpa using hh1
    · have hfl : ((pieces c kd l (w.fdiv 2)).filterMap sns).length ≤ (pieces c kd l (w.fdiv 2)).length := List.length_filterMap_le _ _
      simp; omega
  · exact ⟨⟨by simp [upd, ofString_inj], by simp [upd, ofString_inj, bindP, List.lookup, ofString_beq], upd_self, by simp, by rw [gl0]; rfl⟩, by simp [drawn]⟩
end Mine
end
section
open PySem PySem.W PyProof.Rows PySem.Calls
set_option linter.unusedVariables false
set_option linter.unusedSimpArgs false
set_option maxRecDepth 100000
namespace Mine
variable {r : Nat → Option (List Int)} {T : Tbl} {F : Funs} {L : Loc} {σ : Sto} {n : Nat}

/-- the source of draws -/
def Src (s : Nat) (σ : Sto) : Prop := ∃ a b, σ[s]? = some (.list [.int a, .int b]) ∧ 0 ≤ b ∧ b < 2147483647
/-- only the source may have changed -/
def Keep (s : Nat) (σ σ' : Sto) : Prop := σ.length ≤ σ'.length ∧ ∀ k, k ≠ s → k < σ.length → σ'[k]? = σ[k]?
theorem Keep.refl {s : Nat} : Keep s σ σ := ⟨Nat.le_refl _, fun _ _ _ => rfl⟩
theorem Keep.trans {s : Nat} {σ1 σ2 σ3 : Sto} (h : Keep s σ1 σ2) (h' : Keep s σ2 σ3) : Keep s σ1 σ3 := ⟨Nat.le_trans h.1 h'.1, fun k hk hl => by rw [h'.2 k hk (Nat.lt_of_lt_of_le hl h.1), h.2 k hk hl]⟩
theorem Keep.app {s : Nat} {l : Sto} : Keep s σ (σ ++ l) := ⟨by rw [List.length_append]; omega, fun k _ hl => List.getElem?_append_left hl⟩
theorem Keep.get {s k : Nat} {o : Ob} {σ' : Sto} (h : Keep s σ σ') (hk : k ≠ s) (ho : σ[k]? = some o) : σ'[k]? = some o := by rw [h.2 k hk (lt_of ho), ho]
theorem Src.app {s : Nat} {l : Sto} (h : Src s σ) : Src s (σ ++ l) := by
  obtain ⟨a, b, h1, h2⟩ := h
  exact ⟨a, b, app_l h1, h2⟩
theorem Keep.set {s : Nat} {o : Ob} : Keep s σ (σ.set s o) := ⟨by rw [List.length_set]; exact Nat.le_refl _, fun k hk _ => set_ne (Ne.symm hk)⟩
theorem Keep.setn {s j : Nat} {o : Ob} {σ0 : Sto} (h : Keep s σ0 σ) (hj : σ0.length ≤ j) : Keep s σ0 (σ.set j o) := ⟨by rw [List.length_set]; exact h.1, fun k hk hl => by rw [set_ne (by omega)]; exact h.2 k hk hl⟩
theorem Src.setn {s j : Nat} {o : Ob} (h : Src s σ) (hj : j ≠ s) : Src s (σ.set j o) := by
  obtain ⟨a, b, h1, h2⟩ := h
  exact ⟨a, b, by rw [set_ne hj]; exact h1, h2⟩
theorem gc_keep {s : Nat} {v : V} {σ' : Sto} (hf : free v = true) (hs : Src s σ) (hk : Keep s σ σ') (hs' : Src s σ') : ∃ σ2, gc σ v σ' = (v, σ2) ∧ Keep s σ σ2 ∧ Src s σ2 := by
  unfold gc
  by_cases ht : σ'.take σ.length = σ
  · rw [if_pos ht, if_pos hf]; exact ⟨_, rfl, Keep.refl, hs⟩
  · rw [if_neg ht]; exact ⟨_, rfl, hk, hs'⟩

theorem take_c {s t : Nat} (hs : Src s σ) (h1 : 1 ≤ t) (h2 : t ≤ 8) : ∃ k σ', callD (lvl (tbl r) (n + 40)) d_l_take.1 [.obj s, .int (t : Nat)] σ = some (.int (k : Nat), σ') ∧ k < t ∧ Keep s σ σ' ∧ Src s σ' := by
  suffices hR : Ret (lvl (tbl r) (n + 40)) (bindP (d_l_take.1.params.args.map (·.arg)) [.obj s, .int (t : Nat)]) σ d_l_take.1.body fun v σ' => ∃ k : Nat, v = .int k ∧ k < t ∧ Keep s σ σ' ∧ Src s σ' by
    obtain ⟨v, σ', e, k, rfl, hk, hK, hS⟩ := hR.run
    obtain ⟨σ2, e2, hK2, hS2⟩ := gc_keep (v := .int k) rfl hs hK hS
    exact ⟨k, σ2, by rw [callD_run rfl e, e2], hk, hK2, hS2⟩
  obtain ⟨a, b, ha, hb0, hb1⟩ := hs
  have g0 : subC (tbl r) σ (.obj s) (.int 0) = some (.int a) := sub_0 ha rfl
  have g1 : subC (tbl r) σ (.obj s) (.int 1) = some (.int b) := sub_at (j := 1) ha rfl (by decide)
  obtain ⟨N, hN⟩ : ∃ N : Int, (t : Int) = N := ⟨_, rfl⟩
  have hN0 : ¬ N = 0 := by omega
  have hN1 : N.natAbs < 1073741824 := by omega
  simp only [d_l_take, hN]
  by_cases hp : 0 < a
  · refine Ret.done' (v := .int (a.fmod N)) (σ1 := σ.set s (.list [.int (a.fdiv N), .int b])) ?_ ?_
    · simp [run, exs, lvl_ex, lvl_ev, lvl_tst, exS, evS, evA, tstS, allT, evs, evo, bindP, List.lookup, ofString_inj, ofString_beq, subC_tup, subC_lst, binS, binI, small, most, upd, free, freeL, py, pyL, cmp_lt, cmp_le, cmp_gt, cmp_ge, cmp_eqi, cmp_nei, callN, biC, optI, k_len, k_range, k_abs, k_max, k_min, k_int, k_tuple, k_sum, k_zip, n_ahead, n_along, n_area, n_around, n_back, n_behind, n_below, n_big, n_blend, n_both_ends, n_bottom, n_cap, n_cell, n_centre, n_contour, n_contours, n_corner, n_corners, n_cutter, n_dashes, n_dot_now, n_dot_p, n_due, n_end, n_end_in, n_ends_in_dash, n_factor, n_first, n_found, n_gone, n_grain, n_half, n_here, n_inner, n_is_closed, n_join, n_joined, n_k, n_kind, n_later_p, n_left, n_length, n_lengths, n_limit, n_line, n_lines, n_lower, n_many, n_message, n_n, n_normal, n_one, n_other, n_pattern, n_piece, n_piece_k, n_pieces, n_place, n_place_k, n_places, n_quarter, n_right, n_root, n_script, n_second, n_self, n_share, n_sign, n_size, n_some, n_source, n_spot, n_spots, n_square, n_start, n_starts_in_dash, n_step, n_steps, n_style, n_things, n_top, n_turn, n_u, n_v, n_vector, n_way_now, n_whole, n_width, n_x, n_y, sub_vp0, sub_vp1, bind_vp, g0, hp, hN0, hN1, ha]
    · have := Int.fmod_nonneg_of_pos a (show 0 < N by omega)
      have h' := Int.fmod_lt_of_pos a (show 0 < N by omega)
      refine ⟨(a.fmod N).toNat, by rw [Int.toNat_of_nonneg this], by omega, Keep.set, _, _, set_self ha, hb0, hb1⟩
  · generalize hc : (b * 39373 + 7).fmod 2147483647 = c
    have hc0 : 0 ≤ c := by rw [← hc]; exact Int.fmod_nonneg_of_pos _ (by decide)
    have hc1 : c < 2147483647 := by rw [← hc]; exact Int.fmod_lt_of_pos _ (by decide)
    have b1 : -1152921504606846976 < b := by omega
    have b2 : b < 1152921504606846976 := by omega
    have b3 : -1152921504606846976 < c := by omega
    have b4 : c < 1152921504606846976 := by omega
    have g2 : subC (tbl r) (σ.set s (.list [.int a, .int c])) (.obj s) (.int 1) = some (.int c) := sub_at (j := 1) (set_self ha) rfl (by decide)
    refine Ret.next (L1 := bindP ["source", "top"] [.obj s, .int N]) (σ1 := σ) (by simp [run, exs, lvl_ex, lvl_ev, lvl_tst, exS, evS, evA, tstS, allT, evs, evo, bindP, List.lookup, ofString_inj, ofString_beq, subC_tup, subC_lst, binS, binI, small, most, upd, free, freeL, py, pyL, cmp_lt, cmp_le, cmp_gt, cmp_ge, cmp_eqi, cmp_nei, callN, biC, optI, k_len, k_range, k_abs, k_max, k_min, k_int, k_tuple, k_sum, k_zip, n_ahead, n_along, n_area, n_around, n_back, n_behind, n_below, n_big, n_blend, n_both_ends, n_bottom, n_cap, n_cell, n_centre, n_contour, n_contours, n_corner, n_corners, n_cutter, n_dashes, n_dot_now, n_dot_p, n_due, n_end, n_end_in, n_ends_in_dash, n_factor, n_first, n_found, n_gone, n_grain, n_half, n_here, n_inner, n_is_closed, n_join, n_joined, n_k, n_kind, n_later_p, n_left, n_length, n_lengths, n_limit, n_line, n_lines, n_lower, n_many, n_message, n_n, n_normal, n_one, n_other, n_pattern, n_piece, n_piece_k, n_pieces, n_place, n_place_k, n_places, n_quarter, n_right, n_root, n_script, n_second, n_self, n_share, n_sign, n_size, n_some, n_source, n_spot, n_spots, n_square, n_start, n_starts_in_dash, n_step, n_steps, n_style, n_things, n_top, n_turn, n_u, n_v, n_vector, n_way_now, n_whole, n_width, n_x, n_y, sub_vp0, sub_vp1, bind_vp, g0, hp]) ?_
    refine Ret.next (L1 := bindP ["source", "top"] [.obj s, .int N]) (σ1 := σ.set s (.list [.int a, .int c])) (by simp [run, exs, lvl_ex, lvl_ev, lvl_tst, exS, evS, evA, tstS, allT, evs, evo, bindP, List.lookup, ofString_inj, ofString_beq, subC_tup, subC_lst, binS, binI, small, most, upd, free, freeL, py, pyL, cmp_lt, cmp_le, cmp_gt, cmp_ge, cmp_eqi, cmp_nei, callN, biC, optI, k_len, k_range, k_abs, k_max, k_min, k_int, k_tuple, k_sum, k_zip, n_ahead, n_along, n_area, n_around, n_back, n_behind, n_below, n_big, n_blend, n_both_ends, n_bottom, n_cap, n_cell, n_centre, n_contour, n_contours, n_corner, n_corners, n_cutter, n_dashes, n_dot_now, n_dot_p, n_due, n_end, n_end_in, n_ends_in_dash, n_factor, n_first, n_found, n_gone, n_grain, n_half, n_here, n_inner, n_is_closed, n_join, n_joined, n_k, n_kind, n_later_p, n_left, n_length, n_lengths, n_limit, n_line, n_lines, n_lower, n_many, n_message, n_n, n_normal, n_one, n_other, n_pattern, n_piece, n_piece_k, n_pieces, n_place, n_place_k, n_places, n_quarter, n_right, n_root, n_script, n_second, n_self, n_share, n_sign, n_size, n_some, n_source, n_spot, n_spots, n_square, n_start, n_starts_in_dash, n_step, n_steps, n_style, n_things, n_top, n_turn, n_u, n_v, n_vector, n_way_now, n_whole, n_width, n_x, n_y, sub_vp0, sub_vp1, bind_vp, k_root_floor, k_nearest_root_share, k_way_of, k_moved_by, k_turned_about, k_normal_of, k_along_of, k_parallel, k_area_twice_of, k_one_sense, k_is_at_least_root, k_is_within_limit, k_bevel_spots, k_join_spots, k_square_about, k_cap_spots, k_dot_spots, k_dashed, k_plain_line, k_side_pieces, k_join_pieces, k_corners_of, k_stroked_line, k_stroked, k_l_pool, k_l_take, k_l_one, k_l_normal, k_l_sensed, k_l_at, k_l_side, k_l_corner, k_l_cap, k_l_due, k_l_drawn, k_Corner, k_Pattern, k_Style, k_MOST_STEPS, g1, ha, b1, b2, hc]) ?_
    refine Ret.done' (v := .int ((((c * c).fmod 2147483629).fdiv 32).fmod N)) (σ1 := σ.set s (.list [.int a, .int c])) ?_ ?_
    · simp [run, exs, lvl_ex, lvl_ev, lvl_tst, exS, evS, evA, tstS, allT, evs, evo, bindP, List.lookup, ofString_inj, ofString_beq, subC_tup, subC_lst, binS, binI, small, most, upd, free, freeL, py, pyL, cmp_lt, cmp_le, cmp_gt, cmp_ge, cmp_eqi, cmp_nei, callN, biC, optI, k_len, k_range, k_abs, k_max, k_min, k_int, k_tuple, k_sum, k_zip, n_ahead, n_along, n_area, n_around, n_back, n_behind, n_below, n_big, n_blend, n_both_ends, n_bottom, n_cap, n_cell, n_centre, n_contour, n_contours, n_corner, n_corners, n_cutter, n_dashes, n_dot_now, n_dot_p, n_due, n_end, n_end_in, n_ends_in_dash, n_factor, n_first, n_found, n_gone, n_grain, n_half, n_here, n_inner, n_is_closed, n_join, n_joined, n_k, n_kind, n_later_p, n_left, n_length, n_lengths, n_limit, n_line, n_lines, n_lower, n_many, n_message, n_n, n_normal, n_one, n_other, n_pattern, n_piece, n_piece_k, n_pieces, n_place, n_place_k, n_places, n_quarter, n_right, n_root, n_script, n_second, n_self, n_share, n_sign, n_size, n_some, n_source, n_spot, n_spots, n_square, n_start, n_starts_in_dash, n_step, n_steps, n_style, n_things, n_top, n_turn, n_u, n_v, n_vector, n_way_now, n_whole, n_width, n_x, n_y, sub_vp0, sub_vp1, bind_vp, k_root_floor, k_nearest_root_share, k_way_of, k_moved_by, k_turned_about, k_normal_of, k_along_of, k_parallel, k_area_twice_of, k_one_sense, k_is_at_least_root, k_is_within_limit, k_bevel_spots, k_join_spots, k_square_about, k_cap_spots, k_dot_spots, k_dashed, k_plain_line, k_side_pieces, k_join_pieces, k_corners_of, k_stroked_line, k_stroked, k_l_pool, k_l_take, k_l_one, k_l_normal, k_l_sensed, k_l_at, k_l_side, k_l_corner, k_l_cap, k_l_due, k_l_drawn, k_Corner, k_Pattern, k_Style, k_MOST_STEPS, g2, b3, b4, hN0]
    · have := Int.fmod_nonneg_of_pos (((c * c).fmod 2147483629).fdiv 32) (show 0 < N by omega)
      have h' := Int.fmod_lt_of_pos (((c * c).fmod 2147483629).fdiv 32) (show 0 < N by omega)
      generalize (((c * c).fmod 2147483629).fdiv 32).fmod N = u at *
      refine ⟨u.toNat, by rw [Int.toNat_of_nonneg this], by omega, Keep.set, _, _, set_self ha, hc0, hc1⟩

theorem get_mem {l : List V} {k : Nat} {t : Nat} (h : k < l.length) (ht : σ[t]? = some (.list l)) (hl : l.length ≤ 8) : ∃ v ∈ l, subC T σ (.obj t) (.int (k : Nat)) = some v :=
  ⟨l[k], List.getElem_mem h, sub_at ht (List.getElem?_eq_getElem h) (by omega)⟩
theorem one_c {s t : Nat} {l : List V} (hs : Src s σ) (ht : σ[t]? = some (.list l)) (hts : t ≠ s) (hf : ∀ v ∈ l, free v = true) (h1 : 1 ≤ l.length) (h2 : l.length ≤ 8) : ∃ v σ', callD (lvl (tbl r) (n + 60)) d_l_one.1 [.obj s, .obj t] σ = some (v, σ') ∧ v ∈ l ∧ Keep s σ σ' ∧ Src s σ' := by
  suffices hR : Ret (lvl (tbl r) (n + 60)) (bindP (d_l_one.1.params.args.map (·.arg)) [.obj s, .obj t]) σ d_l_one.1.body fun v σ' => v ∈ l ∧ Keep s σ σ' ∧ Src s σ' by
    obtain ⟨v, σ', e, hk, hK, hS⟩ := hR.run
    obtain ⟨σ2, e2, hK2, hS2⟩ := gc_keep (hf v hk) hs hK hS
    exact ⟨v, σ2, by rw [callD_run rfl e, e2], hk, hK2, hS2⟩
  obtain ⟨k, σ', e, hk, hK, hS⟩ := take_c (r := r) (n := n + 17) hs h1 h2
  rw [show n + 17 + 40 = n + 57 from rfl] at e
  obtain ⟨v, hv, hg⟩ := get_mem (T := tbl r) hk (hK.get hts ht) h2
  simp only [d_l_one]
  have hl' : l.length ≤ 1000000 := by omega
  refine Ret.done' (v := v) (σ1 := σ') ?_ ⟨hv, hK, hS⟩
  simp [run, exs, lvl_ex, lvl_ev, lvl_tst, exS, evS, evA, tstS, allT, evs, evo, bindP, List.lookup, ofString_inj, ofString_beq, subC_tup, subC_lst, binS, binI, small, most, upd, free, freeL, py, pyL, cmp_lt, cmp_le, cmp_gt, cmp_ge, cmp_eqi, cmp_nei, callN, biC, optI, k_len, k_range, k_abs, k_max, k_min, k_int, k_tuple, k_sum, k_zip, n_ahead, n_along, n_area, n_around, n_back, n_behind, n_below, n_big, n_blend, n_both_ends, n_bottom, n_cap, n_cell, n_centre, n_contour, n_contours, n_corner, n_corners, n_cutter, n_dashes, n_dot_now, n_dot_p, n_due, n_end, n_end_in, n_ends_in_dash, n_factor, n_first, n_found, n_gone, n_grain, n_half, n_here, n_inner, n_is_closed, n_join, n_joined, n_k, n_kind, n_later_p, n_left, n_length, n_lengths, n_limit, n_line, n_lines, n_lower, n_many, n_message, n_n, n_normal, n_one, n_other, n_pattern, n_piece, n_piece_k, n_pieces, n_place, n_place_k, n_places, n_quarter, n_right, n_root, n_script, n_second, n_self, n_share, n_sign, n_size, n_some, n_source, n_spot, n_spots, n_square, n_start, n_starts_in_dash, n_step, n_steps, n_style, n_things, n_top, n_turn, n_u, n_v, n_vector, n_way_now, n_whole, n_width, n_x, n_y, sub_vp0, sub_vp1, bind_vp, k_root_floor, k_nearest_root_share, k_way_of, k_moved_by, k_turned_about, k_normal_of, k_along_of, k_parallel, k_area_twice_of, k_one_sense, k_is_at_least_root, k_is_within_limit, k_bevel_spots, k_join_spots, k_square_about, k_cap_spots, k_dot_spots, k_dashed, k_plain_line, k_side_pieces, k_join_pieces, k_corners_of, k_stroked_line, k_stroked, k_l_pool, k_l_take, k_l_one, k_l_normal, k_l_sensed, k_l_at, k_l_side, k_l_corner, k_l_cap, k_l_due, k_l_drawn, k_Corner, k_Pattern, k_Style, k_MOST_STEPS, items, ht, hl', e, hg]

theorem pool_c {k : Nat} {a : Nat} {xs : List Int} (ha : r a = some xs) (hk : k ≤ 1) (hx : xs.length ≤ 63) : ∃ x b, callD (lvl (tbl r) (n + 40)) d_l_pool.1 [.lst a, .int (k : Nat)] σ = some (.obj σ.length, σ ++ [.list [.int x, .int b]]) ∧ 0 ≤ b ∧ b < 2147483647 := by
  have hro : (tbl r).ro a = some xs := ha
  have hx' : xs.length ≤ 1000000 := by omega
  obtain ⟨c, hc⟩ : ∃ c : Int, c = if k < xs.length then xs[k]?.getD 0 else 0 := ⟨_, rfl⟩
  obtain ⟨g, hg⟩ : ∃ g : Int, g = if c < -1 - c then -1 - c else c := ⟨_, rfl⟩
  obtain ⟨K, hK⟩ : ∃ K : Int, (k : Int) = K := ⟨_, rfl⟩
  have k1 : -1152921504606846976 < K := by omega
  have k2 : K < 1152921504606846976 := by omega
  have k3 : -1152921504606846976 < 7919 * K := by omega
  have k4 : 7919 * K < 1152921504606846976 := by omega
  refine ⟨g * (if 1000000000000000000 ≤ g then 1 else 0), ((g.fmod 2147483629 + 7919 * K * K + 31 * K + 17) * 48271).fmod 2147483647, callD_list'' rfl rfl ?_, Int.fmod_nonneg_of_pos _ (by decide), Int.fmod_lt_of_pos _ (by decide)⟩
  simp only [d_l_pool, hK]
  refine Ret.next (L1 := upd (bindP ["script", "k"] [.lst a, .int K]) "cell" (.int c)) (σ1 := σ) ?_ ?_
  · by_cases hlt : k < xs.length
    · have hlt' : K < (xs.length : Int) := by omega
      have hs : subC (tbl r) σ (.lst a) (.int K) = some (.int c) := by
        rw [subC_lst, hro, ← hK]
        rw [if_pos (by simp [small]; omega)]
        show getAt (xs.map .int) (k : Int) = _
        unfold getAt place
        rw [if_pos (by omega), List.length_map, if_pos (by omega)]
        show (xs.map V.int)[((k : Int)).toNat]? = _
        rw [Int.toNat_natCast, List.getElem?_map, List.getElem?_eq_getElem hlt, hc, if_pos hlt]
        simp [List.getElem?_eq_getElem hlt]
      simp [run, exs, lvl_ex, lvl_ev, lvl_tst, exS, evS, evA, tstS, allT, evs, evo, bindP, List.lookup, ofString_inj, ofString_beq, subC_lst, binS, binI, small, most, upd, free, freeL, py, pyL, cmp_lt, cmp_le, cmp_gt, cmp_ge, cmp_eqi, cmp_nei, callN, biC, optI, k_len, k_range, k_abs, k_max, k_min, k_int, k_tuple, k_sum, k_zip, n_ahead, n_along, n_area, n_around, n_back, n_behind, n_below, n_big, n_blend, n_both_ends, n_bottom, n_cap, n_cell, n_centre, n_contour, n_contours, n_corner, n_corners, n_cutter, n_dashes, n_dot_now, n_dot_p, n_due, n_end, n_end_in, n_ends_in_dash, n_factor, n_first, n_found, n_gone, n_grain, n_half, n_here, n_inner, n_is_closed, n_join, n_joined, n_k, n_kind, n_later_p, n_left, n_length, n_lengths, n_limit, n_line, n_lines, n_lower, n_many, n_message, n_n, n_normal, n_one, n_other, n_pattern, n_piece, n_piece_k, n_pieces, n_place, n_place_k, n_places, n_quarter, n_right, n_root, n_script, n_second, n_self, n_share, n_sign, n_size, n_some, n_source, n_spot, n_spots, n_square, n_start, n_starts_in_dash, n_step, n_steps, n_style, n_things, n_top, n_turn, n_u, n_v, n_vector, n_way_now, n_whole, n_width, n_x, n_y, sub_vp0, sub_vp1, bind_vp, k_root_floor, k_nearest_root_share, k_way_of, k_moved_by, k_turned_about, k_normal_of, k_along_of, k_parallel, k_area_twice_of, k_one_sense, k_is_at_least_root, k_is_within_limit, k_bevel_spots, k_join_spots, k_square_about, k_cap_spots, k_dot_spots, k_dashed, k_plain_line, k_side_pieces, k_join_pieces, k_corners_of, k_stroked_line, k_stroked, k_l_pool, k_l_take, k_l_one, k_l_normal, k_l_sensed, k_l_at, k_l_side, k_l_corner, k_l_cap, k_l_due, k_l_drawn, k_Corner, k_Pattern, k_Style, k_MOST_STEPS, hro, hx', hlt', hs]
    · have hlt' : ¬ K < (xs.length : Int) := by omega
      have hc0 : c = 0 := by rw [hc, if_neg hlt]
      rw [hc0]
      simp [run, exs, lvl_ex, lvl_ev, lvl_tst, exS, evS, evA, tstS, allT, evs, evo, bindP, List.lookup, ofString_inj, ofString_beq, subC_lst, binS, binI, small, most, upd, free, freeL, py, pyL, cmp_lt, cmp_le, cmp_gt, cmp_ge, cmp_eqi, cmp_nei, callN, biC, optI, k_len, k_range, k_abs, k_max, k_min, k_int, k_tuple, k_sum, k_zip, n_ahead, n_along, n_area, n_around, n_back, n_behind, n_below, n_big, n_blend, n_both_ends, n_bottom, n_cap, n_cell, n_centre, n_contour, n_contours, n_corner, n_corners, n_cutter, n_dashes, n_dot_now, n_dot_p, n_due, n_end, n_end_in, n_ends_in_dash, n_factor, n_first, n_found, n_gone, n_grain, n_half, n_here, n_inner, n_is_closed, n_join, n_joined, n_k, n_kind, n_later_p, n_left, n_length, n_lengths, n_limit, n_line, n_lines, n_lower, n_many, n_message, n_n, n_normal, n_one, n_other, n_pattern, n_piece, n_piece_k, n_pieces, n_place, n_place_k, n_places, n_quarter, n_right, n_root, n_script, n_second, n_self, n_share, n_sign, n_size, n_some, n_source, n_spot, n_spots, n_square, n_start, n_starts_in_dash, n_step, n_steps, n_style, n_things, n_top, n_turn, n_u, n_v, n_vector, n_way_now, n_whole, n_width, n_x, n_y, sub_vp0, sub_vp1, bind_vp, k_root_floor, k_nearest_root_share, k_way_of, k_moved_by, k_turned_about, k_normal_of, k_along_of, k_parallel, k_area_twice_of, k_one_sense, k_is_at_least_root, k_is_within_limit, k_bevel_spots, k_join_spots, k_square_about, k_cap_spots, k_dot_spots, k_dashed, k_plain_line, k_side_pieces, k_join_pieces, k_corners_of, k_stroked_line, k_stroked, k_l_pool, k_l_take, k_l_one, k_l_normal, k_l_sensed, k_l_at, k_l_side, k_l_corner, k_l_cap, k_l_due, k_l_drawn, k_Corner, k_Pattern, k_Style, k_MOST_STEPS, hro, hx', hlt']
  refine Ret.next (L1 := upd (upd (bindP ["script", "k"] [.lst a, .int K]) "cell" (.int c)) "big" (.int g)) (σ1 := σ) ?_ ?_
  · simp [run, exs, lvl_ex, lvl_ev, lvl_tst, exS, evS, evA, tstS, allT, evs, evo, bindP, List.lookup, ofString_inj, ofString_beq, subC_tup, subC_lst, binS, binI, small, most, upd, free, freeL, py, pyL, cmp_lt, cmp_le, cmp_gt, cmp_ge, cmp_eqi, cmp_nei, callN, biC, optI, k_len, k_range, k_abs, k_max, k_min, k_int, k_tuple, k_sum, k_zip, n_ahead, n_along, n_area, n_around, n_back, n_behind, n_below, n_big, n_blend, n_both_ends, n_bottom, n_cap, n_cell, n_centre, n_contour, n_contours, n_corner, n_corners, n_cutter, n_dashes, n_dot_now, n_dot_p, n_due, n_end, n_end_in, n_ends_in_dash, n_factor, n_first, n_found, n_gone, n_grain, n_half, n_here, n_inner, n_is_closed, n_join, n_joined, n_k, n_kind, n_later_p, n_left, n_length, n_lengths, n_limit, n_line, n_lines, n_lower, n_many, n_message, n_n, n_normal, n_one, n_other, n_pattern, n_piece, n_piece_k, n_pieces, n_place, n_place_k, n_places, n_quarter, n_right, n_root, n_script, n_second, n_self, n_share, n_sign, n_size, n_some, n_source, n_spot, n_spots, n_square, n_start, n_starts_in_dash, n_step, n_steps, n_style, n_things, n_top, n_turn, n_u, n_v, n_vector, n_way_now, n_whole, n_width, n_x, n_y, sub_vp0, sub_vp1, bind_vp, k_root_floor, k_nearest_root_share, k_way_of, k_moved_by, k_turned_about, k_normal_of, k_along_of, k_parallel, k_area_twice_of, k_one_sense, k_is_at_least_root, k_is_within_limit, k_bevel_spots, k_join_spots, k_square_about, k_cap_spots, k_dot_spots, k_dashed, k_plain_line, k_side_pieces, k_join_pieces, k_corners_of, k_stroked_line, k_stroked, k_l_pool, k_l_take, k_l_one, k_l_normal, k_l_sensed, k_l_at, k_l_side, k_l_corner, k_l_cap, k_l_due, k_l_drawn, k_Corner, k_Pattern, k_Style, k_MOST_STEPS, hg]
  refine Ret.next (L1 := upd (upd (upd (bindP ["script", "k"] [.lst a, .int K]) "cell" (.int c)) "big" (.int g)) "blend" (.int (((g.fmod 2147483629 + 7919 * K * K + 31 * K + 17) * 48271).fmod 2147483647))) (σ1 := σ) ?_ ?_
  · simp [run, exs, lvl_ex, lvl_ev, lvl_tst, exS, evS, evA, tstS, allT, evs, evo, bindP, List.lookup, ofString_inj, ofString_beq, subC_tup, subC_lst, binS, binI, small, most, upd, free, freeL, py, pyL, cmp_lt, cmp_le, cmp_gt, cmp_ge, cmp_eqi, cmp_nei, callN, biC, optI, k_len, k_range, k_abs, k_max, k_min, k_int, k_tuple, k_sum, k_zip, n_ahead, n_along, n_area, n_around, n_back, n_behind, n_below, n_big, n_blend, n_both_ends, n_bottom, n_cap, n_cell, n_centre, n_contour, n_contours, n_corner, n_corners, n_cutter, n_dashes, n_dot_now, n_dot_p, n_due, n_end, n_end_in, n_ends_in_dash, n_factor, n_first, n_found, n_gone, n_grain, n_half, n_here, n_inner, n_is_closed, n_join, n_joined, n_k, n_kind, n_later_p, n_left, n_length, n_lengths, n_limit, n_line, n_lines, n_lower, n_many, n_message, n_n, n_normal, n_one, n_other, n_pattern, n_piece, n_piece_k, n_pieces, n_place, n_place_k, n_places, n_quarter, n_right, n_root, n_script, n_second, n_self, n_share, n_sign, n_size, n_some, n_source, n_spot, n_spots, n_square, n_start, n_starts_in_dash, n_step, n_steps, n_style, n_things, n_top, n_turn, n_u, n_v, n_vector, n_way_now, n_whole, n_width, n_x, n_y, sub_vp0, sub_vp1, bind_vp, k_root_floor, k_nearest_root_share, k_way_of, k_moved_by, k_turned_about, k_normal_of, k_along_of, k_parallel, k_area_twice_of, k_one_sense, k_is_at_least_root, k_is_within_limit, k_bevel_spots, k_join_spots, k_square_about, k_cap_spots, k_dot_spots, k_dashed, k_plain_line, k_side_pieces, k_join_pieces, k_corners_of, k_stroked_line, k_stroked, k_l_pool, k_l_take, k_l_one, k_l_normal, k_l_sensed, k_l_at, k_l_side, k_l_corner, k_l_cap, k_l_due, k_l_drawn, k_Corner, k_Pattern, k_Style, k_MOST_STEPS, k1, k2, k3, k4]
  refine Ret.done' (v := .obj σ.length) (σ1 := σ ++ [.list [.int (g * (if 1000000000000000000 ≤ g then 1 else 0)), .int (((g.fmod 2147483629 + 7919 * K * K + 31 * K + 17) * 48271).fmod 2147483647)]]) ?_ ⟨_, rfl, by simp, Nat.le_refl _, by rw [gl0]; rfl⟩
  by_cases hb : 1000000000000000000 ≤ g <;> simp [run, exs, lvl_ex, lvl_ev, lvl_tst, exS, evS, evA, tstS, allT, evs, evo, bindP, List.lookup, ofString_inj, ofString_beq, subC_tup, subC_lst, binS, binI, small, most, upd, free, freeL, py, pyL, cmp_lt, cmp_le, cmp_gt, cmp_ge, cmp_eqi, cmp_nei, callN, biC, optI, k_len, k_range, k_abs, k_max, k_min, k_int, k_tuple, k_sum, k_zip, n_ahead, n_along, n_area, n_around, n_back, n_behind, n_below, n_big, n_blend, n_both_ends, n_bottom, n_cap, n_cell, n_centre, n_contour, n_contours, n_corner, n_corners, n_cutter, n_dashes, n_dot_now, n_dot_p, n_due, n_end, n_end_in, n_ends_in_dash, n_factor, n_first, n_found, n_gone, n_grain, n_half, n_here, n_inner, n_is_closed, n_join, n_joined, n_k, n_kind, n_later_p, n_left, n_length, n_lengths, n_limit, n_line, n_lines, n_lower, n_many, n_message, n_n, n_normal, n_one, n_other, n_pattern, n_piece, n_piece_k, n_pieces, n_place, n_place_k, n_places, n_quarter, n_right, n_root, n_script, n_second, n_self, n_share, n_sign, n_size, n_some, n_source, n_spot, n_spots, n_square, n_start, n_starts_in_dash, n_step, n_steps, n_style, n_things, n_top, n_turn, n_u, n_v, n_vector, n_way_now, n_whole, n_width, n_x, n_y, sub_vp0, sub_vp1, bind_vp, k_root_floor, k_nearest_root_share, k_way_of, k_moved_by, k_turned_about, k_normal_of, k_along_of, k_parallel, k_area_twice_of, k_one_sense, k_is_at_least_root, k_is_within_limit, k_bevel_spots, k_join_spots, k_square_about, k_cap_spots, k_dot_spots, k_dashed, k_plain_line, k_side_pieces, k_join_pieces, k_corners_of, k_stroked_line, k_stroked, k_l_pool, k_l_take, k_l_one, k_l_normal, k_l_sensed, k_l_at, k_l_side, k_l_corner, k_l_cap, k_l_due, k_l_drawn, k_Corner, k_Pattern, k_Style, k_MOST_STEPS, hb]
end Mine
end
section
open PySem PySem.W PyProof.Rows PySem.Calls
set_option linter.unusedVariables false
set_option linter.unusedSimpArgs false
set_option maxRecDepth 100000
namespace Mine
variable {r : Nat → Option (List Int)} {T : Tbl} {F : Funs} {L : Loc} {σ : Sto} {n : Nat}

theorem gc_nf {k : Nat} {l : List V} {σ' : Sto} (hg : σ'[k]? = some (.list l)) (hf : freeL l = false) : gc σ (.obj k) σ' = (.obj k, σ') := by
  unfold gc
  by_cases ht : σ'.take σ.length = σ
  · rw [if_pos ht, if_neg (by simp [free])]
    dsimp only
    rw [hg]
    dsimp only
    rw [if_neg (by simp [hf])]
  · rw [if_neg ht]

def steps8 : List V := [.tup [.int 0, .int 0], .tup [.int 8, .int 0], .tup [.int 8, .int 0], .tup [.int (-8), .int 0], .tup [.int 3, .int 4], .tup [.int (-6), .int 8], .tup [.int 0, .int (-9)], .tup [.int 5, .int 7]]
theorem steps8_ok : ∀ v ∈ steps8, ∃ p : Pt, v = vp p ∧ (-9 ≤ p.1 ∧ p.1 ≤ 9) ∧ (-9 ≤ p.2 ∧ p.2 ≤ 9) := by
  intro v hv
  simp only [steps8, List.mem_cons, List.not_mem_nil, or_false] at hv
  rcases hv with h | h | h | h | h | h | h | h <;> subst h
  · exact ⟨(0, 0), rfl, by decide, by decide⟩
  · exact ⟨(8, 0), rfl, by decide, by decide⟩
  · exact ⟨(8, 0), rfl, by decide, by decide⟩
  · exact ⟨(-8, 0), rfl, by decide, by decide⟩
  · exact ⟨(3, 4), rfl, by decide, by decide⟩
  · exact ⟨(-6, 8), rfl, by decide, by decide⟩
  · exact ⟨(0, -9), rfl, by decide, by decide⟩
  · exact ⟨(5, 7), rfl, by decide, by decide⟩

structure DrI (σ : Sto) (s i : Nat) (L : Loc) (st : Sto) : Prop where
  so : L "source" = some (.obj s)
  ex : ∃ (k : Nat) (l : List Pt) (p : Pt), L "spots" = some (.obj k) ∧ L "here" = some (vp p) ∧ st[k]? = some (.list (l.map vp)) ∧ σ.length ≤ k ∧ l.length = i ∧ (∀ q ∈ l, (-9 * (i : Int) ≤ q.1 ∧ q.1 ≤ 9 * i) ∧ (-9 * (i : Int) ≤ q.2 ∧ q.2 ≤ 9 * i)) ∧ (-9 * (i : Int) ≤ p.1 ∧ p.1 ≤ 9 * i) ∧ (-9 * (i : Int) ≤ p.2 ∧ p.2 ≤ 9 * i)
  kp : Keep s σ st
  sr : Src s st

/-- a line that was drawn: where its list lies -/
def Line (σ : Sto) (j : Nat) (l : List Pt) (c : Bool) : Prop := ∃ k, σ[j]? = some (.list [.obj k, .bool c]) ∧ σ[k]? = some (.list (l.map vp))

theorem drawn_c {s : Nat} (hs : Src s σ) : ∃ (l : List Pt) (c : Bool) (j k : Nat) (σ' : Sto), callD (lvl (tbl r) (n + 100)) d_l_drawn.1 [.obj s] σ = some (.obj j, σ') ∧ Keep s σ σ' ∧ Src s σ' ∧ σ'[j]? = some (.list [.obj k, .bool c]) ∧ σ'[k]? = some (.list (l.map vp)) ∧ σ.length ≤ j ∧ σ.length ≤ k ∧ Box l ∧ l.length ≤ 6 := by
  have hlt : s < σ.length := by obtain ⟨a, b, h, _⟩ := hs; exact lt_of h
  suffices hR : Ret (lvl (tbl r) (n + 100)) (bindP (d_l_drawn.1.params.args.map (·.arg)) [.obj s]) σ d_l_drawn.1.body fun v σ' => ∃ (l : List Pt) (c : Bool) (j k : Nat), v = .obj j ∧ Keep s σ σ' ∧ Src s σ' ∧ σ'[j]? = some (.list [.obj k, .bool c]) ∧ σ'[k]? = some (.list (l.map vp)) ∧ σ.length ≤ j ∧ σ.length ≤ k ∧ Box l ∧ l.length ≤ 6 by
    obtain ⟨v, σ', e, l, c, j, k, rfl, h1, h2, h3, h4⟩ := hR.run
    refine ⟨l, c, j, k, σ', ?_, h1, h2, h3, h4⟩
    rw [callD_run rfl e, gc_nf h3 (by simp [freeL, free])]
  simp only [d_l_drawn]
  refine Ret.next (L1 := upd (upd (bindP ["source"] [.obj s]) "spots" (.obj σ.length)) "here" (vp (0, 0))) (σ1 := σ ++ [.list []]) (by simp [run, exs, lvl_ex, lvl_ev, lvl_tst, exS, evS, evA, tstS, allT, evs, evo, bindP, List.lookup, ofString_inj, ofString_beq, subC_tup, subC_lst, binS, binI, small, most, upd, free, freeL, py, pyL, cmp_lt, cmp_le, cmp_gt, cmp_ge, cmp_eqi, cmp_nei, callN, biC, optI, k_len, k_range, k_abs, k_max, k_min, k_int, k_tuple, k_sum, k_zip, n_ahead, n_along, n_area, n_around, n_back, n_behind, n_below, n_big, n_blend, n_both_ends, n_bottom, n_cap, n_cell, n_centre, n_contour, n_contours, n_corner, n_corners, n_cutter, n_dashes, n_dot_now, n_dot_p, n_due, n_end, n_end_in, n_ends_in_dash, n_factor, n_first, n_found, n_gone, n_grain, n_half, n_here, n_inner, n_is_closed, n_join, n_joined, n_k, n_kind, n_later_p, n_left, n_length, n_lengths, n_limit, n_line, n_lines, n_lower, n_many, n_message, n_n, n_normal, n_one, n_other, n_pattern, n_piece, n_piece_k, n_pieces, n_place, n_place_k, n_places, n_quarter, n_right, n_root, n_script, n_second, n_self, n_share, n_sign, n_size, n_some, n_source, n_spot, n_spots, n_square, n_start, n_starts_in_dash, n_step, n_steps, n_style, n_things, n_top, n_turn, n_u, n_v, n_vector, n_way_now, n_whole, n_width, n_x, n_y, sub_vp0, sub_vp1, bind_vp, bindT_name, bindT_tup, bindT_obj, names?, updL, vp]) ?_
  refine Ret.step (fun L st => ∃ i ≤ 6, DrI σ s i L st) ?_ fun L1 σ1 h1 => ?_
  · obtain ⟨v, σ1, e, hv, hK, hS⟩ := one_c (r := r) (n := n + 37) (s := s) (t := σ.length + 1) (σ := σ ++ [.list [], .list [.int 1, .int 2, .int 3, .int 4, .int 5, .int 6, .int 4, .int 0]]) hs.app (by rw [gl]; rfl) (by omega) (by decide) (by decide) (by decide)
    rw [show n + 37 + 60 = n + 97 from rfl] at e
    obtain ⟨M, rfl, hM⟩ : ∃ M : Nat, v = .int (M : Nat) ∧ M ≤ 6 := by
      simp only [List.mem_cons, List.not_mem_nil, or_false] at hv
      rcases hv with h | h | h | h | h | h | h | h <;> subst h
      · exact ⟨1, rfl, by decide⟩
      · exact ⟨2, rfl, by decide⟩
      · exact ⟨3, rfl, by decide⟩
      · exact ⟨4, rfl, by decide⟩
      · exact ⟨5, rfl, by decide⟩
      · exact ⟨6, rfl, by decide⟩
      · exact ⟨4, rfl, by decide⟩
      · exact ⟨0, rfl, by decide⟩
    obtain ⟨N, hN⟩ : ∃ N : Int, (M : Int) = N := ⟨_, rfl⟩
    have b1 : -1152921504606846976 < N := by omega
    have b2 : N < 1152921504606846976 := by omega
    have b4 : N ≤ 1000000 := by omega
    rw [hN] at e
    simp [run, exs, lvl_ex, lvl_ev, lvl_tst, exS, evS, evA, tstS, allT, evs, evo, bindP, List.lookup, ofString_inj, ofString_beq, subC_tup, subC_lst, binS, binI, small, most, upd, free, freeL, py, pyL, cmp_lt, cmp_le, cmp_gt, cmp_ge, cmp_eqi, cmp_nei, callN, biC, optI, k_len, k_range, k_abs, k_max, k_min, k_int, k_tuple, k_sum, k_zip, n_ahead, n_along, n_area, n_around, n_back, n_behind, n_below, n_big, n_blend, n_both_ends, n_bottom, n_cap, n_cell, n_centre, n_contour, n_contours, n_corner, n_corners, n_cutter, n_dashes, n_dot_now, n_dot_p, n_due, n_end, n_end_in, n_ends_in_dash, n_factor, n_first, n_found, n_gone, n_grain, n_half, n_here, n_inner, n_is_closed, n_join, n_joined, n_k, n_kind, n_later_p, n_left, n_length, n_lengths, n_limit, n_line, n_lines, n_lower, n_many, n_message, n_n, n_normal, n_one, n_other, n_pattern, n_piece, n_piece_k, n_pieces, n_place, n_place_k, n_places, n_quarter, n_right, n_root, n_script, n_second, n_self, n_share, n_sign, n_size, n_some, n_source, n_spot, n_spots, n_square, n_start, n_starts_in_dash, n_step, n_steps, n_style, n_things, n_top, n_turn, n_u, n_v, n_vector, n_way_now, n_whole, n_width, n_x, n_y, sub_vp0, sub_vp1, bind_vp, bindT_name, bindT_tup, bindT_obj, names?, updL, k_root_floor, k_nearest_root_share, k_way_of, k_moved_by, k_turned_about, k_normal_of, k_along_of, k_parallel, k_area_twice_of, k_one_sense, k_is_at_least_root, k_is_within_limit, k_bevel_spots, k_join_spots, k_square_about, k_cap_spots, k_dot_spots, k_dashed, k_plain_line, k_side_pieces, k_join_pieces, k_corners_of, k_stroked_line, k_stroked, k_l_pool, k_l_take, k_l_one, k_l_normal, k_l_sensed, k_l_at, k_l_side, k_l_corner, k_l_cap, k_l_due, k_l_drawn, k_Corner, k_Pattern, k_Style, k_MOST_STEPS, e, items, b1, b2, b4]
    generalize hw : forL _ _ _ _ _ = o
    rcases forL_map (C := List.range N.toNat) (g := fun (k : Nat) => V.int k) hw (fun dn L st => DrI σ s dn.length L st) (fun dn L st hI => by rw [still_one]; simp [items, small, most, b1, b2, b4]) (fun dn i rs L st hC hI => by
      obtain ⟨i1, ⟨k, l, p, i2, i3, i4, i5, i6, i7, i8, i9⟩, i10, i11⟩ := hI
      have hdn : dn.length < 6 := by
        have := congrArg List.length hC
        simp at this; omega
      have hks : k ≠ s := by omega
      obtain ⟨v, σ2, e, hv, hK, hS⟩ := one_c (r := r) (n := n + 37) (s := s) (t := st.length) (σ := st ++ [.list steps8]) i11.app (by rw [gl0]; rfl) (by have := i10.1; omega) (by decide) (by decide) (by decide)
      obtain ⟨q, rfl, ⟨q1, q2⟩, q3, q4⟩ := steps8_ok v hv
      simp only [steps8] at e
      have hg : σ2[k]? = some (.list (l.map vp)) := hK.get hks (app_l i4)
      have hlen : l.length < 1000000 := by omega
      simp [run, exs, lvl_ex, lvl_ev, lvl_tst, exS, evS, evA, tstS, allT, evs, evo, bindP, List.lookup, ofString_inj, ofString_beq, subC_tup, subC_lst, binS, binI, small, most, upd, free, freeL, py, pyL, cmp_lt, cmp_le, cmp_gt, cmp_ge, cmp_eqi, cmp_nei, callN, biC, optI, k_len, k_range, k_abs, k_max, k_min, k_int, k_tuple, k_sum, k_zip, n_ahead, n_along, n_area, n_around, n_back, n_behind, n_below, n_big, n_blend, n_both_ends, n_bottom, n_cap, n_cell, n_centre, n_contour, n_contours, n_corner, n_corners, n_cutter, n_dashes, n_dot_now, n_dot_p, n_due, n_end, n_end_in, n_ends_in_dash, n_factor, n_first, n_found, n_gone, n_grain, n_half, n_here, n_inner, n_is_closed, n_join, n_joined, n_k, n_kind, n_later_p, n_left, n_length, n_lengths, n_limit, n_line, n_lines, n_lower, n_many, n_message, n_n, n_normal, n_one, n_other, n_pattern, n_piece, n_piece_k, n_pieces, n_place, n_place_k, n_places, n_quarter, n_right, n_root, n_script, n_second, n_self, n_share, n_sign, n_size, n_some, n_source, n_spot, n_spots, n_square, n_start, n_starts_in_dash, n_step, n_steps, n_style, n_things, n_top, n_turn, n_u, n_v, n_vector, n_way_now, n_whole, n_width, n_x, n_y, sub_vp0, sub_vp1, bind_vp, bindT_name, bindT_tup, bindT_obj, names?, updL, k_root_floor, k_nearest_root_share, k_way_of, k_moved_by, k_turned_about, k_normal_of, k_along_of, k_parallel, k_area_twice_of, k_one_sense, k_is_at_least_root, k_is_within_limit, k_bevel_spots, k_join_spots, k_square_about, k_cap_spots, k_dot_spots, k_dashed, k_plain_line, k_side_pieces, k_join_pieces, k_corners_of, k_stroked_line, k_stroked, k_l_pool, k_l_take, k_l_one, k_l_normal, k_l_sensed, k_l_at, k_l_side, k_l_corner, k_l_cap, k_l_due, k_l_drawn, k_Corner, k_Pattern, k_Style, k_MOST_STEPS, i1, i2, i3, e, methC, listM, hg, hlen]
      refine ⟨_, _, ⟨rfl, rfl⟩, by simp [upd, ofString_inj, i1], ⟨k, l ++ [(p.1 + q.1, p.2 + q.2)], (p.1 + q.1, p.2 + q.2), by simp [upd, ofString_inj, i2], upd_self, ?_, i5, by simp [i6], ?_, by dsimp only; omega, by dsimp only; omega⟩, (i10.trans (Keep.app.trans hK)).setn i5, hS.setn hks⟩
      · rw [set_self hg]; simp [vp]
      · intro u hu
        rcases List.mem_append.mp hu with hu | hu
        · have := i7 u hu
          omega
        · rw [List.mem_singleton] at hu
          subst hu
          dsimp only
          omega) (by
      have hgs : ∀ l', (σ ++ [Ob.list []] ++ l')[σ.length]? = some (.list []) := fun l' => app_l (by rw [gl0]; rfl)
      refine ⟨by simp [upd, ofString_inj, bindP, List.lookup, ofString_beq], ⟨σ.length, [], (0, 0), by simp [upd, ofString_inj], by simp [upd, ofString_inj], hK.get (by omega) (by rw [gl0]; rfl), Nat.le_refl _, rfl, fun q hq => (nomatch hq), by decide, by decide⟩, Keep.app.trans hK, hS⟩) with ⟨L2, σ2, rfl, hI⟩
    exact ⟨L2, σ2, rfl, N.toNat, by omega, by simpa using hI⟩
  obtain ⟨i, hi6, i1, ⟨k, l, p, i2, i3, i4, i5, i6, i7, i8, i9⟩, i10, i11⟩ := h1
  obtain ⟨d, σ2, e, hd, hK, hS⟩ := take_c (r := r) (n := n + 56) (s := s) (t := 2) i11 (by decide) (by decide)
  have hg : σ2[k]? = some (.list (l.map vp)) := hK.get (by omega) i4
  have hlen := i10.1
  have hlen2 := hK.1
  refine Ret.done' (v := .obj σ2.length) (σ1 := σ2 ++ [.list [.obj k, .bool (decide ((d : Int) = 0))]]) ?_ ⟨l, decide ((d : Int) = 0), σ2.length, k, rfl, (i10.trans hK).trans Keep.app, hS.app, by rw [gl0]; rfl, app_l hg, by omega, i5, fun q hq => ?_, by omega⟩
  · simp at e
    simp [run, exs, lvl_ex, lvl_ev, lvl_tst, exS, evS, evA, tstS, allT, evs, evo, bindP, List.lookup, ofString_inj, ofString_beq, subC_tup, subC_lst, binS, binI, small, most, upd, free, freeL, py, pyL, cmp_lt, cmp_le, cmp_gt, cmp_ge, cmp_eqi, cmp_nei, callN, biC, optI, k_len, k_range, k_abs, k_max, k_min, k_int, k_tuple, k_sum, k_zip, n_ahead, n_along, n_area, n_around, n_back, n_behind, n_below, n_big, n_blend, n_both_ends, n_bottom, n_cap, n_cell, n_centre, n_contour, n_contours, n_corner, n_corners, n_cutter, n_dashes, n_dot_now, n_dot_p, n_due, n_end, n_end_in, n_ends_in_dash, n_factor, n_first, n_found, n_gone, n_grain, n_half, n_here, n_inner, n_is_closed, n_join, n_joined, n_k, n_kind, n_later_p, n_left, n_length, n_lengths, n_limit, n_line, n_lines, n_lower, n_many, n_message, n_n, n_normal, n_one, n_other, n_pattern, n_piece, n_piece_k, n_pieces, n_place, n_place_k, n_places, n_quarter, n_right, n_root, n_script, n_second, n_self, n_share, n_sign, n_size, n_some, n_source, n_spot, n_spots, n_square, n_start, n_starts_in_dash, n_step, n_steps, n_style, n_things, n_top, n_turn, n_u, n_v, n_vector, n_way_now, n_whole, n_width, n_x, n_y, sub_vp0, sub_vp1, bind_vp, k_root_floor, k_nearest_root_share, k_way_of, k_moved_by, k_turned_about, k_normal_of, k_along_of, k_parallel, k_area_twice_of, k_one_sense, k_is_at_least_root, k_is_within_limit, k_bevel_spots, k_join_spots, k_square_about, k_cap_spots, k_dot_spots, k_dashed, k_plain_line, k_side_pieces, k_join_pieces, k_corners_of, k_stroked_line, k_stroked, k_l_pool, k_l_take, k_l_one, k_l_normal, k_l_sensed, k_l_at, k_l_side, k_l_corner, k_l_cap, k_l_due, k_l_drawn, k_Corner, k_Pattern, k_Style, k_MOST_STEPS, i1, i2, e]

  · have := i7 q hq
    exact ⟨by omega, by omega⟩
end Mine
end
section
open PySem PySem.W PyProof.Rows PySem.Calls
set_option linter.unusedVariables false
set_option linter.unusedSimpArgs false
set_option maxRecDepth 100000
namespace Mine
variable {r : Nat → Option (List Int)} {T : Tbl} {F : Funs} {L : Loc} {σ : Sto} {n : Nat}

/-- a body that ends with R -/
def Nxt (F : Funs) (L : Loc) (σ : Sto) (ss : List Stmt) (R : Loc → Sto → Prop) : Prop := ∃ L' σ', exs F.ex L σ ss = some (.next, L', σ') ∧ R L' σ'
theorem Nxt.nil {R : Loc → Sto → Prop} (h : R L σ) : Nxt F L σ [] R := ⟨L, σ, rfl, h⟩
theorem Nxt.step {s : Stmt} {ss : List Stmt} {P R : Loc → Sto → Prop} (h : ∃ L1 σ1, F.ex L σ s = some (.next, L1, σ1) ∧ R L1 σ1) (k : ∀ L1 σ1, R L1 σ1 → Nxt F L1 σ1 ss P) : Nxt F L σ (s :: ss) P := by
  obtain ⟨L1, σ1, e, hr⟩ := h
  obtain ⟨L', σ', e2, hp⟩ := k _ _ hr
  exact ⟨L', σ', by unfold exs; rw [e]; exact e2, hp⟩
theorem ex_for {α : Type} {g : α → V} {C : List α} {t it : Expr} {b : List Stmt} {q : Pos} {w : V} {σ1 : Sto} (h : (lvl T n).ev L σ it = some (w, σ1)) (hi : items σ1 w = some (C.map g)) (I : List α → Loc → Sto → Prop)
    (hc : ∀ dn L σ, I dn L σ → items σ w = some (C.map g))
    (hf : ∀ dn p rs L σ, C = dn ++ p :: rs → I dn L σ → ∃ L1, bindT L σ t (g p) = some L1 ∧ Nxt (lvl T n) L1 σ b (I (dn ++ [p]))) (h0 : I [] L σ1) : ∃ L' σ', (lvl T (n + 1)).ex L σ (.For t it b [] q) = some (.next, L', σ') ∧ I C L' σ' := by
  have e : (lvl T (n + 1)).ex L σ (.For t it b [] q) = forL (fun σ => still σ (.one w) (C.map g)) (fun v L σ => match bindT L σ t v with
          | some L1 => exs (lvl T n).ex L1 σ b
          | none => none) (C.map g) L σ1 := by
    rw [lvl_ex, exS, h]
    dsimp only
    rw [hi]
    try rfl
  exact forL_map e.symm I (fun dn L σ hI => by rw [still_one]; exact hc dn L σ hI) (fun dn p rs L σ hC hI => by
    obtain ⟨L1, hb, L', σ', e, hI'⟩ := hf dn p rs L σ hC hI
    exact ⟨L', σ', by simp only [hb]; exact e, hI'⟩) h0
theorem compL_inv {chk : Sto → Bool} {f : V → Sto → Option Sto} {vs : List V} (I : Sto → Prop) (hc : ∀ σ, I σ → chk σ = true) (hf : ∀ v ∈ vs, ∀ σ, I σ → ∃ σ', f v σ = some σ' ∧ I σ') (h0 : I σ) : ∃ σ', compL chk f vs σ = some σ' ∧ I σ' := by
  induction vs generalizing σ with
  | nil => exact ⟨σ, by unfold compL; rw [if_pos (hc _ h0)], h0⟩
  | cons v vs ih =>
    obtain ⟨σ1, h1, h2⟩ := hf v (.head _) σ h0
    obtain ⟨σ2, h3, h4⟩ := ih (fun u hu => hf u (.tail _ hu)) h2
    exact ⟨σ2, by unfold compL; rw [if_pos (hc _ h0), h1]; exact h3, h4⟩

def forB : Stmt → List Stmt
  | .For _ _ b _ _ => b
  | _ => []
noncomputable def w0 : {s : Stmt // d_law.1.body[0]? = some s} := ⟨_, rfl⟩
noncomputable def w1 : {s : Stmt // d_law.1.body[1]? = some s} := ⟨_, rfl⟩
noncomputable def w2 : {s : Stmt // d_law.1.body[2]? = some s} := ⟨_, rfl⟩
noncomputable def u1 : {s : Stmt // (forB w0.1)[0]? = some s} := ⟨_, rfl⟩
noncomputable def u2 : {s : Stmt // (forB w0.1)[1]? = some s} := ⟨_, rfl⟩
noncomputable def u3 : {s : Stmt // (forB w0.1)[2]? = some s} := ⟨_, rfl⟩
noncomputable def u4 : {s : Stmt // (forB w0.1)[3]? = some s} := ⟨_, rfl⟩
noncomputable def u5 : {s : Stmt // (forB w0.1)[4]? = some s} := ⟨_, rfl⟩
noncomputable def u6 : {s : Stmt // (forB w0.1)[5]? = some s} := ⟨_, rfl⟩
noncomputable def u7 : {s : Stmt // (forB w0.1)[6]? = some s} := ⟨_, rfl⟩
noncomputable def u8 : {s : Stmt // (forB w0.1)[7]? = some s} := ⟨_, rfl⟩
noncomputable def u9 : {s : Stmt // (forB w0.1)[8]? = some s} := ⟨_, rfl⟩
noncomputable def u10 : {s : Stmt // (forB w0.1)[9]? = some s} := ⟨_, rfl⟩
theorem law_body : d_law.1.body = [w0.1, w1.1, w2.1] := rfl
theorem law_turn : forB w0.1 = [u1.1, u2.1, u3.1, u4.1, u5.1, u6.1, u7.1, u8.1, u9.1, u10.1] := rfl

structure Par where
  (s q j1 k1 j2 k2 : Nat)
  (l1 l2 : List Pt)
  (c1 c2 : Bool)
  (h : Int)
structure Base (P : Par) (σ : Sto) : Prop where
  bq : σ[P.q]? = some (.list [.obj P.j1, .obj P.j2])
  b1 : σ[P.j1]? = some (.list [.obj P.k1, .bool P.c1])
  b2 : σ[P.j2]? = some (.list [.obj P.k2, .bool P.c2])
  b3 : σ[P.k1]? = some (.list (P.l1.map vp))
  b4 : σ[P.k2]? = some (.list (P.l2.map vp))
  x1 : Box P.l1
  x2 : Box P.l2
  y1 : P.l1.length ≤ 6
  y2 : P.l2.length ≤ 6
  jj : P.j1 ≠ P.j2
  hh : Hf P.h
  nq : P.q ≠ P.s
  n1 : P.j1 ≠ P.s
  n2 : P.j2 ≠ P.s
  n3 : P.k1 ≠ P.s
  n4 : P.k2 ≠ P.s
theorem Base.keep {P : Par} {σ' : Sto} (h : Base P σ) (k : Keep P.s σ σ') : Base P σ' := { h with
  bq := k.get h.nq h.bq
  b1 := k.get h.n1 h.b1
  b2 := k.get h.n2 h.b2
  b3 := k.get h.n3 h.b3
  b4 := k.get h.n4 h.b4 }
theorem Base.pre {P : Par} {σ' : Sto} (h : Base P σ) (k : σ'.take σ.length = σ) : Base P σ' := { h with
  bq := get_take k h.bq
  b1 := get_take k h.b1
  b2 := get_take k h.b2
  b3 := get_take k h.b3
  b4 := get_take k h.b4 }

structure R1 (a s : Nat) (L : Loc) (σ : Sto) : Prop where
  sc : L "script" = some (.lst a)
  so : L "source" = some (.obj s)
  sr : Src s σ
theorem law1 {a k : Nat} {xs : List Int} (ha : r a = some xs) (hx : xs.length ≤ 63) (hk : k ≤ 1) (h1 : L "script" = some (.lst a)) (h2 : L "k" = some (.int (k : Nat))) : ∃ L1 σ1, (lvl (tbl r) (n + 100)).ex L σ u1.1 = some (.next, L1, σ1) ∧ ∃ s, R1 a s L1 σ1 := by
  obtain ⟨x, b, e, b0, b1⟩ := pool_c (r := r) (σ := σ) (n := n + 58) ha hk hx
  rw [show n + 58 + 40 = n + 98 from rfl] at e
  refine ⟨upd L "source" (.obj σ.length), σ ++ [.list [.int x, .int b]], ?_, σ.length, by simp [upd, ofString_inj, h1], upd_self, x, b, by rw [gl0]; rfl, b0, b1⟩
  simp [u1, run, exs, lvl_ex, lvl_ev, lvl_tst, exS, evS, evA, tstS, allT, evs, evo, bindP, List.lookup, ofString_inj, ofString_beq, subC_tup, subC_lst, binS, binI, small, most, upd, free, freeL, py, pyL, cmp_lt, cmp_le, cmp_gt, cmp_ge, cmp_eqi, cmp_nei, callN, biC, optI, k_len, k_range, k_abs, k_max, k_min, k_int, k_tuple, k_sum, k_zip, n_ahead, n_along, n_area, n_around, n_back, n_behind, n_below, n_big, n_blend, n_both_ends, n_bottom, n_cap, n_cell, n_centre, n_contour, n_contours, n_corner, n_corners, n_cutter, n_dashes, n_dot_now, n_dot_p, n_due, n_end, n_end_in, n_ends_in_dash, n_factor, n_first, n_found, n_gone, n_grain, n_half, n_here, n_inner, n_is_closed, n_join, n_joined, n_k, n_kind, n_later_p, n_left, n_length, n_lengths, n_limit, n_line, n_lines, n_lower, n_many, n_message, n_n, n_normal, n_one, n_other, n_pattern, n_piece, n_piece_k, n_pieces, n_place, n_place_k, n_places, n_quarter, n_right, n_root, n_script, n_second, n_self, n_share, n_sign, n_size, n_some, n_source, n_spot, n_spots, n_square, n_start, n_starts_in_dash, n_step, n_steps, n_style, n_things, n_top, n_turn, n_u, n_v, n_vector, n_way_now, n_whole, n_width, n_x, n_y, sub_vp0, sub_vp1, bind_vp, k_root_floor, k_nearest_root_share, k_way_of, k_moved_by, k_turned_about, k_normal_of, k_along_of, k_parallel, k_area_twice_of, k_one_sense, k_is_at_least_root, k_is_within_limit, k_bevel_spots, k_join_spots, k_square_about, k_cap_spots, k_dot_spots, k_dashed, k_plain_line, k_side_pieces, k_join_pieces, k_corners_of, k_stroked_line, k_stroked, k_l_pool, k_l_take, k_l_one, k_l_normal, k_l_sensed, k_l_at, k_l_side, k_l_corner, k_l_cap, k_l_due, k_l_drawn, k_Corner, k_Pattern, k_Style, k_MOST_STEPS, h1, h2, e]

structure R2 (a : Nat) (P : Par) (L : Loc) (σ : Sto) : Prop where
  sc : L "script" = some (.lst a)
  so : L "source" = some (.obj P.s)
  li : L "lines" = some (.obj P.q)
  hf : L "half" = some (.int P.h)
  sr : Src P.s σ
  bs : Base P σ
theorem law2 {a s : Nat} (h : R1 a s L σ) : ∃ L1 σ1, (lvl (tbl r) (n + 200)).ex L σ u2.1 = some (.next, L1, σ1) ∧ ∃ P, R2 a P L1 σ1 := by
  obtain ⟨i1, i2, i3⟩ := h
  obtain ⟨l1, c1, j1, k1, σ1, e1, K1, S1, a1, a2, a3, a4, a5, a6⟩ := drawn_c (r := r) (n := n + 96) i3
  obtain ⟨l2, c2, j2, k2, σ2, e2, K2, S2, b1, b2, b3, b4, b5, b6⟩ := drawn_c (r := r) (n := n + 96) S1
  obtain ⟨d, σ3, e3, hd, K3, S3⟩ := take_c (r := r) (n := n + 156) (t := 6) (S2.app (l := [.list [.obj j1, .obj j2]])) (by decide) (by decide)
  rw [show n + 96 + 100 = n + 196 from rfl] at e1 e2
  rw [show n + 156 + 40 = n + 196 from rfl] at e3
  have hs : s < σ.length := by obtain ⟨_, _, h, _⟩ := i3; exact lt_of h
  have q1 := K1.1
  have q2 := K2.1
  have hj1 := lt_of a1
  have hk1 := lt_of a2
  have K4 : Keep s σ2 σ3 := Keep.app.trans K3
  refine ⟨upd (upd L "lines" (.obj σ2.length)) "half" (.int (1 + (d : Int))), σ3, ?_, ⟨s, σ2.length, j1, k1, j2, k2, l1, l2, c1, c2, 1 + (d : Int)⟩, by simp [upd, ofString_inj, i1], by simp [upd, ofString_inj, i2], by simp [upd, ofString_inj], upd_self, S3, ?_⟩
  · simp at e3
    simp [u2, run, exs, lvl_ex, lvl_ev, lvl_tst, exS, evS, evA, tstS, allT, evs, evo, bindP, List.lookup, ofString_inj, ofString_beq, subC_tup, subC_lst, binS, binI, small, most, upd, free, freeL, py, pyL, cmp_lt, cmp_le, cmp_gt, cmp_ge, cmp_eqi, cmp_nei, callN, biC, optI, k_len, k_range, k_abs, k_max, k_min, k_int, k_tuple, k_sum, k_zip, n_ahead, n_along, n_area, n_around, n_back, n_behind, n_below, n_big, n_blend, n_both_ends, n_bottom, n_cap, n_cell, n_centre, n_contour, n_contours, n_corner, n_corners, n_cutter, n_dashes, n_dot_now, n_dot_p, n_due, n_end, n_end_in, n_ends_in_dash, n_factor, n_first, n_found, n_gone, n_grain, n_half, n_here, n_inner, n_is_closed, n_join, n_joined, n_k, n_kind, n_later_p, n_left, n_length, n_lengths, n_limit, n_line, n_lines, n_lower, n_many, n_message, n_n, n_normal, n_one, n_other, n_pattern, n_piece, n_piece_k, n_pieces, n_place, n_place_k, n_places, n_quarter, n_right, n_root, n_script, n_second, n_self, n_share, n_sign, n_size, n_some, n_source, n_spot, n_spots, n_square, n_start, n_starts_in_dash, n_step, n_steps, n_style, n_things, n_top, n_turn, n_u, n_v, n_vector, n_way_now, n_whole, n_width, n_x, n_y, sub_vp0, sub_vp1, bind_vp, bindT_name, bindT_tup, bindT_obj, names?, updL, k_root_floor, k_nearest_root_share, k_way_of, k_moved_by, k_turned_about, k_normal_of, k_along_of, k_parallel, k_area_twice_of, k_one_sense, k_is_at_least_root, k_is_within_limit, k_bevel_spots, k_join_spots, k_square_about, k_cap_spots, k_dot_spots, k_dashed, k_plain_line, k_side_pieces, k_join_pieces, k_corners_of, k_stroked_line, k_stroked, k_l_pool, k_l_take, k_l_one, k_l_normal, k_l_sensed, k_l_at, k_l_side, k_l_corner, k_l_cap, k_l_due, k_l_drawn, k_Corner, k_Pattern, k_Style, k_MOST_STEPS, i2, e1, e2, e3]

  · exact {
      bq := K3.get (by dsimp only; omega) (by rw [gl0]; rfl)
      b1 := K4.get (by dsimp only; omega) (K2.get (by dsimp only; omega) a1)
      b2 := K4.get (by dsimp only; omega) b1
      b3 := K4.get (by dsimp only; omega) (K2.get (by dsimp only; omega) a2)
      b4 := K4.get (by dsimp only; omega) b2
      x1 := a5, x2 := b5, y1 := a6, y2 := b6
      jj := by dsimp only; omega
      hh := ⟨by dsimp only; omega, by dsimp only; omega⟩
      nq := by dsimp only; omega
      n1 := by dsimp only; omega
      n2 := by dsimp only; omega
      n3 := by dsimp only; omega
      n4 := by dsimp only; omega }
end Mine
end
section
open PySem PySem.W PyProof.Rows PySem.Calls
set_option linter.unusedVariables false
set_option linter.unusedSimpArgs false
set_option maxRecDepth 100000
namespace Mine
variable {r : Nat → Option (List Int)} {T : Tbl} {F : Funs} {L : Loc} {σ : Sto} {n : Nat}

structure R3 (a : Nat) (P : Par) (kd jn : Bool) (L : Loc) (σ : Sto) : Prop where
  sc : L "script" = some (.lst a)
  so : L "source" = some (.obj P.s)
  li : L "lines" = some (.obj P.q)
  hf : L "half" = some (.int P.h)
  ki : L "kind" = some (kdV kd)
  jo : L "join" = some (jnV jn)
  sr : Src P.s σ
  bs : Base P σ
theorem Src.lt {s : Nat} (h : Src s σ) : s < σ.length := by obtain ⟨_, _, h, _⟩ := h; exact lt_of h
theorem law3 {a : Nat} {P : Par} (h : R2 a P L σ) : ∃ L1 σ1, (lvl (tbl r) (n + 200)).ex L σ u3.1 = some (.next, L1, σ1) ∧ ∃ kd jn, R3 a P kd jn L1 σ1 := by
  obtain ⟨i1, i2, i3, i4, i5, i6⟩ := h
  have hs := i5.lt
  obtain ⟨v1, σ1, e1, m1, K1, S1⟩ := one_c (r := r) (n := n + 137) (σ := σ ++ [.list [.str "butt", .str "square"]]) (t := σ.length) i5.app (by rw [gl0]; rfl) (by omega) (by intro v hv; simp only [List.mem_cons, List.not_mem_nil, or_false] at hv; rcases hv with rfl | rfl <;> rfl) (by decide) (by decide)
  have q1 := K1.1
  have q0 := S1.lt
  obtain ⟨v2, σ2, e2, m2, K2, S2⟩ := one_c (r := r) (n := n + 137) (σ := σ1 ++ [.list [.str "bevel", .str "miter"]]) (t := σ1.length) S1.app (by rw [gl0]; rfl) (by omega) (by intro v hv; simp only [List.mem_cons, List.not_mem_nil, or_false] at hv; rcases hv with rfl | rfl <;> rfl) (by decide) (by decide)
  rw [show n + 137 + 60 = n + 197 from rfl] at e1 e2
  obtain ⟨kd, rfl⟩ : ∃ kd, v1 = kdV kd := by
    simp only [List.mem_cons, List.not_mem_nil, or_false] at m1
    rcases m1 with rfl | rfl
    · exact ⟨false, rfl⟩
    · exact ⟨true, rfl⟩
  obtain ⟨jn, rfl⟩ : ∃ jn, v2 = jnV jn := by
    simp only [List.mem_cons, List.not_mem_nil, or_false] at m2
    rcases m2 with rfl | rfl
    · exact ⟨false, rfl⟩
    · exact ⟨true, rfl⟩
  refine ⟨upd (upd L "kind" (kdV kd)) "join" (jnV jn), σ2, ?_, kd, jn, by simp [upd, ofString_inj, i1], by simp [upd, ofString_inj, i2], by simp [upd, ofString_inj, i3], by simp [upd, ofString_inj, i4], by simp [upd, ofString_inj], upd_self, S2, i6.keep ((Keep.app.trans K1).trans (Keep.app.trans K2))⟩
  simp [u3, run, exs, lvl_ex, lvl_ev, lvl_tst, exS, evS, evA, tstS, allT, evs, evo, bindP, List.lookup, ofString_inj, ofString_beq, subC_tup, subC_lst, binS, binI, small, most, upd, free, freeL, py, pyL, cmp_lt, cmp_le, cmp_gt, cmp_ge, cmp_eqi, cmp_nei, callN, biC, optI, k_len, k_range, k_abs, k_max, k_min, k_int, k_tuple, k_sum, k_zip, n_ahead, n_along, n_area, n_around, n_back, n_behind, n_below, n_big, n_blend, n_both_ends, n_bottom, n_cap, n_cell, n_centre, n_contour, n_contours, n_corner, n_corners, n_cutter, n_dashes, n_dot_now, n_dot_p, n_due, n_end, n_end_in, n_ends_in_dash, n_factor, n_first, n_found, n_gone, n_grain, n_half, n_here, n_inner, n_is_closed, n_join, n_joined, n_k, n_kind, n_later_p, n_left, n_length, n_lengths, n_limit, n_line, n_lines, n_lower, n_many, n_message, n_n, n_normal, n_one, n_other, n_pattern, n_piece, n_piece_k, n_pieces, n_place, n_place_k, n_places, n_quarter, n_right, n_root, n_script, n_second, n_self, n_share, n_sign, n_size, n_some, n_source, n_spot, n_spots, n_square, n_start, n_starts_in_dash, n_step, n_steps, n_style, n_things, n_top, n_turn, n_u, n_v, n_vector, n_way_now, n_whole, n_width, n_x, n_y, sub_vp0, sub_vp1, bind_vp, bindT_name, bindT_tup, bindT_obj, names?, updL, k_root_floor, k_nearest_root_share, k_way_of, k_moved_by, k_turned_about, k_normal_of, k_along_of, k_parallel, k_area_twice_of, k_one_sense, k_is_at_least_root, k_is_within_limit, k_bevel_spots, k_join_spots, k_square_about, k_cap_spots, k_dot_spots, k_dashed, k_plain_line, k_side_pieces, k_join_pieces, k_corners_of, k_stroked_line, k_stroked, k_l_pool, k_l_take, k_l_one, k_l_normal, k_l_sensed, k_l_at, k_l_side, k_l_corner, k_l_cap, k_l_due, k_l_drawn, k_Corner, k_Pattern, k_Style, k_MOST_STEPS, i2, e1, e2]

structure R4 (a : Nat) (P : Par) (kd jn : Bool) (w : Int) (y : Nat) (L : Loc) (σ : Sto) : Prop where
  sc : L "script" = some (.lst a)
  li : L "lines" = some (.obj P.q)
  hf : L "half" = some (.int P.h)
  ki : L "kind" = some (kdV kd)
  jo : L "join" = some (jnV jn)
  sy : L "style" = some (.obj y)
  bs : Base P σ
  ys : σ[y]? = some (.inst "Style" (stl w jn kd))
  wh : w.fdiv 2 = P.h
theorem law4 {a : Nat} {P : Par} {kd jn : Bool} (h : R3 a P kd jn L σ) : ∃ L1 σ1, (lvl (tbl r) (n + 200)).ex L σ u4.1 = some (.next, L1, σ1) ∧ ∃ w y, R4 a P kd jn w y L1 σ1 := by
  obtain ⟨i1, i2, i3, i4, i5, i6, i7, i8⟩ := h
  obtain ⟨d, σ1, e1, hd, K1, S1⟩ := take_c (r := r) (n := n + 156) (t := 2) i7 (by decide) (by decide)
  rw [show n + 156 + 40 = n + 196 from rfl] at e1
  have hst := fun n => style_c (r := r) (n := n) (σ := σ1) (w := 2 * P.h + (d : Int)) (jn := jn) (kd := kd)
  refine ⟨upd L "style" (.obj σ1.length), σ1 ++ [.inst "Style" (stl (2 * P.h + (d : Int)) jn kd)], ?_, 2 * P.h + (d : Int), σ1.length, by simp [upd, ofString_inj, i1], by simp [upd, ofString_inj, i3], by simp [upd, ofString_inj, i4], by simp [upd, ofString_inj, i5], by simp [upd, ofString_inj, i6], upd_self, i8.keep (K1.trans Keep.app), by rw [gl0]; rfl, ?_⟩
  · have b1 : -1152921504606846976 < P.h := by have := i8.hh.lo; omega
    have b2 : P.h < 1152921504606846976 := by have := i8.hh.hi; omega
    simp at e1
    simp [u4, run, exs, lvl_ex, lvl_ev, lvl_tst, exS, evS, evA, tstS, allT, evs, evo, bindP, List.lookup, ofString_inj, ofString_beq, subC_tup, subC_lst, binS, binI, small, most, upd, free, freeL, py, pyL, cmp_lt, cmp_le, cmp_gt, cmp_ge, cmp_eqi, cmp_nei, callN, biC, optI, k_len, k_range, k_abs, k_max, k_min, k_int, k_tuple, k_sum, k_zip, n_ahead, n_along, n_area, n_around, n_back, n_behind, n_below, n_big, n_blend, n_both_ends, n_bottom, n_cap, n_cell, n_centre, n_contour, n_contours, n_corner, n_corners, n_cutter, n_dashes, n_dot_now, n_dot_p, n_due, n_end, n_end_in, n_ends_in_dash, n_factor, n_first, n_found, n_gone, n_grain, n_half, n_here, n_inner, n_is_closed, n_join, n_joined, n_k, n_kind, n_later_p, n_left, n_length, n_lengths, n_limit, n_line, n_lines, n_lower, n_many, n_message, n_n, n_normal, n_one, n_other, n_pattern, n_piece, n_piece_k, n_pieces, n_place, n_place_k, n_places, n_quarter, n_right, n_root, n_script, n_second, n_self, n_share, n_sign, n_size, n_some, n_source, n_spot, n_spots, n_square, n_start, n_starts_in_dash, n_step, n_steps, n_style, n_things, n_top, n_turn, n_u, n_v, n_vector, n_way_now, n_whole, n_width, n_x, n_y, sub_vp0, sub_vp1, bind_vp, bindT_name, bindT_tup, bindT_obj, names?, updL, k_root_floor, k_nearest_root_share, k_way_of, k_moved_by, k_turned_about, k_normal_of, k_along_of, k_parallel, k_area_twice_of, k_one_sense, k_is_at_least_root, k_is_within_limit, k_bevel_spots, k_join_spots, k_square_about, k_cap_spots, k_dot_spots, k_dashed, k_plain_line, k_side_pieces, k_join_pieces, k_corners_of, k_stroked_line, k_stroked, k_l_pool, k_l_take, k_l_one, k_l_normal, k_l_sensed, k_l_at, k_l_side, k_l_corner, k_l_cap, k_l_due, k_l_drawn, k_Corner, k_Pattern, k_Style, k_MOST_STEPS, i2, i4, i5, i6, e1, hst, b1, b2]
  · rw [Int.fdiv_eq_ediv_of_nonneg _ (by decide)]
    omega

structure R5 (a : Nat) (P : Par) (kd jn : Bool) (w : Int) (y u d1 d2 : Nat) (L : Loc) (σ : Sto) : Prop extends R4 a P kd jn w y L σ where
  du : L "due" = some (.obj u)
  d0 : σ[u]? = some (.list [.obj d1, .obj d2])
  p1 : σ[d1]? = some (.list ((pieces P.c1 kd P.l1 P.h).map vps))
  p2 : σ[d2]? = some (.list ((pieces P.c2 kd P.l2 P.h).map vps))
theorem R4.pre {a : Nat} {P : Par} {kd jn : Bool} {w : Int} {y : Nat} {σ' : Sto} (h : R4 a P kd jn w y L σ) (k : σ'.take σ.length = σ) : R4 a P kd jn w y L σ' := { h with bs := h.bs.pre k, ys := get_take k h.ys }
theorem R5.pre {a : Nat} {P : Par} {kd jn : Bool} {w : Int} {y u d1 d2 : Nat} {σ' : Sto} (h : R5 a P kd jn w y u d1 d2 L σ) (k : σ'.take σ.length = σ) : R5 a P kd jn w y u d1 d2 L σ' := { h.toR4.pre k with du := h.du, d0 := get_take k h.d0, p1 := get_take k h.p1, p2 := get_take k h.p2 }
theorem law5 {a : Nat} {P : Par} {kd jn : Bool} {w : Int} {y : Nat} (h : R4 a P kd jn w y L σ) : ∃ L1 σ1, (lvl (tbl r) (n + 220)).ex L σ u5.1 = some (.next, L1, σ1) ∧ ∃ u d1 d2, R5 a P kd jn w y u d1 d2 L1 σ1 := by
  obtain ⟨i1, i2, i3, i4, i5, i6, i7, i8, i9⟩ := id h
  obtain ⟨bq, b1, b2, b3, b4, x1, x2, y1, y2, jj, hh, nq, n1, n2, n3, n4⟩ := id i7
  have e1 := fun n => due_c (r := r) (n := n) (σ := σ ++ [.list []]) (c := P.c1) (kd := kd) (app_l b3) (by omega) x1 hh
  have e2 := fun n => due_c (r := r) (n := n) (σ := σ ++ [.list [.obj (σ.length + 1)], .list ((pieces P.c1 kd P.l1 P.h).map vps)]) (c := P.c2) (kd := kd) (app_l b4) (by omega) x2 hh
  refine ⟨upd L "due" (.obj σ.length), σ ++ [.list [.obj (σ.length + 1), .obj (σ.length + 2)], .list ((pieces P.c1 kd P.l1 P.h).map vps), .list ((pieces P.c2 kd P.l2 P.h).map vps)], ?_, σ.length, σ.length + 1, σ.length + 2, ⟨by simp [upd, ofString_inj, i1], by simp [upd, ofString_inj, i2], by simp [upd, ofString_inj, i3], by simp [upd, ofString_inj, i4], by simp [upd, ofString_inj, i5], by simp [upd, ofString_inj, i6], i7.pre (by simp), app_l i8, i9⟩, upd_self, by rw [gl0]; rfl, by rw [gl]; rfl, by rw [gl]; rfl⟩
  simp [u5, run, exs, lvl_ex, lvl_ev, lvl_tst, exS, evS, evA, tstS, allT, evs, evo, bindP, List.lookup, ofString_inj, ofString_beq, subC_tup, subC_lst, binS, binI, small, most, upd, free, freeL, py, pyL, cmp_lt, cmp_le, cmp_gt, cmp_ge, cmp_eqi, cmp_nei, callN, biC, optI, k_len, k_range, k_abs, k_max, k_min, k_int, k_tuple, k_sum, k_zip, n_ahead, n_along, n_area, n_around, n_back, n_behind, n_below, n_big, n_blend, n_both_ends, n_bottom, n_cap, n_cell, n_centre, n_contour, n_contours, n_corner, n_corners, n_cutter, n_dashes, n_dot_now, n_dot_p, n_due, n_end, n_end_in, n_ends_in_dash, n_factor, n_first, n_found, n_gone, n_grain, n_half, n_here, n_inner, n_is_closed, n_join, n_joined, n_k, n_kind, n_later_p, n_left, n_length, n_lengths, n_limit, n_line, n_lines, n_lower, n_many, n_message, n_n, n_normal, n_one, n_other, n_pattern, n_piece, n_piece_k, n_pieces, n_place, n_place_k, n_places, n_quarter, n_right, n_root, n_script, n_second, n_self, n_share, n_sign, n_size, n_some, n_source, n_spot, n_spots, n_square, n_start, n_starts_in_dash, n_step, n_steps, n_style, n_things, n_top, n_turn, n_u, n_v, n_vector, n_way_now, n_whole, n_width, n_x, n_y, sub_vp0, sub_vp1, bind_vp, bindT_name, bindT_tup, bindT_obj, names?, updL, k_root_floor, k_nearest_root_share, k_way_of, k_moved_by, k_turned_about, k_normal_of, k_along_of, k_parallel, k_area_twice_of, k_one_sense, k_is_at_least_root, k_is_within_limit, k_bevel_spots, k_join_spots, k_square_about, k_cap_spots, k_dot_spots, k_dashed, k_plain_line, k_side_pieces, k_join_pieces, k_corners_of, k_stroked_line, k_stroked, k_l_pool, k_l_take, k_l_one, k_l_normal, k_l_sensed, k_l_at, k_l_side, k_l_corner, k_l_cap, k_l_due, k_l_drawn, k_Corner, k_Pattern, k_Style, k_MOST_STEPS, overE, items, i2, bq, @clauses_cons noHid, compL, still_one, turnC, app_l bq, app_l b1, app_l b2, tests, emitC, hide, i3, i4, gl0, e1, e2, sl0]

end Mine
end
section
open PySem PySem.W PyProof.Rows PySem.Calls
set_option linter.unusedVariables false
set_option linter.unusedSimpArgs false
set_option maxRecDepth 100000
namespace Mine
variable {r : Nat → Option (List Int)} {T : Tbl} {F : Funs} {L : Loc} {σ : Sto} {n : Nat}

theorem R5.place {a : Nat} {P : Par} {kd jn : Bool} {w : Int} {y u d1 d2 : Nat} {v : V} (h : R5 a P kd jn w y u d1 d2 L σ) : R5 a P kd jn w y u d1 d2 (upd L "place_k" v) σ := {
  sc := by simp [upd, ofString_inj, h.sc]
  li := by simp [upd, ofString_inj, h.li]
  hf := by simp [upd, ofString_inj, h.hf]
  ki := by simp [upd, ofString_inj, h.ki]
  jo := by simp [upd, ofString_inj, h.jo]
  sy := by simp [upd, ofString_inj, h.sy]
  bs := h.bs, ys := h.ys, wh := h.wh
  du := by simp [upd, ofString_inj, h.du]
  d0 := h.d0, p1 := h.p1, p2 := h.p2 }
theorem two_rng : items σ (.rng 0 2) = some ([0, 1].map fun (k : Nat) => V.int k) := by
  simp [items, small, most]
  rfl
theorem law6 {a : Nat} {P : Par} {kd jn : Bool} {w : Int} {y u d1 d2 : Nat} (h : R5 a P kd jn w y u d1 d2 L σ) : ∃ L1 σ1, (lvl (tbl r) (n + 220)).ex L σ u6.1 = some (.next, L1, σ1) ∧ R5 a P kd jn w y u d1 d2 L1 σ1 := by
  simp only [u6]
  refine ex_for (w := .rng 0 2) (σ1 := σ) (C := [0, 1]) (g := fun (k : Nat) => V.int k) (by simp [run, exs, lvl_ex, lvl_ev, lvl_tst, exS, evS, evA, tstS, allT, evs, evo, bindP, List.lookup, ofString_inj, ofString_beq, subC_tup, subC_lst, binS, binI, small, most, upd, free, freeL, py, pyL, cmp_lt, cmp_le, cmp_gt, cmp_ge, cmp_eqi, cmp_nei, callN, biC, optI, k_len, k_range, k_abs, k_max, k_min, k_int, k_tuple, k_sum, k_zip, n_ahead, n_along, n_area, n_around, n_back, n_behind, n_below, n_big, n_blend, n_both_ends, n_bottom, n_cap, n_cell, n_centre, n_contour, n_contours, n_corner, n_corners, n_cutter, n_dashes, n_dot_now, n_dot_p, n_due, n_end, n_end_in, n_ends_in_dash, n_factor, n_first, n_found, n_gone, n_grain, n_half, n_here, n_inner, n_is_closed, n_join, n_joined, n_k, n_kind, n_later_p, n_left, n_length, n_lengths, n_limit, n_line, n_lines, n_lower, n_many, n_message, n_n, n_normal, n_one, n_other, n_pattern, n_piece, n_piece_k, n_pieces, n_place, n_place_k, n_places, n_quarter, n_right, n_root, n_script, n_second, n_self, n_share, n_sign, n_size, n_some, n_source, n_spot, n_spots, n_square, n_start, n_starts_in_dash, n_step, n_steps, n_style, n_things, n_top, n_turn, n_u, n_v, n_vector, n_way_now, n_whole, n_width, n_x, n_y, sub_vp0, sub_vp1, bind_vp, k_root_floor, k_nearest_root_share, k_way_of, k_moved_by, k_turned_about, k_normal_of, k_along_of, k_parallel, k_area_twice_of, k_one_sense, k_is_at_least_root, k_is_within_limit, k_bevel_spots, k_join_spots, k_square_about, k_cap_spots, k_dot_spots, k_dashed, k_plain_line, k_side_pieces, k_join_pieces, k_corners_of, k_stroked_line, k_stroked, k_l_pool, k_l_take, k_l_one, k_l_normal, k_l_sensed, k_l_at, k_l_side, k_l_corner, k_l_cap, k_l_due, k_l_drawn, k_Corner, k_Pattern, k_Style, k_MOST_STEPS]) two_rng (fun _ L st => R5 a P kd jn w y u d1 d2 L st) (fun _ _ _ _ => two_rng) (fun dn p rs L st hC h => ?_) h
  refine ⟨_, rfl, ?_⟩
  have hh := h.bs.hh
  have hw : Hf (w.fdiv 2) := by rw [h.wh]; exact hh
  obtain ⟨j, k, l, c, d, f1, f2, f3, f4, f5, f6, f7, f8⟩ : ∃ j k l c d, subC (tbl r) st (.obj P.q) (.int (p : Nat)) = some (.obj j) ∧ subC (tbl r) st (.obj j) (.int 0) = some (.obj k) ∧ subC (tbl r) st (.obj j) (.int 1) = some (.bool c) ∧ st[k]? = some (.list (l.map vp)) ∧ Box l ∧ l.length ≤ 6 ∧ (∀ τ, subC (tbl r) (st ++ τ) (.obj u) (.int (p : Nat)) = some (.obj d)) ∧ st[d]? = some (.list ((pieces c kd l (w.fdiv 2)).map vps)) := by
    have hp : p = 0 ∨ p = 1 := by
      have : p ∈ [0, 1] := by rw [hC]; simp
      simpa using this
    rcases hp with rfl | rfl
    · exact ⟨P.j1, P.k1, P.l1, P.c1, d1, sub_at (j := 0) h.bs.bq rfl (by decide), sub_at (j := 0) h.bs.b1 rfl (by decide), sub_at (j := 1) h.bs.b1 rfl (by decide), h.bs.b3, h.bs.x1, h.bs.y1, fun τ => sub_at (j := 0) (app_l h.d0) rfl (by decide), by rw [h.wh]; exact h.p1⟩
    · exact ⟨P.j2, P.k2, P.l2, P.c2, d2, sub_at (j := 1) h.bs.bq rfl (by decide), sub_at (j := 0) h.bs.b2 rfl (by decide), sub_at (j := 1) h.bs.b2 rfl (by decide), h.bs.b4, h.bs.x2, h.bs.y2, fun τ => sub_at (j := 1) (app_l h.d0) rfl (by decide), by rw [h.wh]; exact h.p2⟩
  have hk := fun n => stroked_line_c (r := r) (n := n) (σ := st) (st := 3) (c := c) h.ys f5 (by omega) hw
  have hl : l.length ≤ 1000000 := by omega
  have hcm := (cmp_pcs (σ := st ++ [.list ((pieces c kd l (w.fdiv 2)).map vps)]) (k := st.length) (j := d) (by rw [gl0]; rfl) (app_l f8)).1
  simp only [vps] at hk
  refine Nxt.step (R := fun L st => R5 a P kd jn w y u d1 d2 L st) ⟨upd L "place_k" (.int (p : Nat)), st ++ [.list ((pieces c kd l (w.fdiv 2)).map vps)], ?_, h.place.pre (by simp)⟩ fun _ _ h => Nxt.nil h
  obtain ⟨i1, i2, i3, i4, i5, i6⟩ := h.toR4
  have i7 := h.du
  simp only [vps] at hcm f7
  simp [run, exs, lvl_ex, lvl_ev, lvl_tst, exS, evS, evA, tstS, allT, evs, evo, bindP, List.lookup, ofString_inj, ofString_beq, subC_tup, subC_lst, binS, binI, small, most, upd, free, freeL, py, pyL, cmp_lt, cmp_le, cmp_gt, cmp_ge, cmp_eqi, cmp_nei, callN, biC, optI, k_len, k_range, k_abs, k_max, k_min, k_int, k_tuple, k_sum, k_zip, n_ahead, n_along, n_area, n_around, n_back, n_behind, n_below, n_big, n_blend, n_both_ends, n_bottom, n_cap, n_cell, n_centre, n_contour, n_contours, n_corner, n_corners, n_cutter, n_dashes, n_dot_now, n_dot_p, n_due, n_end, n_end_in, n_ends_in_dash, n_factor, n_first, n_found, n_gone, n_grain, n_half, n_here, n_inner, n_is_closed, n_join, n_joined, n_k, n_kind, n_later_p, n_left, n_length, n_lengths, n_limit, n_line, n_lines, n_lower, n_many, n_message, n_n, n_normal, n_one, n_other, n_pattern, n_piece, n_piece_k, n_pieces, n_place, n_place_k, n_places, n_quarter, n_right, n_root, n_script, n_second, n_self, n_share, n_sign, n_size, n_some, n_source, n_spot, n_spots, n_square, n_start, n_starts_in_dash, n_step, n_steps, n_style, n_things, n_top, n_turn, n_u, n_v, n_vector, n_way_now, n_whole, n_width, n_x, n_y, sub_vp0, sub_vp1, bind_vp, k_root_floor, k_nearest_root_share, k_way_of, k_moved_by, k_turned_about, k_normal_of, k_along_of, k_parallel, k_area_twice_of, k_one_sense, k_is_at_least_root, k_is_within_limit, k_bevel_spots, k_join_spots, k_square_about, k_cap_spots, k_dot_spots, k_dashed, k_plain_line, k_side_pieces, k_join_pieces, k_corners_of, k_stroked_line, k_stroked, k_l_pool, k_l_take, k_l_one, k_l_normal, k_l_sensed, k_l_at, k_l_side, k_l_corner, k_l_cap, k_l_due, k_l_drawn, k_Corner, k_Pattern, k_Style, k_MOST_STEPS, vps, i1, i2, i3, i4, i5, i6, i7, f1, f2, f3, f4, hl, hk, f7, hcm]

theorem R5.names {a : Nat} {P : Par} {kd jn : Bool} {w : Int} {y u d1 d2 : Nat} (h : R5 a P kd jn w y u d1 d2 L σ) : R4 a P kd jn w y L σ := h.toR4

/-- the pieces as the law senses them -/
def sensed (C : List (List Pt)) : List (Option (List Pt)) := (C.filter fun p => !decide (p = [])).map sns
theorem sensed_some {C : List (List Pt)} : (sensed C).filterMap id = C.filterMap sns := by
  unfold sensed
  induction C with
  | nil => rfl
  | cons p C ih =>
    by_cases h : p = []
    · subst h
      simp [ih]
      rw [List.filterMap_cons]
      rfl
    · rw [List.filter_cons_of_pos (by simp [h]), List.map_cons, List.filterMap_cons, List.filterMap_cons]
      cases sns p <;> simp only [id, ih]

theorem clausesM {α : Type} {e : α → V} {C : List α} {elt t i : Expr} {ifs : List Expr} {a : Nat} {w : It} {acc0 : List V} (p : α → Bool) (g : α → V)
    (hst : ∀ l, still (σ ++ [.list l]) w (C.map e) = true)
    (hb : ∀ c ∈ C, ∀ l, ∃ L1, bindT L (σ ++ [.list l]) t (e c) = some L1 ∧ tests (fun σ e => F.tst L1 σ e) (σ ++ [.list l]) ifs = some (p c, σ ++ [.list l]) ∧ (p c = true → F.ev L1 (σ ++ [.list l]) elt = some (g c, σ ++ [.list l])))
    (hlen : C.length + acc0.length ≤ most) :
    clauses F σ.length elt [⟨t, i, ifs, a⟩] L w (C.map e) (σ ++ [.list acc0]) = some (σ ++ [.list (acc0 ++ (C.filter p).map g)]) := by
  rw [@clauses_cons noHid]
  have key : ∀ (rest : List α) (acc : List V), (∀ c ∈ rest, c ∈ C) → rest.length + acc.length ≤ most → compL (fun σ => still σ w (C.map e)) (turnC F σ.length elt t ifs [] L) (rest.map e) (σ ++ [.list acc]) = some (σ ++ [.list (acc ++ (rest.filter p).map g)]) := by
    intro rest
    induction rest with
    | nil =>
      intro acc _ _
      rw [List.map_nil]
      unfold compL
      rw [if_pos (hst acc)]
      simp
    | cons v rest ih =>
      intro acc hm hl
      rw [List.length_cons] at hl
      rw [List.map_cons]
      unfold compL
      rw [if_pos (hst acc)]
      obtain ⟨L1, h1, h2, h3⟩ := hb v (hm v (.head _)) acc
      have e : turnC F σ.length elt t ifs [] L (e v) (σ ++ [.list acc]) = some (σ ++ [.list (acc ++ if p v then [g v] else [])]) := by
        unfold turnC
        rw [h1]
        dsimp only
        rw [h2]
        cases hp : p v with
        | false => simp
        | true =>
          dsimp only
          unfold emitC
          dsimp only
          rw [h3 hp]
          dsimp only
          rw [gl0]
          have hlt : acc.length < most := by omega
          simp [sl0, hlt]
      rw [e]
      dsimp only
      rw [ih _ (fun u hu => hm u (.tail _ hu)) (by
        rw [List.length_append]
        have : (if p v = true then [g v] else []).length ≤ 1 := by split <;> simp
        omega)]
      cases hp : p v <;> simp [hp]
  exact key C acc0 (fun _ h => h) hlen

structure R7 (a : Nat) (P : Par) (kd jn : Bool) (w : Int) (y v : Nat) (L : Loc) (σ : Sto) : Prop extends R4 a P kd jn w y L σ where
  pc : L "pieces" = some (.obj v)
  pv : σ[v]? = some (.list ((sensed (pieces P.c1 kd P.l1 P.h ++ pieces P.c2 kd P.l2 P.h)).map snV))
theorem law7 {a : Nat} {P : Par} {kd jn : Bool} {w : Int} {y u d1 d2 : Nat} (h : R5 a P kd jn w y u d1 d2 L σ) : ∃ L1 σ1, (lvl (tbl r) (n + 220)).ex L σ u7.1 = some (.next, L1, σ1) ∧ ∃ v, R7 a P kd jn w y v L1 σ1 := by
  obtain ⟨i1, i2, i3, i4, i5, i6, ib⟩ := h.toR4
  have i7 := h.du
  have hh := h.bs.hh
  simp [u7, run, exs, lvl_ex, lvl_ev, lvl_tst, exS, evS, evA, tstS, allT, evs, evo, bindP, List.lookup, ofString_inj, ofString_beq, subC_tup, subC_lst, binS, binI, small, most, upd, free, freeL, py, pyL, cmp_lt, cmp_le, cmp_gt, cmp_ge, cmp_eqi, cmp_nei, callN, biC, optI, k_len, k_range, k_abs, k_max, k_min, k_int, k_tuple, k_sum, k_zip, n_ahead, n_along, n_area, n_around, n_back, n_behind, n_below, n_big, n_blend, n_both_ends, n_bottom, n_cap, n_cell, n_centre, n_contour, n_contours, n_corner, n_corners, n_cutter, n_dashes, n_dot_now, n_dot_p, n_due, n_end, n_end_in, n_ends_in_dash, n_factor, n_first, n_found, n_gone, n_grain, n_half, n_here, n_inner, n_is_closed, n_join, n_joined, n_k, n_kind, n_later_p, n_left, n_length, n_lengths, n_limit, n_line, n_lines, n_lower, n_many, n_message, n_n, n_normal, n_one, n_other, n_pattern, n_piece, n_piece_k, n_pieces, n_place, n_place_k, n_places, n_quarter, n_right, n_root, n_script, n_second, n_self, n_share, n_sign, n_size, n_some, n_source, n_spot, n_spots, n_square, n_start, n_starts_in_dash, n_step, n_steps, n_style, n_things, n_top, n_turn, n_u, n_v, n_vector, n_way_now, n_whole, n_width, n_x, n_y, sub_vp0, sub_vp1, bind_vp, k_root_floor, k_nearest_root_share, k_way_of, k_moved_by, k_turned_about, k_normal_of, k_along_of, k_parallel, k_area_twice_of, k_one_sense, k_is_at_least_root, k_is_within_limit, k_bevel_spots, k_join_spots, k_square_about, k_cap_spots, k_dot_spots, k_dashed, k_plain_line, k_side_pieces, k_join_pieces, k_corners_of, k_stroked_line, k_stroked, k_l_pool, k_l_take, k_l_one, k_l_normal, k_l_sensed, k_l_at, k_l_side, k_l_corner, k_l_cap, k_l_due, k_l_drawn, k_Corner, k_Pattern, k_Style, k_MOST_STEPS, overE, items, i7, h.d0]
  generalize hw : clauses _ _ _ _ _ _ _ _ = o
  rw [@clauses_cons noHid] at hw
  dsimp only at hw
  generalize hf : turnC _ _ _ _ _ _ _ = f at hw
  have ht : ∀ d acc Q, σ[d]? = some (.list (Q.map vps)) → (∀ P ∈ Q, Sm P) → Q.length ≤ 203 → acc.length ≤ 1000 → f (.obj d) (σ ++ [.list acc]) = some (σ ++ [.list (acc ++ (sensed Q).map snV)]) := by
    intro d acc Q hd hQ hl ha
    have hl' : Q.length ≤ 1000000 := by omega
    rw [← hf]
    unfold turnC
    rw [bindT_name]
    dsimp only [tests]
    unfold emitC
    simp [run, exs, lvl_ex, lvl_ev, lvl_tst, exS, evS, evA, tstS, allT, evs, evo, bindP, List.lookup, ofString_inj, ofString_beq, subC_tup, subC_lst, binS, binI, small, most, upd, free, freeL, py, pyL, cmp_lt, cmp_le, cmp_gt, cmp_ge, cmp_eqi, cmp_nei, callN, biC, optI, k_len, k_range, k_abs, k_max, k_min, k_int, k_tuple, k_sum, k_zip, n_ahead, n_along, n_area, n_around, n_back, n_behind, n_below, n_big, n_blend, n_both_ends, n_bottom, n_cap, n_cell, n_centre, n_contour, n_contours, n_corner, n_corners, n_cutter, n_dashes, n_dot_now, n_dot_p, n_due, n_end, n_end_in, n_ends_in_dash, n_factor, n_first, n_found, n_gone, n_grain, n_half, n_here, n_inner, n_is_closed, n_join, n_joined, n_k, n_kind, n_later_p, n_left, n_length, n_lengths, n_limit, n_line, n_lines, n_lower, n_many, n_message, n_n, n_normal, n_one, n_other, n_pattern, n_piece, n_piece_k, n_pieces, n_place, n_place_k, n_places, n_quarter, n_right, n_root, n_script, n_second, n_self, n_share, n_sign, n_size, n_some, n_source, n_spot, n_spots, n_square, n_start, n_starts_in_dash, n_step, n_steps, n_style, n_things, n_top, n_turn, n_u, n_v, n_vector, n_way_now, n_whole, n_width, n_x, n_y, sub_vp0, sub_vp1, bind_vp, hide, items, app_l hd, hl']
    refine (clausesM (C := Q) (e := vps) (fun p => !decide (p = [])) (fun p => snV (sns p)) (fun l => by rw [still_one]; simp [items, app_l hd, most, hl']) (fun c hc l => ⟨_, rfl, ?_, fun hne => ?_⟩) (by unfold most; omega)).trans ?_
    · simp [tests, run, exs, lvl_ex, lvl_ev, lvl_tst, exS, evS, evA, tstS, allT, evs, evo, bindP, List.lookup, ofString_inj, ofString_beq, subC_tup, subC_lst, binS, binI, small, most, upd, free, freeL, py, pyL, cmp_lt, cmp_le, cmp_gt, cmp_ge, cmp_eqi, cmp_nei, callN, biC, optI, k_len, k_range, k_abs, k_max, k_min, k_int, k_tuple, k_sum, k_zip, n_ahead, n_along, n_area, n_around, n_back, n_behind, n_below, n_big, n_blend, n_both_ends, n_bottom, n_cap, n_cell, n_centre, n_contour, n_contours, n_corner, n_corners, n_cutter, n_dashes, n_dot_now, n_dot_p, n_due, n_end, n_end_in, n_ends_in_dash, n_factor, n_first, n_found, n_gone, n_grain, n_half, n_here, n_inner, n_is_closed, n_join, n_joined, n_k, n_kind, n_later_p, n_left, n_length, n_lengths, n_limit, n_line, n_lines, n_lower, n_many, n_message, n_n, n_normal, n_one, n_other, n_pattern, n_piece, n_piece_k, n_pieces, n_place, n_place_k, n_places, n_quarter, n_right, n_root, n_script, n_second, n_self, n_share, n_sign, n_size, n_some, n_source, n_spot, n_spots, n_square, n_start, n_starts_in_dash, n_step, n_steps, n_style, n_things, n_top, n_turn, n_u, n_v, n_vector, n_way_now, n_whole, n_width, n_x, n_y, sub_vp0, sub_vp1, bind_vp, cmp_tn]
      cases (decide (c = [])) <;> rfl
    · obtain ⟨m1, m2⟩ := hQ c hc
      simp [run, exs, lvl_ex, lvl_ev, lvl_tst, exS, evS, evA, tstS, allT, evs, evo, bindP, List.lookup, ofString_inj, ofString_beq, subC_tup, subC_lst, binS, binI, small, most, upd, free, freeL, py, pyL, cmp_lt, cmp_le, cmp_gt, cmp_ge, cmp_eqi, cmp_nei, callN, biC, optI, k_len, k_range, k_abs, k_max, k_min, k_int, k_tuple, k_sum, k_zip, n_ahead, n_along, n_area, n_around, n_back, n_behind, n_below, n_big, n_blend, n_both_ends, n_bottom, n_cap, n_cell, n_centre, n_contour, n_contours, n_corner, n_corners, n_cutter, n_dashes, n_dot_now, n_dot_p, n_due, n_end, n_end_in, n_ends_in_dash, n_factor, n_first, n_found, n_gone, n_grain, n_half, n_here, n_inner, n_is_closed, n_join, n_joined, n_k, n_kind, n_later_p, n_left, n_length, n_lengths, n_limit, n_line, n_lines, n_lower, n_many, n_message, n_n, n_normal, n_one, n_other, n_pattern, n_piece, n_piece_k, n_pieces, n_place, n_place_k, n_places, n_quarter, n_right, n_root, n_script, n_second, n_self, n_share, n_sign, n_size, n_some, n_source, n_spot, n_spots, n_square, n_start, n_starts_in_dash, n_step, n_steps, n_style, n_things, n_top, n_turn, n_u, n_v, n_vector, n_way_now, n_whole, n_width, n_x, n_y, sub_vp0, sub_vp1, bind_vp, k_root_floor, k_nearest_root_share, k_way_of, k_moved_by, k_turned_about, k_normal_of, k_along_of, k_parallel, k_area_twice_of, k_one_sense, k_is_at_least_root, k_is_within_limit, k_bevel_spots, k_join_spots, k_square_about, k_cap_spots, k_dot_spots, k_dashed, k_plain_line, k_side_pieces, k_join_pieces, k_corners_of, k_stroked_line, k_stroked, k_l_pool, k_l_take, k_l_one, k_l_normal, k_l_sensed, k_l_at, k_l_side, k_l_corner, k_l_cap, k_l_due, k_l_drawn, k_Corner, k_Pattern, k_Style, k_MOST_STEPS, sensed_c (show c.length ≤ 50 by omega) m2 (by simpa using hne)]
    · unfold sensed; rw [List.map_map]; rfl
  obtain ⟨s1, t1⟩ := pieces_sm (c := P.c1) (kd := kd) h.bs.x1 hh
  obtain ⟨s2, t2⟩ := pieces_sm (c := P.c2) (kd := kd) h.bs.x2 hh
  have y1 := h.bs.y1
  have y2 := h.bs.y2
  have hsl : (sensed (pieces P.c1 kd P.l1 P.h)).length ≤ (pieces P.c1 kd P.l1 P.h).length := by
    unfold sensed; rw [List.length_map]; exact List.length_filter_le _ _
  have g1 := ht d1 [] _ h.p1 s1 (by omega) (by simp)
  have g2 := ht d2 (([] : List V) ++ (sensed (pieces P.c1 kd P.l1 P.h)).map snV) _ h.p2 s2 (by omega) (by simp; omega)
  rw [List.nil_append] at g1 g2
  have hit : ∀ l, items (σ ++ l) (.obj u) = some [.obj d1, .obj d2] := fun l => by simp [items, app_l h.d0, most]
  simp only [compL, still_one, hit, if_true, g1, g2] at hw
  subst hw
  simp
  refine ⟨_, _, ⟨rfl, rfl⟩, σ.length, ⟨by simp [upd, ofString_inj, i1], by simp [upd, ofString_inj, i2], by simp [upd, ofString_inj, i3], by simp [upd, ofString_inj, i4], by simp [upd, ofString_inj, i5], by simp [upd, ofString_inj, i6], ib.pre (by simp), app_l h.ys, h.wh⟩, upd_self, ?_⟩
  rw [gl0]
  simp [sensed]
end Mine
end
section
open PySem PySem.W PyProof.Rows PySem.Calls
set_option linter.unusedVariables false
set_option linter.unusedSimpArgs false
set_option maxRecDepth 100000
namespace Mine
variable {r : Nat → Option (List Int)} {T : Tbl} {F : Funs} {L : Loc} {σ : Sto} {n : Nat}

structure R8 (a : Nat) (P : Par) (kd jn : Bool) (w : Int) (y v t : Nat) (L : Loc) (σ : Sto) : Prop extends R7 a P kd jn w y v L σ where
  co : L "contours" = some (.obj t)
  cv : σ[t]? = some (.list ([(P.l1, P.c1), (P.l2, P.c2)].map conP))
theorem R7.pre {a : Nat} {P : Par} {kd jn : Bool} {w : Int} {y v : Nat} {σ' : Sto} (h : R7 a P kd jn w y v L σ) (k : σ'.take σ.length = σ) : R7 a P kd jn w y v L σ' := { h.toR4.pre k with pc := h.pc, pv := get_take k h.pv }
theorem R8.pre {a : Nat} {P : Par} {kd jn : Bool} {w : Int} {y v t : Nat} {σ' : Sto} (h : R8 a P kd jn w y v t L σ) (k : σ'.take σ.length = σ) : R8 a P kd jn w y v t L σ' := { h.toR7.pre k with co := h.co, cv := get_take k h.cv }
theorem law8 {a : Nat} {P : Par} {kd jn : Bool} {w : Int} {y v : Nat} (h : R7 a P kd jn w y v L σ) : ∃ L1 σ1, (lvl (tbl r) (n + 220)).ex L σ u8.1 = some (.next, L1, σ1) ∧ ∃ t, R8 a P kd jn w y v t L1 σ1 := by
  obtain ⟨i1, i2, i3, i4, i5, i6, ib⟩ := h.toR4
  have i7 := h.pc
  have q1 : P.l1.length ≤ 1000000 := by have := h.bs.y1; omega
  have q2 : P.l2.length ≤ 1000000 := by have := h.bs.y2; omega
  refine ⟨upd L "contours" (.obj σ.length), σ ++ [.list [con P.l1 P.c1, con P.l2 P.c2]], ?_, σ.length, ⟨⟨by simp [upd, ofString_inj, i1], by simp [upd, ofString_inj, i2], by simp [upd, ofString_inj, i3], by simp [upd, ofString_inj, i4], by simp [upd, ofString_inj, i5], by simp [upd, ofString_inj, i6], ib.pre (by simp), app_l h.ys, h.wh⟩, by simp [upd, ofString_inj, i7], app_l h.pv⟩, upd_self, by rw [gl0]; rfl⟩
  simp [u8, run, exs, lvl_ex, lvl_ev, lvl_tst, exS, evS, evA, tstS, allT, evs, evo, bindP, List.lookup, ofString_inj, ofString_beq, subC_tup, subC_lst, binS, binI, small, most, upd, free, freeL, py, pyL, cmp_lt, cmp_le, cmp_gt, cmp_ge, cmp_eqi, cmp_nei, callN, biC, optI, k_len, k_range, k_abs, k_max, k_min, k_int, k_tuple, k_sum, k_zip, n_ahead, n_along, n_area, n_around, n_back, n_behind, n_below, n_big, n_blend, n_both_ends, n_bottom, n_cap, n_cell, n_centre, n_contour, n_contours, n_corner, n_corners, n_cutter, n_dashes, n_dot_now, n_dot_p, n_due, n_end, n_end_in, n_ends_in_dash, n_factor, n_first, n_found, n_gone, n_grain, n_half, n_here, n_inner, n_is_closed, n_join, n_joined, n_k, n_kind, n_later_p, n_left, n_length, n_lengths, n_limit, n_line, n_lines, n_lower, n_many, n_message, n_n, n_normal, n_one, n_other, n_pattern, n_piece, n_piece_k, n_pieces, n_place, n_place_k, n_places, n_quarter, n_right, n_root, n_script, n_second, n_self, n_share, n_sign, n_size, n_some, n_source, n_spot, n_spots, n_square, n_start, n_starts_in_dash, n_step, n_steps, n_style, n_things, n_top, n_turn, n_u, n_v, n_vector, n_way_now, n_whole, n_width, n_x, n_y, sub_vp0, sub_vp1, bind_vp, bindT_name, bindT_tup, bindT_obj, names?, updL, k_root_floor, k_nearest_root_share, k_way_of, k_moved_by, k_turned_about, k_normal_of, k_along_of, k_parallel, k_area_twice_of, k_one_sense, k_is_at_least_root, k_is_within_limit, k_bevel_spots, k_join_spots, k_square_about, k_cap_spots, k_dot_spots, k_dashed, k_plain_line, k_side_pieces, k_join_pieces, k_corners_of, k_stroked_line, k_stroked, k_l_pool, k_l_take, k_l_one, k_l_normal, k_l_sensed, k_l_at, k_l_side, k_l_corner, k_l_cap, k_l_due, k_l_drawn, k_Corner, k_Pattern, k_Style, k_MOST_STEPS, overE, items, i2, ib.bq, @clauses_cons noHid, compL, still_one, turnC, app_l ib.bq, app_l ib.b1, app_l ib.b2, app_l ib.b3, app_l ib.b4, tests, emitC, hide, gl0, sl0, q1, q2, con, vps]

theorem clausesM_of {α : Type} {e : α → V} {C : List α} {elt t i : Expr} {ifs : List Expr} {a : Nat} {w : It} {n0 : Nat} {st : Sto} {o : Option Sto} (hw : clauses F n0 elt [⟨t, i, ifs, a⟩] L w (C.map e) st = o) (hn : n0 = σ.length) (hst0 : st = σ ++ [.list []]) (p : α → Bool) (g : α → V)
    (hst : ∀ l, still (σ ++ [.list l]) w (C.map e) = true)
    (hb : ∀ c ∈ C, ∀ l, ∃ L1, bindT L (σ ++ [.list l]) t (e c) = some L1 ∧ tests (fun σ e => F.tst L1 σ e) (σ ++ [.list l]) ifs = some (p c, σ ++ [.list l]) ∧ (p c = true → F.ev L1 (σ ++ [.list l]) elt = some (g c, σ ++ [.list l])))
    (hlen : C.length ≤ most) : o = some (σ ++ [.list ((C.filter p).map g)]) := by
  subst hn hst0
  rw [clausesM p g hst hb (by simpa using hlen)] at hw
  rw [← hw, List.nil_append]
theorem some_drs {S : List (Option (List Pt))} : (S.filter Option.isSome).map (fun o => V.tup [snV o, .bool true]) = (S.filterMap id).map vdr := by
  induction S with
  | nil => rfl
  | cons o S ih =>
    cases o with
    | none =>
      rw [List.filter_cons_of_neg (by simp), List.filterMap_cons]
      exact ih
    | some m =>
      rw [List.filter_cons_of_pos (by simp), List.map_cons, List.filterMap_cons]
      simp only [id, List.map_cons, ih]
      rfl
theorem law9 {a : Nat} {P : Par} {kd jn : Bool} {w : Int} {y v t : Nat} (h : R8 a P kd jn w y v t L σ) : ∃ L1 σ1, (lvl (tbl r) (n + 224)).ex L σ u9.1 = some (.next, L1, σ1) ∧ R8 a P kd jn w y v t L1 σ1 := by
  obtain ⟨i1, i2, i3, i4, i5, i6, ib⟩ := h.toR4
  have i7 := h.pc
  have i8 := h.co
  have hh : Hf (w.fdiv 2) := by rw [h.wh]; exact h.bs.hh
  have hst := fun n => stroked_c (r := r) (n := n) (σ := σ) h.cv h.ys (by
    intro p hp
    have y1 := h.bs.y1
    have y2 := h.bs.y2
    simp only [List.mem_cons, List.not_mem_nil, or_false] at hp
    rcases hp with rfl | rfl
    · exact ⟨h.bs.x1, by dsimp only; omega⟩
    · exact ⟨h.bs.x2, by dsimp only; omega⟩) (by simp) hh
  rw [h.wh] at hst
  have hdr : drawn [(P.l1, P.c1), (P.l2, P.c2)] kd P.h = (pieces P.c1 kd P.l1 P.h ++ pieces P.c2 kd P.l2 P.h).filterMap sns := by
    simp [drawn]
  rw [hdr] at hst
  obtain ⟨s1, t1⟩ := pieces_sm (c := P.c1) (kd := kd) h.bs.x1 h.bs.hh
  obtain ⟨s2, t2⟩ := pieces_sm (c := P.c2) (kd := kd) h.bs.x2 h.bs.hh
  have y1 := h.bs.y1
  have y2 := h.bs.y2
  have hpv := h.pv
  have hlen : (sensed (pieces P.c1 kd P.l1 P.h ++ pieces P.c2 kd P.l2 P.h)).length ≤ 1000 := by
    unfold sensed
    rw [List.length_map]
    refine Nat.le_trans (List.length_filter_le _ _) ?_
    rw [List.length_append]; omega
  have hsm := sensed_some (C := pieces P.c1 kd P.l1 P.h ++ pieces P.c2 kd P.l2 P.h)
  rw [← hsm] at hst
  generalize sensed (pieces P.c1 kd P.l1 P.h ++ pieces P.c2 kd P.l2 P.h) = S at *
  have hlen' : S.length ≤ 1000000 := by omega
  refine ⟨L, σ ++ [.list ((S.filterMap id).map vdr), .list ((S.filterMap id).map vdr)], ?_, h.pre (by simp)⟩
  have hcm := cmp_drs (σ := σ ++ [.list ((S.filterMap id).map vdr), .list ((S.filterMap id).map vdr)]) (k := σ.length) (j := σ.length + 1) (by rw [gl0]; rfl) (by rw [gl]; rfl)
  simp [u9, run, exs, lvl_ex, lvl_ev, lvl_tst, exS, evS, evA, tstS, allT, evs, evo, bindP, List.lookup, ofString_inj, ofString_beq, subC_tup, subC_lst, binS, binI, small, most, upd, free, freeL, py, pyL, cmp_lt, cmp_le, cmp_gt, cmp_ge, cmp_eqi, cmp_nei, callN, biC, optI, k_len, k_range, k_abs, k_max, k_min, k_int, k_tuple, k_sum, k_zip, n_ahead, n_along, n_area, n_around, n_back, n_behind, n_below, n_big, n_blend, n_both_ends, n_bottom, n_cap, n_cell, n_centre, n_contour, n_contours, n_corner, n_corners, n_cutter, n_dashes, n_dot_now, n_dot_p, n_due, n_end, n_end_in, n_ends_in_dash, n_factor, n_first, n_found, n_gone, n_grain, n_half, n_here, n_inner, n_is_closed, n_join, n_joined, n_k, n_kind, n_later_p, n_left, n_length, n_lengths, n_limit, n_line, n_lines, n_lower, n_many, n_message, n_n, n_normal, n_one, n_other, n_pattern, n_piece, n_piece_k, n_pieces, n_place, n_place_k, n_places, n_quarter, n_right, n_root, n_script, n_second, n_self, n_share, n_sign, n_size, n_some, n_source, n_spot, n_spots, n_square, n_start, n_starts_in_dash, n_step, n_steps, n_style, n_things, n_top, n_turn, n_u, n_v, n_vector, n_way_now, n_whole, n_width, n_x, n_y, sub_vp0, sub_vp1, bind_vp, bindT_name, bindT_tup, bindT_obj, names?, updL, k_root_floor, k_nearest_root_share, k_way_of, k_moved_by, k_turned_about, k_normal_of, k_along_of, k_parallel, k_area_twice_of, k_one_sense, k_is_at_least_root, k_is_within_limit, k_bevel_spots, k_join_spots, k_square_about, k_cap_spots, k_dot_spots, k_dashed, k_plain_line, k_side_pieces, k_join_pieces, k_corners_of, k_stroked_line, k_stroked, k_l_pool, k_l_take, k_l_one, k_l_normal, k_l_sensed, k_l_at, k_l_side, k_l_corner, k_l_cap, k_l_due, k_l_drawn, k_Corner, k_Pattern, k_Style, k_MOST_STEPS, i6, i7, i8, hst, overE, items, app_l hpv, hlen']
  generalize hw : clauses _ _ _ _ _ _ _ _ = o
  have hc := clausesM_of (σ := σ ++ [.list ((S.filterMap id).map vdr)]) hw (by simp) (by simp) Option.isSome (fun o => V.tup [snV o, .bool true]) (fun l => by rw [still_one]; simp [items, app_l hpv, most, hlen']) (fun c hc l => ⟨_, rfl, by cases c <;> simp [tests, run, exs, lvl_ex, lvl_ev, lvl_tst, exS, evS, evA, tstS, allT, evs, evo, bindP, List.lookup, ofString_inj, ofString_beq, subC_tup, subC_lst, binS, binI, small, most, upd, free, freeL, py, pyL, cmp_lt, cmp_le, cmp_gt, cmp_ge, cmp_eqi, cmp_nei, callN, biC, optI, k_len, k_range, k_abs, k_max, k_min, k_int, k_tuple, k_sum, k_zip, n_ahead, n_along, n_area, n_around, n_back, n_behind, n_below, n_big, n_blend, n_both_ends, n_bottom, n_cap, n_cell, n_centre, n_contour, n_contours, n_corner, n_corners, n_cutter, n_dashes, n_dot_now, n_dot_p, n_due, n_end, n_end_in, n_ends_in_dash, n_factor, n_first, n_found, n_gone, n_grain, n_half, n_here, n_inner, n_is_closed, n_join, n_joined, n_k, n_kind, n_later_p, n_left, n_length, n_lengths, n_limit, n_line, n_lines, n_lower, n_many, n_message, n_n, n_normal, n_one, n_other, n_pattern, n_piece, n_piece_k, n_pieces, n_place, n_place_k, n_places, n_quarter, n_right, n_root, n_script, n_second, n_self, n_share, n_sign, n_size, n_some, n_source, n_spot, n_spots, n_square, n_start, n_starts_in_dash, n_step, n_steps, n_style, n_things, n_top, n_turn, n_u, n_v, n_vector, n_way_now, n_whole, n_width, n_x, n_y, sub_vp0, sub_vp1, bind_vp, snV, isn_some, isn_none], fun _ => by simp [run, exs, lvl_ex, lvl_ev, lvl_tst, exS, evS, evA, tstS, allT, evs, evo, bindP, List.lookup, ofString_inj, ofString_beq, subC_tup, subC_lst, binS, binI, small, most, upd, free, freeL, py, pyL, cmp_lt, cmp_le, cmp_gt, cmp_ge, cmp_eqi, cmp_nei, callN, biC, optI, k_len, k_range, k_abs, k_max, k_min, k_int, k_tuple, k_sum, k_zip, n_ahead, n_along, n_area, n_around, n_back, n_behind, n_below, n_big, n_blend, n_both_ends, n_bottom, n_cap, n_cell, n_centre, n_contour, n_contours, n_corner, n_corners, n_cutter, n_dashes, n_dot_now, n_dot_p, n_due, n_end, n_end_in, n_ends_in_dash, n_factor, n_first, n_found, n_gone, n_grain, n_half, n_here, n_inner, n_is_closed, n_join, n_joined, n_k, n_kind, n_later_p, n_left, n_length, n_lengths, n_limit, n_line, n_lines, n_lower, n_many, n_message, n_n, n_normal, n_one, n_other, n_pattern, n_piece, n_piece_k, n_pieces, n_place, n_place_k, n_places, n_quarter, n_right, n_root, n_script, n_second, n_self, n_share, n_sign, n_size, n_some, n_source, n_spot, n_spots, n_square, n_start, n_starts_in_dash, n_step, n_steps, n_style, n_things, n_top, n_turn, n_u, n_v, n_vector, n_way_now, n_whole, n_width, n_x, n_y, sub_vp0, sub_vp1, bind_vp]⟩) (by unfold most; omega)
  subst hc
  rw [some_drs]
  simp at hcm
  simp [hcm]
theorem fdiv_low : ∀ v ∈ [V.int 1, V.int 0, V.int (-4)], ∃ w : Int, v = .int w ∧ w.fdiv 2 < 1 := by
  intro v hv
  simp only [List.mem_cons, List.not_mem_nil, or_false] at hv
  rcases hv with rfl | rfl | rfl
  · exact ⟨_, rfl, by decide⟩
  · exact ⟨_, rfl, by decide⟩
  · exact ⟨_, rfl, by decide⟩
theorem law10 {a : Nat} {P : Par} {kd jn : Bool} {w : Int} {y v t : Nat} (h : R8 a P kd jn w y v t L σ) : ∃ L1 σ1, (lvl (tbl r) (n + 224)).ex L σ u10.1 = some (.next, L1, σ1) ∧ L1 "script" = some (.lst a) := by
  obtain ⟨i1, i2, i3, i4, i5, i6, ib⟩ := h.toR4
  have i8 := h.co
  simp [u10, run, exs, lvl_ex, lvl_ev, lvl_tst, exS, evS, evA, tstS, allT, evs, evo, bindP, List.lookup, ofString_inj, ofString_beq, subC_tup, subC_lst, binS, binI, small, most, upd, free, freeL, py, pyL, cmp_lt, cmp_le, cmp_gt, cmp_ge, cmp_eqi, cmp_nei, callN, biC, optI, k_len, k_range, k_abs, k_max, k_min, k_int, k_tuple, k_sum, k_zip, n_ahead, n_along, n_area, n_around, n_back, n_behind, n_below, n_big, n_blend, n_both_ends, n_bottom, n_cap, n_cell, n_centre, n_contour, n_contours, n_corner, n_corners, n_cutter, n_dashes, n_dot_now, n_dot_p, n_due, n_end, n_end_in, n_ends_in_dash, n_factor, n_first, n_found, n_gone, n_grain, n_half, n_here, n_inner, n_is_closed, n_join, n_joined, n_k, n_kind, n_later_p, n_left, n_length, n_lengths, n_limit, n_line, n_lines, n_lower, n_many, n_message, n_n, n_normal, n_one, n_other, n_pattern, n_piece, n_piece_k, n_pieces, n_place, n_place_k, n_places, n_quarter, n_right, n_root, n_script, n_second, n_self, n_share, n_sign, n_size, n_some, n_source, n_spot, n_spots, n_square, n_start, n_starts_in_dash, n_step, n_steps, n_style, n_things, n_top, n_turn, n_u, n_v, n_vector, n_way_now, n_whole, n_width, n_x, n_y, sub_vp0, sub_vp1, bind_vp, bindT_name, bindT_tup, bindT_obj, names?, updL, k_root_floor, k_nearest_root_share, k_way_of, k_moved_by, k_turned_about, k_normal_of, k_along_of, k_parallel, k_area_twice_of, k_one_sense, k_is_at_least_root, k_is_within_limit, k_bevel_spots, k_join_spots, k_square_about, k_cap_spots, k_dot_spots, k_dashed, k_plain_line, k_side_pieces, k_join_pieces, k_corners_of, k_stroked_line, k_stroked, k_l_pool, k_l_take, k_l_one, k_l_normal, k_l_sensed, k_l_at, k_l_side, k_l_corner, k_l_cap, k_l_due, k_l_drawn, k_Corner, k_Pattern, k_Style, k_MOST_STEPS, overE, items, gl0]
  generalize hw : clauses _ _ _ _ _ _ _ _ = o
  rw [@clauses_cons noHid] at hw
  dsimp only at hw
  generalize hf : turnC _ _ _ _ _ _ _ = f at hw
  have key := compL_inv (σ := σ ++ [.list [.int 1, .int 0, .int (-4)], .list []]) (vs := [.int 1, .int 0, .int (-4)]) (f := f) (chk := fun σ_1 => still σ_1 (It.one (V.obj σ.length)) [.int 1, .int 0, .int (-4)]) (fun st => st.take (σ.length + 2) = σ ++ [.list [.int 1, .int 0, .int (-4)], .list []]) (fun st hst => by
    have : st[σ.length]? = some (.list [.int 1, .int 0, .int (-4)]) := get_take (σ0 := σ ++ [.list [.int 1, .int 0, .int (-4)], .list []]) (by simpa using hst) (by rw [gl0]; rfl)
    rw [still_one]; simp [items, this, most]) (fun u hu st hst => by
    obtain ⟨w', rfl, hw'⟩ := fdiv_low u hu
    have hpre : st.take (σ ++ [Ob.list [.int 1, .int 0, .int (-4)], .list []]).length = σ ++ [.list [.int 1, .int 0, .int (-4)], .list []] := by simpa using hst
    refine ⟨st ++ [.inst "Style" (stl w' jn kd), .list [], .list []], ?_, by
      have := take_app (l := [.inst "Style" (stl w' jn kd), .list [], .list []]) hpre
      simpa using this⟩
    have e1 := fun n => style_c (r := r) (n := n) (σ := st) (w := w') (jn := jn) (kd := kd)
    have e2 := fun n => stroked_low (r := r) (n := n) (σ := st ++ [.inst "Style" (stl w' jn kd)]) (a := t) (s := st.length) (w := w') (jn := jn) (kd := kd) (by rw [gl0]; rfl) hw'
    have e3 := cmp_nil (σ := st ++ [.inst "Style" (stl w' jn kd), .list [], .list []]) (k := st.length + 1) (j := st.length + 2) (by rw [gl]; rfl) (by rw [gl]; rfl)
    simp at e2
    rw [← hf]
    unfold turnC
    simp [run, exs, lvl_ex, lvl_ev, lvl_tst, exS, evS, evA, tstS, allT, evs, evo, bindP, List.lookup, ofString_inj, ofString_beq, subC_tup, subC_lst, binS, binI, small, most, upd, free, freeL, py, pyL, cmp_lt, cmp_le, cmp_gt, cmp_ge, cmp_eqi, cmp_nei, callN, biC, optI, k_len, k_range, k_abs, k_max, k_min, k_int, k_tuple, k_sum, k_zip, n_ahead, n_along, n_area, n_around, n_back, n_behind, n_below, n_big, n_blend, n_both_ends, n_bottom, n_cap, n_cell, n_centre, n_contour, n_contours, n_corner, n_corners, n_cutter, n_dashes, n_dot_now, n_dot_p, n_due, n_end, n_end_in, n_ends_in_dash, n_factor, n_first, n_found, n_gone, n_grain, n_half, n_here, n_inner, n_is_closed, n_join, n_joined, n_k, n_kind, n_later_p, n_left, n_length, n_lengths, n_limit, n_line, n_lines, n_lower, n_many, n_message, n_n, n_normal, n_one, n_other, n_pattern, n_piece, n_piece_k, n_pieces, n_place, n_place_k, n_places, n_quarter, n_right, n_root, n_script, n_second, n_self, n_share, n_sign, n_size, n_some, n_source, n_spot, n_spots, n_square, n_start, n_starts_in_dash, n_step, n_steps, n_style, n_things, n_top, n_turn, n_u, n_v, n_vector, n_way_now, n_whole, n_width, n_x, n_y, sub_vp0, sub_vp1, bind_vp, bindT_name, bindT_tup, bindT_obj, names?, updL, k_root_floor, k_nearest_root_share, k_way_of, k_moved_by, k_turned_about, k_normal_of, k_along_of, k_parallel, k_area_twice_of, k_one_sense, k_is_at_least_root, k_is_within_limit, k_bevel_spots, k_join_spots, k_square_about, k_cap_spots, k_dot_spots, k_dashed, k_plain_line, k_side_pieces, k_join_pieces, k_corners_of, k_stroked_line, k_stroked, k_l_pool, k_l_take, k_l_one, k_l_normal, k_l_sensed, k_l_at, k_l_side, k_l_corner, k_l_cap, k_l_due, k_l_drawn, k_Corner, k_Pattern, k_Style, k_MOST_STEPS, tests, hide, i4, i5, i8, e1, e2, e3]) (List.take_of_length_le (by simp))
  obtain ⟨st, e, hst⟩ := key
  rw [e] at hw
  subst hw
  have hpre : st.take (σ ++ [Ob.list [.int 1, .int 0, .int (-4)], .list []]).length = σ ++ [.list [.int 1, .int 0, .int (-4)], .list []] := by simpa using hst
  have h0 : st[σ.length + 1]? = some (.list []) := get_take hpre (by rw [gl]; rfl)
  have hcm := cmp_nil (σ := st ++ [.list []]) (k := σ.length + 1) (j := st.length) (app_l h0) (by rw [gl0]; rfl)
  simp [hcm, i1]
end Mine
end
section
open PySem PySem.W PyProof.Rows PySem.Calls
set_option linter.unusedVariables false
set_option linter.unusedSimpArgs false
set_option maxRecDepth 100000
namespace Mine
variable {r : Nat → Option (List Int)} {T : Tbl} {F : Funs} {L : Loc} {σ : Sto} {n : Nat}

theorem turn_c {a k : Nat} {xs : List Int} (ha : r a = some xs) (hx : xs.length ≤ 63) (hk : k ≤ 1) (h1 : L "script" = some (.lst a)) (h2 : L "k" = some (.int (k : Nat))) : Nxt (lvl (tbl r) (n + 224)) L σ (forB w0.1) fun L' _ => L' "script" = some (.lst a) := by
  rw [law_turn]
  refine Nxt.step (law1 (n := n + 124) ha hx hk h1 h2) fun L1 σ1 ⟨s, h1⟩ => ?_
  refine Nxt.step (law2 (n := n + 24) h1) fun L2 σ2 ⟨P, h2⟩ => ?_
  refine Nxt.step (law3 (n := n + 24) h2) fun L3 σ3 ⟨kd, jn, h3⟩ => ?_
  refine Nxt.step (law4 (n := n + 24) h3) fun L4 σ4 ⟨w, y, h4⟩ => ?_
  refine Nxt.step (law5 (n := n + 4) h4) fun L5 σ5 ⟨u, d1, d2, h5⟩ => ?_
  refine Nxt.step (law6 (n := n + 4) h5) fun L6 σ6 h6 => ?_
  refine Nxt.step (law7 (n := n + 4) h6) fun L7 σ7 ⟨v, h7⟩ => ?_
  refine Nxt.step (law8 (n := n + 4) h7) fun L8 σ8 ⟨t, h8⟩ => ?_
  refine Nxt.step (law9 (n := n) h8) fun L9 σ9 h9 => ?_
  exact Nxt.step (law10 (n := n) h9) fun L10 σ10 h10 => Nxt.nil h10

def itOf : Stmt → Expr
  | .For _ it _ _ _ => it
  | _ => .Name "k" default
theorem w0_eq : ∃ q1 q2, w0.1 = .For (.Name "k" q1) (itOf w0.1) (forB w0.1) [] q2 := ⟨_, _, rfl⟩
theorem w0_it {a : Nat} {xs : List Int} (ha : r a = some xs) (hx : xs.length ≤ 63) (h1 : L "script" = some (.lst a)) : ∃ M : Nat, M ≤ 2 ∧ (lvl (tbl r) (n + 50)).ev L σ (itOf w0.1) = some (.rng 0 (M : Nat), σ) := by
  have hro : (tbl r).ro a = some xs := ha
  have hx' : xs.length ≤ 1000000 := by omega
  by_cases h2 : (2 : Int) < xs.length
  · exact ⟨2, by decide, by simp [w0, itOf, run, exs, lvl_ex, lvl_ev, lvl_tst, exS, evS, evA, tstS, allT, evs, evo, bindP, List.lookup, ofString_inj, ofString_beq, subC_tup, subC_lst, binS, binI, small, most, upd, free, freeL, py, pyL, cmp_lt, cmp_le, cmp_gt, cmp_ge, cmp_eqi, cmp_nei, callN, biC, optI, k_len, k_range, k_abs, k_max, k_min, k_int, k_tuple, k_sum, k_zip, n_ahead, n_along, n_area, n_around, n_back, n_behind, n_below, n_big, n_blend, n_both_ends, n_bottom, n_cap, n_cell, n_centre, n_contour, n_contours, n_corner, n_corners, n_cutter, n_dashes, n_dot_now, n_dot_p, n_due, n_end, n_end_in, n_ends_in_dash, n_factor, n_first, n_found, n_gone, n_grain, n_half, n_here, n_inner, n_is_closed, n_join, n_joined, n_k, n_kind, n_later_p, n_left, n_length, n_lengths, n_limit, n_line, n_lines, n_lower, n_many, n_message, n_n, n_normal, n_one, n_other, n_pattern, n_piece, n_piece_k, n_pieces, n_place, n_place_k, n_places, n_quarter, n_right, n_root, n_script, n_second, n_self, n_share, n_sign, n_size, n_some, n_source, n_spot, n_spots, n_square, n_start, n_starts_in_dash, n_step, n_steps, n_style, n_things, n_top, n_turn, n_u, n_v, n_vector, n_way_now, n_whole, n_width, n_x, n_y, sub_vp0, sub_vp1, bind_vp, h1, hro, hx', h2]⟩
  · obtain ⟨N, hN⟩ : ∃ N : Int, (xs.length : Int) = N := ⟨_, rfl⟩
    rw [hN] at h2
    by_cases h3 : 1 < N
    · have e : N = 2 := by omega
      rw [e] at hN
      exact ⟨2, by decide, by simp [w0, itOf, run, exs, lvl_ex, lvl_ev, lvl_tst, exS, evS, evA, tstS, allT, evs, evo, bindP, List.lookup, ofString_inj, ofString_beq, subC_tup, subC_lst, binS, binI, small, most, upd, free, freeL, py, pyL, cmp_lt, cmp_le, cmp_gt, cmp_ge, cmp_eqi, cmp_nei, callN, biC, optI, k_len, k_range, k_abs, k_max, k_min, k_int, k_tuple, k_sum, k_zip, n_ahead, n_along, n_area, n_around, n_back, n_behind, n_below, n_big, n_blend, n_both_ends, n_bottom, n_cap, n_cell, n_centre, n_contour, n_contours, n_corner, n_corners, n_cutter, n_dashes, n_dot_now, n_dot_p, n_due, n_end, n_end_in, n_ends_in_dash, n_factor, n_first, n_found, n_gone, n_grain, n_half, n_here, n_inner, n_is_closed, n_join, n_joined, n_k, n_kind, n_later_p, n_left, n_length, n_lengths, n_limit, n_line, n_lines, n_lower, n_many, n_message, n_n, n_normal, n_one, n_other, n_pattern, n_piece, n_piece_k, n_pieces, n_place, n_place_k, n_places, n_quarter, n_right, n_root, n_script, n_second, n_self, n_share, n_sign, n_size, n_some, n_source, n_spot, n_spots, n_square, n_start, n_starts_in_dash, n_step, n_steps, n_style, n_things, n_top, n_turn, n_u, n_v, n_vector, n_way_now, n_whole, n_width, n_x, n_y, sub_vp0, sub_vp1, bind_vp, h1, hro, hx', hN]⟩
    · exact ⟨1, by decide, by simp [w0, itOf, run, exs, lvl_ex, lvl_ev, lvl_tst, exS, evS, evA, tstS, allT, evs, evo, bindP, List.lookup, ofString_inj, ofString_beq, subC_tup, subC_lst, binS, binI, small, most, upd, free, freeL, py, pyL, cmp_lt, cmp_le, cmp_gt, cmp_ge, cmp_eqi, cmp_nei, callN, biC, optI, k_len, k_range, k_abs, k_max, k_min, k_int, k_tuple, k_sum, k_zip, n_ahead, n_along, n_area, n_around, n_back, n_behind, n_below, n_big, n_blend, n_both_ends, n_bottom, n_cap, n_cell, n_centre, n_contour, n_contours, n_corner, n_corners, n_cutter, n_dashes, n_dot_now, n_dot_p, n_due, n_end, n_end_in, n_ends_in_dash, n_factor, n_first, n_found, n_gone, n_grain, n_half, n_here, n_inner, n_is_closed, n_join, n_joined, n_k, n_kind, n_later_p, n_left, n_length, n_lengths, n_limit, n_line, n_lines, n_lower, n_many, n_message, n_n, n_normal, n_one, n_other, n_pattern, n_piece, n_piece_k, n_pieces, n_place, n_place_k, n_places, n_quarter, n_right, n_root, n_script, n_second, n_self, n_share, n_sign, n_size, n_some, n_source, n_spot, n_spots, n_square, n_start, n_starts_in_dash, n_step, n_steps, n_style, n_things, n_top, n_turn, n_u, n_v, n_vector, n_way_now, n_whole, n_width, n_x, n_y, sub_vp0, sub_vp1, bind_vp, h1, hro, hx', hN, h2, h3]⟩

def pcB : List (List Pt) := [[(0, 2), (-2, 2), (-2, -2), (0, -2)], [(9, -2), (11, -2), (11, 2), (9, 2)]]
theorem pcB_eq : (pieces false true [(0, 0), (9, 0)] ((4 : Int).fdiv 2)).drop 1 = pcB := by decide +kernel
theorem law_ret {a : Nat} {xs : List Int} (ha : r a = some xs) (hx : xs.length ≤ 63) : Ret (lvl (tbl r) (n + 225)) (bindP (d_law.1.params.args.map (·.arg)) [.lst a]) σ d_law.1.body fun v σ' => v = .bool true := by
  rw [law_body]
  have h0 : bindP (d_law.1.params.args.map (·.arg)) [.lst a] "script" = some (.lst a) := by simp [d_law, bindP, List.lookup, ofString_beq]
  generalize bindP (d_law.1.params.args.map (·.arg)) [.lst a] = L at *
  refine Ret.step (fun L' _ => L' "script" = some (.lst a)) ?_ fun L1 σ1 h1 => ?_
  · obtain ⟨q1, q2, e⟩ := w0_eq
    obtain ⟨M, hM, hit⟩ := w0_it (n := n + 174) (σ := σ) ha hx h0
    rw [e]
    have hitems : ∀ σ, items σ (.rng 0 (M : Nat)) = some ((List.range M).map fun (k : Nat) => V.int k) := fun σ => items_plc (c := true) (by omega)
    exact ex_for hit (hitems _) (fun _ L _ => L "script" = some (.lst a)) (fun _ _ _ _ => hitems _) (fun dn p rs L σ hC h => by
      have hp : p < M := by
        have : p ∈ List.range M := by rw [hC]; simp
        simpa using this
      exact ⟨_, rfl, turn_c ha hx (by omega) (by simp [upd, ofString_inj, h]) upd_self⟩) h0
  · have e1 : ∀ n, mkC (tbl r) (lvl (tbl r) (n + 30)) "Style" [.int 4, .str "bevel", .str "square", .tup [.int 1, .int 1]] σ1 = some (.obj σ1.length, σ1 ++ [.inst "Style" (stl 4 false true)]) := fun n => style_c (jn := false) (kd := true)
    have e2 := fun n => stroked_line_c (r := r) (n := n) (σ := σ1 ++ [.inst "Style" (stl 4 false true)]) (s := σ1.length) (c := false) (l := [(0, 0), (9, 0)]) (st := 3) (by rw [gl0]; rfl) (by
      intro p hp
      simp only [List.mem_cons, List.not_mem_nil, or_false] at hp
      rcases hp with rfl | rfl <;> decide) (by decide) ⟨by decide, by decide⟩
    have hq := pcB_eq
    have hlen : (pieces false true [(0, 0), (9, 0)] ((4 : Int).fdiv 2)).length ≤ 1000000 := by
      have := (pieces_sm (c := false) (kd := true) (l := [(0, 0), (9, 0)]) (h := (4 : Int).fdiv 2) (by
        intro p hp
        simp only [List.mem_cons, List.not_mem_nil, or_false] at hp
        rcases hp with rfl | rfl <;> decide) ⟨by decide, by decide⟩).2
      simp only [List.length_cons, List.length_nil] at this
      omega
    generalize pieces false true [(0, 0), (9, 0)] ((4 : Int).fdiv 2) = Q at *
    have hq' : (Q.map vps).tail = pcB.map vps := by rw [← List.drop_one, ← List.map_drop, hq]
    refine Ret.next (L1 := upd L1 "both_ends" (.obj (σ1.length + 2))) (σ1 := σ1 ++ [.inst "Style" (stl 4 false true), .list (Q.map vps), .list (pcB.map vps)]) ?_ ?_
    · simp [vps, vp] at e2
      simp [w1, run, exs, lvl_ex, lvl_ev, lvl_tst, exS, evS, evA, tstS, allT, evs, evo, bindP, List.lookup, ofString_inj, ofString_beq, subC_tup, subC_lst, binS, binI, small, most, upd, free, freeL, py, pyL, cmp_lt, cmp_le, cmp_gt, cmp_ge, cmp_eqi, cmp_nei, callN, biC, optI, k_len, k_range, k_abs, k_max, k_min, k_int, k_tuple, k_sum, k_zip, n_ahead, n_along, n_area, n_around, n_back, n_behind, n_below, n_big, n_blend, n_both_ends, n_bottom, n_cap, n_cell, n_centre, n_contour, n_contours, n_corner, n_corners, n_cutter, n_dashes, n_dot_now, n_dot_p, n_due, n_end, n_end_in, n_ends_in_dash, n_factor, n_first, n_found, n_gone, n_grain, n_half, n_here, n_inner, n_is_closed, n_join, n_joined, n_k, n_kind, n_later_p, n_left, n_length, n_lengths, n_limit, n_line, n_lines, n_lower, n_many, n_message, n_n, n_normal, n_one, n_other, n_pattern, n_piece, n_piece_k, n_pieces, n_place, n_place_k, n_places, n_quarter, n_right, n_root, n_script, n_second, n_self, n_share, n_sign, n_size, n_some, n_source, n_spot, n_spots, n_square, n_start, n_starts_in_dash, n_step, n_steps, n_style, n_things, n_top, n_turn, n_u, n_v, n_vector, n_way_now, n_whole, n_width, n_x, n_y, sub_vp0, sub_vp1, bind_vp, k_root_floor, k_nearest_root_share, k_way_of, k_moved_by, k_turned_about, k_normal_of, k_along_of, k_parallel, k_area_twice_of, k_one_sense, k_is_at_least_root, k_is_within_limit, k_bevel_spots, k_join_spots, k_square_about, k_cap_spots, k_dot_spots, k_dashed, k_plain_line, k_side_pieces, k_join_pieces, k_corners_of, k_stroked_line, k_stroked, k_l_pool, k_l_take, k_l_one, k_l_normal, k_l_sensed, k_l_at, k_l_side, k_l_corner, k_l_cap, k_l_due, k_l_drawn, k_Corner, k_Pattern, k_Style, k_MOST_STEPS, e1, e2, gl, slice_tail, hlen, hq']
    · have hcm := (cmp_pcs (P := pcB) (Q := pcB) (σ := σ1 ++ [.inst "Style" (stl 4 false true), .list (Q.map vps), .list (pcB.map vps), .list (pcB.map vps)]) (k := σ1.length + 2) (j := σ1.length + 3) (by rw [gl]; rfl) (by rw [gl]; rfl)).2
      have hB : pcB.map vps = [.tup [.tup [.int 0, .int 2], .tup [.int (-2), .int 2], .tup [.int (-2), .int (-2)], .tup [.int 0, .int (-2)]], .tup [.tup [.int 9, .int (-2)], .tup [.int 11, .int (-2)], .tup [.int 11, .int 2], .tup [.int 9, .int 2]]] := rfl
      rw [hB] at hcm ⊢
      refine Ret.done' (v := .bool true) (σ1 := σ1 ++ [.inst "Style" (stl 4 false true), .list (Q.map vps), .list [.tup [.tup [.int 0, .int 2], .tup [.int (-2), .int 2], .tup [.int (-2), .int (-2)], .tup [.int 0, .int (-2)]], .tup [.tup [.int 9, .int (-2)], .tup [.int 11, .int (-2)], .tup [.int 11, .int 2], .tup [.int 9, .int 2]]], .list [.tup [.tup [.int 0, .int 2], .tup [.int (-2), .int 2], .tup [.int (-2), .int (-2)], .tup [.int 0, .int (-2)]], .tup [.tup [.int 9, .int (-2)], .tup [.int 11, .int (-2)], .tup [.int 11, .int 2], .tup [.int 9, .int 2]]]]) ?_ rfl
      simp at hcm
      simp [w2, run, exs, lvl_ex, lvl_ev, lvl_tst, exS, evS, evA, tstS, allT, evs, evo, bindP, List.lookup, ofString_inj, ofString_beq, subC_tup, subC_lst, binS, binI, small, most, upd, free, freeL, py, pyL, cmp_lt, cmp_le, cmp_gt, cmp_ge, cmp_eqi, cmp_nei, callN, biC, optI, k_len, k_range, k_abs, k_max, k_min, k_int, k_tuple, k_sum, k_zip, n_ahead, n_along, n_area, n_around, n_back, n_behind, n_below, n_big, n_blend, n_both_ends, n_bottom, n_cap, n_cell, n_centre, n_contour, n_contours, n_corner, n_corners, n_cutter, n_dashes, n_dot_now, n_dot_p, n_due, n_end, n_end_in, n_ends_in_dash, n_factor, n_first, n_found, n_gone, n_grain, n_half, n_here, n_inner, n_is_closed, n_join, n_joined, n_k, n_kind, n_later_p, n_left, n_length, n_lengths, n_limit, n_line, n_lines, n_lower, n_many, n_message, n_n, n_normal, n_one, n_other, n_pattern, n_piece, n_piece_k, n_pieces, n_place, n_place_k, n_places, n_quarter, n_right, n_root, n_script, n_second, n_self, n_share, n_sign, n_size, n_some, n_source, n_spot, n_spots, n_square, n_start, n_starts_in_dash, n_step, n_steps, n_style, n_things, n_top, n_turn, n_u, n_v, n_vector, n_way_now, n_whole, n_width, n_x, n_y, sub_vp0, sub_vp1, bind_vp, k_root_floor, k_nearest_root_share, k_way_of, k_moved_by, k_turned_about, k_normal_of, k_along_of, k_parallel, k_area_twice_of, k_one_sense, k_is_at_least_root, k_is_within_limit, k_bevel_spots, k_join_spots, k_square_about, k_cap_spots, k_dot_spots, k_dashed, k_plain_line, k_side_pieces, k_join_pieces, k_corners_of, k_stroked_line, k_stroked, k_l_pool, k_l_take, k_l_one, k_l_normal, k_l_sensed, k_l_at, k_l_side, k_l_corner, k_l_cap, k_l_due, k_l_drawn, k_Corner, k_Pattern, k_Style, k_MOST_STEPS, hcm]
theorem law_answers {a : Nat} {xs : List Int} (ha : r a = some xs) (hx : xs.length ≤ 63) : ∃ σ', callD (lvl (tbl r) (n + 225)) d_law.1 [.lst a] σ = some (.bool true, σ') := by
  obtain ⟨v, σ', e, rfl⟩ := (law_ret (σ := σ) (n := n) ha hx).run
  rw [callD_run rfl e]
  unfold gc
  by_cases ht : σ'.take σ.length = σ
  · rw [if_pos ht, if_pos (show free (.bool true) = true from rfl)]; exact ⟨_, rfl⟩
  · rw [if_neg ht]; exact ⟨_, rfl⟩
end Mine
end
section
open PySem PySem.W PyProof.Rows PySem.Calls
set_option maxRecDepth 100000
namespace Mine
theorem answers : Answers := fun a xs h => law_answers (n := 0) (r := fun b => if b = a then some xs else none) (if_pos rfl) h
end Mine
end
theorem PySem.Challenge.cw_on0251_01_holds : PySem.Challenge.rw_on0251_01.Holds :=
  Mine.holds_of Mine.answers
