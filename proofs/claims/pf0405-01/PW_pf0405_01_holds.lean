import PyProof.Rows.All
import Wide.All
import OpenK.AllK
import Wide.FinOn
import Open.Split
import PySem.Challenge.RW_pf0405_01
set_option Elab.async false
set_option maxRecDepth 100000
set_option linter.all false
-- D1
namespace Mine
open PySem PySem.W

/-! symbolic ints and what is known of them -/
inductive SI where
  | c (i : Int) | v (k : Nat)
  | add (a b : SI) | sub (a b : SI) | mul (a b : SI) | mod (a b : SI) | div (a b : SI) | max (a b : SI)
  deriving DecidableEq

noncomputable def SI.den (ρ : Nat → Int) : SI → Int
  | .c i => i
  | .v k => ρ k
  | .add a b => a.den ρ + b.den ρ
  | .sub a b => a.den ρ - b.den ρ
  | .mul a b => a.den ρ * b.den ρ
  | .mod a b => Int.fmod (a.den ρ) (b.den ρ)
  | .div a b => Int.fdiv (a.den ρ) (b.den ρ)
  | .max a b => if a.den ρ < b.den ρ then b.den ρ else a.den ρ

inductive SC where
  | lt (a b : SI) | eq (a b : SI)
  deriving DecidableEq
noncomputable def SC.den (ρ : Nat → Int) : SC → Prop
  | .lt a b => a.den ρ < b.den ρ
  | .eq a b => a.den ρ = b.den ρ

abbrev Facts := List (SC × Bool)
noncomputable def Facts.Ok (ρ : Nat → Int) (F : Facts) : Prop := ∀ p ∈ F, p.1.den ρ ↔ p.2 = true
/-! names as numbers -/
noncomputable def encL : List Nat → Nat → Option Nat
  | [], a => some a
  | c :: r, a => if c < 255 then encL r (a * 256 + (c + 1)) else none
noncomputable def enc (s : Str) : Option Nat := encL s.cps.toList 0

/-! values, objects, states -/
inductive Bi where
  | len | max | min | int | bytes | bytearray
  deriving DecidableEq
inductive AV where
  | none | bool (b : Bool) | int (e : SI) | str (k : Nat) | bytes (b : List Nat)
  | own (j : Nat) | fn (a : Nat) | cls (a : Nat) | bi (b : Bi) | scr
  deriving DecidableEq
inductive AO where
  | inst (C d : Nat)
  | adict (fs : List (Nat × AV))
  | list (vs : List AV)
  | tuple (vs : List AV)
  | idict (es : List (Int × AV))
  | barr
structure St where
  loc : List (Nat × AV) := []
  objs : List (Nat × AO) := []
  next : Nat := 0

noncomputable def St.obj (σ : St) (j : Nat) : Option AO := σ.objs.lookup j
noncomputable def setO (j : Nat) (o : AO) : List (Nat × AO) → List (Nat × AO)
  | [] => []
  | p :: r => if p.1 = j then (j, o) :: r else p :: setO j o r
noncomputable def St.put (σ : St) (j : Nat) (o : AO) : St := ⟨σ.loc, setO j o σ.objs, σ.next⟩
noncomputable def St.new (σ : St) (o : AO) : St := ⟨σ.loc, (σ.next, o) :: σ.objs, σ.next + 1⟩
noncomputable def setF (n : Nat) (x : AV) : List (Nat × AV) → List (Nat × AV)
  | [] => [(n, x)]
  | p :: r => if p.1 = n then (n, x) :: r else p :: setF n x r
noncomputable def St.setLoc (σ : St) (n : Nat) (x : AV) : St := ⟨setF n x σ.loc, σ.objs, σ.next⟩
noncomputable def St.withLoc (σ : St) (l : List (Nat × AV)) : St := ⟨l, σ.objs, σ.next⟩

/-! the syntax that is run: `any` stands for what is not reached -/
inductive BOp where
  | add | sub | mul | mod | div | band | bor | shr | pow
inductive COp where
  | eq | ne | lt | le | gt | ge | is | isNot | in_
inductive X where
  | any
  | none | bool (b : Bool) | int (i : Int) | str (k : Nat) | bytes (b : List Nat)
  | loc (n : Nat) | glob (v : AV)
  | bin (op : BOp) (a b : X)
  | not (a : X) | neg (a : X)
  | and (a b : X) | and3 (a b c : X) | or (a b : X)
  | ite (t a b : X)
  | cmp (op : COp) (a b : X) | cmp2 (op op' : COp) (a b c : X)
  | attr (o : X) (n : Nat)
  | sub (o i : X)
  | sliceFrom (o lo : X)
  | call (f : X) (args : List X)
  | meth (o : X) (n : Nat) (args : List X)
  | list (xs : List X) | tup (xs : List X) | dict0
  | compR (elt : X) (x : Nat) (n : X)
inductive T where
  | loc (n : Nat) | attr (o : X) (n : Nat) | item (o i : X) | tup (ns : List Nat) | any
inductive S where
  | any
  | set (t : T) (e : X)
  | swap (ks : List Nat) (e : X)
  | setComp (k : Nat) (elt : X) (x : Nat) (it : X)
  | ret (e : X) | ret0
  | expr (e : X)
  | ite (t : X) (a b : List S)
  | while0 (t : X)
  | forR (n : Nat) (it : X) (body : List S)
  | forL (t : T) (it : X) (body : List S)

structure CFn where
  ps : List Nat
  ds : List AV
  body : List S
structure CCls where
  init : Nat
  meths : List (Nat × Nat)
  props : List (Nat × Nat)
  gets : List Nat
  sets : List Nat
structure Cfg where
  F : Facts
  fns : List (Nat × CFn)
  cls : List (Nat × CCls)
  CT : List (Nat × List AV × AV)

inductive AFlow where
  | next | ret (v : AV)
structure Rec where
  E : St → X → Option (AV × St)
  B : St → List S → Option (AFlow × St)
  C : St → AV → List AV → Option (AV × St)


/-! ### ways to go on -/
section
variable {β : Type}
noncomputable def bd (x : Option (AV × St)) (f : AV → St → Option β) : Option β := match x with
  | some (a, s) => f a s
  | none => none
noncomputable def ob {α : Type} (x : Option α) (f : α → Option β) : Option β := match x with
  | some a => f a
  | none => none
noncomputable def gd (b : Bool) (x : Option β) : Option β := cond b x none
noncomputable def onInt (v : AV) (f : SI → Option β) : Option β := by
  cases v with
  | int e => exact f e
  | _ => exact none
noncomputable def onBool (v : AV) (f : Bool → Option β) : Option β := by
  cases v with
  | bool e => exact f e
  | _ => exact none
noncomputable def onByt (v : AV) (f : List Nat → Option β) : Option β := by
  cases v with
  | bytes e => exact f e
  | _ => exact none
noncomputable def onOwn (v : AV) (f : Nat → Option β) : Option β := by
  cases v with
  | own j => exact f j
  | _ => exact none
noncomputable def onNone (v : AV) (x : Option β) : Option β := by
  cases v with
  | none => exact x
  | _ => exact none
noncomputable def onCst (e : SI) (f : Int → Option β) : Option β := by
  cases e with
  | c i => exact f i
  | _ => exact none
noncomputable def onNat (i : Int) (f : Nat → Option β) : Option β := match i with
  | .ofNat k => f k
  | .negSucc _ => none
noncomputable def onList (o : AO) (f : List AV → Option β) : Option β := by
  cases o with
  | list l => exact f l
  | _ => exact none
noncomputable def onTup (o : AO) (f : List AV → Option β) : Option β := by
  cases o with
  | tuple l => exact f l
  | _ => exact none
noncomputable def onIdict (o : AO) (f : List (Int × AV) → Option β) : Option β := by
  cases o with
  | idict l => exact f l
  | _ => exact none
noncomputable def onInst (o : AO) (f : Nat → Nat → Option β) : Option β := by
  cases o with
  | inst C d => exact f C d
  | _ => exact none
noncomputable def onAdict (o : AO) (f : List (Nat × AV) → Option β) : Option β := by
  cases o with
  | adict l => exact f l
  | _ => exact none
noncomputable def St.list (σ : St) (j : Nat) (f : List AV → Option β) : Option β := ob (σ.obj j) fun o => onList o f
noncomputable def St.tup (σ : St) (j : Nat) (f : List AV → Option β) : Option β := ob (σ.obj j) fun o => onTup o f
/-- exactly one -/
noncomputable def on1 (l : List AV) (f : AV → Option β) : Option β := match l with
  | a :: r => gd r.isEmpty (f a)
  | [] => none
noncomputable def on2 (l : List AV) (f : AV → AV → Option β) : Option β := match l with
  | a :: r => on1 r (f a)
  | [] => none
end
noncomputable def cst (e : SI) : Option Int := onCst e some
noncomputable def askLt (F : Facts) (a b : SI) : Option Bool := match cst a, cst b with
  | some i, some j => some (decide (i < j))
  | _, _ => F.lookup (.lt a b)
noncomputable def askEq (F : Facts) (a b : SI) : Option Bool := match cst a, cst b with
  | some i, some j => some (decide (i = j))
  | _, _ => if a = b then some true else F.lookup (.eq a b)
noncomputable def SI.small (e : SI) : Bool := by
  cases e with
  | c i => exact decide (i.natAbs < 4611686018427387904)
  | mod _ m => exact match cst m with
    | some i => decide (0 < i) && decide (i.natAbs < 4611686018427387904)
    | none => false
  | _ => exact false

noncomputable def addS (x y : SI) : SI := match cst x, cst y with
  | some i, some j => .c (i + j)
  | _, _ => .add x y
noncomputable def subS (x y : SI) : SI := match cst x, cst y with
  | some i, some j => .c (i - j)
  | _, _ => .sub x y
noncomputable def mulS (x y : SI) : SI := match cst x, cst y with
  | some i, some j => .c (i * j)
  | _, _ => .mul x y
noncomputable def modS (x : SI) (j : Int) : SI := match cst x with
  | some i => .c (Int.fmod i j)
  | none => .mod x (.c j)
noncomputable def divS (x : SI) (j : Int) : SI := match cst x with
  | some i => .c (Int.fdiv i j)
  | none => .div x (.c j)
noncomputable def nats (x y : SI) (f : Nat → Nat → SI) : Option SI := onCst x fun i => onCst y fun j => onNat i fun i => onNat j fun j => some (f i j)
noncomputable def intOp (op : BOp) (x y : SI) : Option SI := match op with
  | .add => some (addS x y)
  | .sub => some (subS x y)
  | .mul => gd (x.small || y.small) (some (mulS x y))
  | .mod => onCst y fun j => gd (!decide (j = 0)) (some (modS x j))
  | .div => onCst y fun j => gd (!decide (j = 0) && decide (j.natAbs < 4611686018427387904)) (some (divS x j))
  | .band => nats x y fun i j => .c (.ofNat (i &&& j))
  | .bor => nats x y fun i j => .c (.ofNat (i ||| j))
  | .shr => nats x y fun i j => .c (.ofNat (i >>> j))
  | .pow => onCst x fun i => onCst y fun j => gd (decide (i = 10) && decide (j = 18)) (some (.c 1000000000000000000))
noncomputable def isAdd (op : BOp) : Bool := by
  cases op with
  | add => exact true
  | _ => exact false
noncomputable def addO (σ : St) (o : AO) (j : Nat) : Option (AV × St) := by
  cases o with
  | tuple xs => exact σ.tup j fun ys => gd (decide (xs.length + ys.length < 10000) && !xs.isEmpty && !ys.isEmpty) (some (.own σ.next, σ.new (.tuple (xs ++ ys))))
  | list xs => exact σ.list j fun ys => gd (decide (xs.length + ys.length < 10000)) (some (.own σ.next, σ.new (.list (xs ++ ys))))
  | _ => exact none
noncomputable def binOp (op : BOp) (a b : AV) (σ : St) : Option (AV × St) := by
  cases a with
  | int x => exact onInt b fun y => ob (intOp op x y) fun r => some (.int r, σ)
  | bytes x => exact onByt b fun y => gd (isAdd op && decide (x.length + y.length < 10000)) (some (.bytes (x ++ y), σ))
  | own i => exact onOwn b fun j => gd (isAdd op) (ob (σ.obj i) fun o => addO σ o j)
  | _ => exact none

noncomputable def eqL (eq : AV → AV → Option Bool) : List AV → List AV → Option Bool
  | [], ys => gd ys.isEmpty (some true)
  | x :: xs, ys => match ys with
    | y :: ys => ob (eq x y) fun b => ob (eqL eq xs ys) fun r => some (b && r)
    | [] => none
/-- None beside an int or a str -/
noncomputable def plainAV (v : AV) : Bool := by
  cases v with
  | int _ => exact true
  | str _ => exact true
  | _ => exact false
noncomputable def eqA (F : Facts) (σ : St) : Nat → AV → AV → Option Bool
  | 0, _, _ => none
  | n + 1, a, b => match a with
    | .none => match b with
      | .none => some true
      | b => gd (plainAV b) (some false)
    | .bool x => onBool b fun y => some (x == y)
    | .int x => match b with
      | .int y => askEq F x y
      | b => onNone b (some false)
    | .str x => match b with
      | .str y => some (decide (x = y))
      | b => onNone b (some false)
    | .bytes x => onByt b fun y => some (decide (x = y))
    | .own i => onOwn b fun j => gd (!decide (i = j)) (ob (σ.obj i) fun o => match o with
      | .list xs => σ.list j fun ys => match decide (xs.length = ys.length) with
        | true => eqL (eqA F σ n) xs ys
        | false => some false
      | .tuple xs => σ.tup j fun ys => eqL (eqA F σ n) xs ys
      | _ => none)
    | _ => none

noncomputable def isC (v : AV) : Bool := by
  cases v with
  | int e => exact (cst e).isSome
  | _ => exact false
noncomputable def findI (k : Int) : List AV → Option Nat
  | [] => none
  | a :: r => onInt a fun e => onCst e fun i => cond (decide (i = k)) (some 0) ((findI k r).map (· + 1))

noncomputable def anyA (eq : AV → AV → Option Bool) (x : AV) : List AV → Option Bool
  | [] => some false
  | y :: r => ob (eq y x) fun b => ob (anyA eq x r) fun c => some (b || c)

noncomputable def isNone (v : AV) : Option Bool := by
  cases v with
  | none => exact some true
  | fn _ => exact none
  | cls _ => exact none
  | bi _ => exact none
  | scr => exact none
  | _ => exact some false

noncomputable def hasO (F : Facts) (σ : St) (a : AV) (o : AO) : Option Bool := by
  cases o with
  | tuple vs => exact anyA (eqA F σ 1) a vs
  | list vs => exact anyA (eqA F σ 1) a vs
  | idict es => exact onInt a fun e => onCst e fun i => some (es.lookup i).isSome
  | _ => exact none
noncomputable def hasA (F : Facts) (σ : St) (a b : AV) : Option Bool := onOwn b fun j => ob (σ.obj j) fun o => hasO F σ a o

noncomputable def cmpA (F : Facts) (σ : St) (op : COp) (a b : AV) : Option Bool := match op with
  | .is => onNone b (isNone a)
  | .isNot => onNone b ((isNone a).map (!·))
  | .lt => onInt a fun x => onInt b fun y => askLt F x y
  | .gt => onInt a fun x => onInt b fun y => askLt F y x
  | .le => onInt a fun x => onInt b fun y => (askLt F y x).map (!·)
  | .ge => onInt a fun x => onInt b fun y => (askLt F x y).map (!·)
  | .eq => eqA F σ 5 a b
  | .ne => (eqA F σ 5 a b).map (!·)
  | .in_ => hasA F σ a b

/-- a fact that says which number it is -/
noncomputable def saysN (e : SI) (p : SC × Bool) : Option Nat := gd p.2 (match p.1 with
  | .eq a b => gd (decide (a = e)) (onCst b fun i => onNat i some)
  | .lt _ _ => none)
noncomputable def idxOf (F : Facts) (e : SI) : Option Nat := match cst e with
  | some i => onNat i some
  | none => F.findSome? (saysN e)
noncomputable def itemO (F : Facts) (e : SI) (o : AO) : Option AV := by
  cases o with
  | list vs => exact ob (idxOf F e) fun k => gd (decide (k < 10000)) vs[k]?
  | tuple vs => exact onCst e fun i => onNat i fun k => gd (decide (k < 10000)) vs[k]?
  | idict es => exact onCst e fun k => es.lookup k
  | _ => exact none
noncomputable def getItemA (F : Facts) (σ : St) (o i : AV) : Option AV := by
  cases o with
  | own j => exact onInt i fun e => ob (σ.obj j) fun o => itemO F e o
  | scr => exact onInt i fun e => gd (decide (e = .c 0) && decide (F.lookup (.lt (.c 0) (.v 100)) = some true)) (some (.int (.v 101)))
  | _ => exact none
noncomputable def setI (k : Int) (v : AV) (es : List (Int × AV)) : List (Int × AV) :=
  if es.any (fun p => decide (p.1 = k)) then es.map (fun p => if p.1 = k then (p.1, v) else p) else es ++ [(k, v)]
noncomputable def setO' (σ : St) (j : Nat) (i : Int) (v : AV) (o : AO) : Option St := by
  cases o with
  | list vs => exact onNat i fun k => gd (decide (k < vs.length) && decide (vs.length < 10000)) (some (σ.put j (.list (vs.set k v))))
  | idict es => exact gd (decide (es.length < 900)) (some (σ.put j (.idict (setI i v es))))
  | _ => exact none

noncomputable def setItemA (σ : St) (o i v : AV) : Option St := onOwn o fun j => onInt i fun e => onCst e fun i => ob (σ.obj j) fun o => setO' σ j i v o

noncomputable def evs (E : St → X → Option (AV × St)) : List X → St → Option (List AV × St)
  | [], σ => some ([], σ)
  | e :: r, σ => bd (E σ e) fun v σ => ob (evs E r σ) fun p => some (v :: p.1, p.2)

noncomputable def bytesOf : List AV → Option (List Nat)
  | [] => some []
  | a :: r => onInt a fun e => onCst e fun i => onNat i fun i => gd (decide (i < 256)) ((bytesOf r).map (i :: ·))

/-- the empty list's syntax -/
noncomputable def isNil (x : X) : Bool := by
  cases x with
  | list xs => exact xs.isEmpty
  | _ => exact false
noncomputable def onLoc {β : Type} (x : X) (f : Nat → Option β) : Option β := by
  cases x with
  | loc y => exact f y
  | _ => exact none
/-- name.method() -/
noncomputable def onElt {β : Type} (x : X) (f : Nat → Nat → Option β) : Option β := by
  cases x with
  | meth o n as => exact gd as.isEmpty (onLoc o fun y => f y n)
  | _ => exact none
section
variable (G : Cfg) (R : Rec)

/-- an object, its dict's entries and its class -/
noncomputable def onObj {β : Type} (σ : St) (x : AV) (f : Nat → Nat → List (Nat × AV) → CCls → Option β) : Option β :=
  onOwn x fun j => ob (σ.obj j) fun o => onInst o fun C d => ob (σ.obj d) fun o => onAdict o fun fs => ob (G.cls.lookup C) fun c => f j d fs c
noncomputable def getAttrA (σ : St) (x : AV) (n : Nat) : Option (AV × St) := onObj G σ x fun _ _ fs c => match fs.lookup n with
  | some v => gd (c.gets.contains n) (some (v, σ))
  | none => ob (c.props.lookup n) fun f => R.C σ (.fn f) [x]

noncomputable def setAttrA (σ : St) (x : AV) (n : Nat) (v : AV) : Option St := onObj G σ x fun _ d fs c => gd (c.sets.contains n && decide (fs.length < 900)) (some (σ.put d (.adict (setF n v fs))))

/-- what a body gave, and the caller's names again -/
noncomputable def back (loc : List (Nat × AV)) (p : AFlow × St) : AV × St := (match p.1 with
  | .ret v => v
  | .next => .none, p.2.withLoc loc)
noncomputable def inOf (σ : St) (fd : CFn) (vs : List AV) : St := σ.withLoc (fd.ps.zip (vs ++ fd.ds.drop (fd.ds.length - (fd.ps.length - vs.length))))
noncomputable def fitsN (fd : CFn) (vs : List AV) : Bool := decide (vs.length ≤ fd.ps.length) && decide (fd.ps.length - vs.length ≤ fd.ds.length)
noncomputable def callDef (σ : St) (fd : CFn) (vs : List AV) : Option (AV × St) := gd (fitsN fd vs) (ob (R.B (inOf σ fd vs) fd.body) fun p => some (back σ.loc p))

noncomputable def lenO (o : AO) : Option Nat := by
  cases o with
  | list l => exact gd (decide (l.length < 10000)) (some l.length)
  | barr => exact some 0
  | _ => exact none
noncomputable def lenA (σ : St) (v : AV) : Option (AV × St) := by
  cases v with
  | bytes b => exact gd (decide (b.length < 10000)) (some (.int (.c b.length), σ))
  | own j => exact ob (σ.obj j) fun o => ob (lenO o) fun k => some (.int (.c k), σ)
  | scr => exact some (.int (.v 100), σ)
  | _ => exact none
noncomputable def maxS (x y : SI) : SI := match cst x, cst y with
  | some i, some j => .c (if i < j then j else i)
  | _, _ => .max x y
noncomputable def bytesA (σ : St) (v : AV) : Option (AV × St) := by
  cases v with
  | bytes b => exact some (.bytes b, σ)
  | own j => exact σ.list j fun l => gd (decide (l.length < 10000)) (ob (bytesOf l) fun b => some (.bytes b, σ))
  | _ => exact none
noncomputable def callBi (b : Bi) (vs : List AV) (σ : St) : Option (AV × St) := match b with
  | .len => on1 vs fun v => lenA σ v
  | .max => on2 vs fun a b => onInt a fun x => onInt b fun y => some (.int (maxS x y), σ)
  | .min => on2 vs fun a b => onInt a fun x => onInt b fun y => ob (askLt G.F y x) fun r => some (.int (cond r y x), σ)
  | .int => on1 vs fun v => onBool v fun b => some (.int (.c (cond b 1 0)), σ)
  | .bytes => on1 vs fun v => bytesA σ v
  | .bytearray => none

/-- a new object's state, ahead of its __init__ -/
noncomputable def born (σ : St) (a : Nat) : St := (σ.new (.adict [])).new (.inst a σ.next)
noncomputable def ctOf (a : Nat) (vs : List AV) : Option (Nat × List AV × AV) := G.CT.find? (fun t => t.1 == a && decide (t.2.1 = vs))
noncomputable def callA (σ : St) (f : AV) (vs : List AV) : Option (AV × St) := by
  cases f with
  | fn a => exact match ctOf G a vs with
    | some t => some (t.2.2, σ)
    | none => ob (G.fns.lookup a) fun fd => callDef R σ fd vs
  | cls a => exact ob (G.cls.lookup a) fun c => bd (R.C (born σ a) (.fn c.init) (.own (σ.next + 1) :: vs)) fun v σ' => onNone v (some (.own (σ.next + 1), σ'))
  | bi b => exact callBi G b vs σ
  | _ => exact none

inductive MK where
  | fn (f : Nat) | append | remove | pop
noncomputable def methOf (σ : St) (o : AV) (n : Nat) : Option Nat := onObj G σ o fun _ _ fs c => ob (c.meths.lookup n) fun f => gd (fs.lookup n).isNone (some f)
noncomputable def methO (n : Nat) (f : Option MK) (o : AO) : Option MK := by
  cases o with
  | list _ => exact cond (decide (n = 108239373365093)) (some .append) (gd (decide (n = 126883776722790)) (some .remove))
  | idict _ => exact gd (decide (n = 7434353)) (some .pop)
  | _ => exact f
noncomputable def getMethA (σ : St) (o : AV) (n : Nat) : Option MK := onOwn o fun j => ob (σ.obj j) fun x => methO n ((methOf G σ o n).map .fn) x
noncomputable def runMeth (σ : St) (k : MK) (o : AV) (vs : List AV) : Option (AV × St) := match k with
  | .fn f => R.C σ (.fn f) (o :: vs)
  | .append => onOwn o fun j => on1 vs fun v => σ.list j fun l => gd (decide (l.length < 10000)) (some (.none, σ.put j (.list (l ++ [v]))))
  | .remove => onOwn o fun j => on1 vs fun v => onInt v fun e => onCst e fun i => σ.list j fun l => ob (findI i l) fun k => gd (decide (l.length < 10000) && l.all isC) (some (.none, σ.put j (.list (l.eraseIdx k))))
  | .pop => onOwn o fun j => on1 vs fun v => onInt v fun e => onCst e fun k => ob (σ.obj j) fun o => onIdict o fun es => ob (es.lookup k) fun v => gd (decide (es.length < 900)) (some (v, σ.put j (.idict (es.filter (fun p => decide (p.1 ≠ k))))))

noncomputable def goC (src : Nat → St → Option (Option AV)) (stepF : AV → St → Option (AV × St)) : Nat → Nat → List AV → St → Option (List AV × St)
  | 0, i, acc, σ => ob (src i σ) fun u => gd u.isNone (some (acc, σ))
  | r + 1, i, acc, σ => ob (src i σ) fun u => ob u fun u => bd (stepF u σ) fun v σ => goC src stepF r (i + 1) (acc ++ [v]) σ
noncomputable def srcR (k : Nat) (i : Nat) (_ : St) : Option (Option AV) := if i < k then some (some (.int (.c (i : Int)))) else some none
noncomputable def stepR (_ : AV) (σ : St) : Option (AV × St) := some (.own σ.next, σ.new (.list []))
noncomputable def srcL (j : Nat) (i : Nat) (σ : St) : Option (Option AV) := σ.list j fun us => some us[i]?
noncomputable def stepM (n : Nat) (u : AV) (σ : St) : Option (AV × St) := ob (methOf G σ u n) fun f => R.C σ (.fn f) [u]

noncomputable def evalA (σ : St) (x : X) : Option (AV × St) := match x with
  | .any => none
  | .none => some (.none, σ)
  | .bool b => some (.bool b, σ)
  | .int i => some (.int (.c i), σ)
  | .str k => some (.str k, σ)
  | .bytes b => some (.bytes b, σ)
  | .loc n => ob (σ.loc.lookup n) fun v => some (v, σ)
  | .glob v => some (v, σ)
  | .bin op l r => bd (R.E σ l) fun a σ => bd (R.E σ r) fun b σ => binOp op a b σ
  | .not x => bd (R.E σ x) fun v σ => onBool v fun b => some (.bool !b, σ)
  | .neg x => bd (R.E σ x) fun v σ => onInt v fun e => onCst e fun i => some (.int (.c (-i)), σ)
  | .and x y => bd (R.E σ x) fun v σ => onBool v fun b => cond b (R.E σ y) (some (.bool false, σ))
  | .and3 x y z => bd (R.E σ x) fun v σ => onBool v fun b => cond b (bd (R.E σ y) fun v σ => onBool v fun b => cond b (R.E σ z) (some (.bool false, σ))) (some (.bool false, σ))
  | .or x y => bd (R.E σ x) fun v σ => onBool v fun b => cond b (some (.bool true, σ)) (R.E σ y)
  | .ite t a b => bd (R.E σ t) fun v σ => onBool v fun c => cond c (R.E σ a) (R.E σ b)
  | .cmp op l r => bd (R.E σ l) fun a σ => bd (R.E σ r) fun b σ => ob (cmpA G.F σ op a b) fun c => some (.bool c, σ)
  | .cmp2 op op' l m r => bd (R.E σ l) fun a σ => bd (R.E σ m) fun b σ => ob (cmpA G.F σ op a b) fun c => cond c (bd (R.E σ r) fun c σ => ob (cmpA G.F σ op' b c) fun d => some (.bool d, σ)) (some (.bool false, σ))
  | .attr o n => bd (R.E σ o) fun v σ => getAttrA G R σ v n
  | .sub o i => bd (R.E σ o) fun v σ => bd (R.E σ i) fun k σ => ob (getItemA G.F σ v k) fun r => some (r, σ)
  | .sliceFrom o lo => bd (R.E σ o) fun v σ => bd (R.E σ lo) fun k σ => onByt v fun b => gd b.isEmpty (onInt k fun e => onCst e fun i => onNat i fun _ => some (.bytes [], σ))
  | .call f args => bd (R.E σ f) fun fv σ => ob (evs R.E args σ) fun p => R.C p.2 fv p.1
  | .meth o n args => bd (R.E σ o) fun ov σ => ob (getMethA G σ ov n) fun k => ob (evs R.E args σ) fun p => runMeth R p.2 k ov p.1
  | .list xs => ob (evs R.E xs σ) fun p => gd (decide (p.1.length < 10000)) (some (.own p.2.next, p.2.new (.list p.1)))
  | .tup xs => ob (evs R.E xs σ) fun p => gd (decide (p.1.length < 10000)) (some (.own p.2.next, p.2.new (.tuple p.1)))
  | .dict0 => some (.own σ.next, σ.new (.idict []))
  | .compR elt _ n => gd (isNil elt) (bd (R.E σ n) fun v σ => onInt v fun e => onCst e fun i => onNat i fun k => gd (decide (k < 10000)) (ob (goC (srcR k) stepR k 0 [] σ) fun p => some (.own p.2.next, p.2.new (.list p.1))))
noncomputable def setNames : List Nat → List AV → St → Option St
  | [], vs, σ => gd vs.isEmpty (some σ)
  | n :: ns, vs, σ => match vs with
    | v :: vs => setNames ns vs (σ.setLoc n v)
    | [] => none

noncomputable def assignA (σ : St) (v : AV) (t : T) : Option St := match t with
  | .any => none
  | .loc n => some (σ.setLoc n v)
  | .attr o n => bd (R.E σ o) fun ov σ => setAttrA G σ ov n v
  | .item o i => bd (R.E σ o) fun ov σ => bd (R.E σ i) fun iv σ => setItemA σ ov iv v
  | .tup ns => onOwn v fun j => σ.tup j fun vs => setNames ns vs σ

/-- go on behind a body, or leave -/
noncomputable def after (f : St → Option (AFlow × St)) (p : AFlow × St) : Option (AFlow × St) := match p.1 with
  | .next => f p.2
  | .ret u => some (.ret u, p.2)
noncomputable def forT (n : Nat) (body : List S) (j : Nat) : Nat → Nat → St → Option (AFlow × St)
  | 0, i, σ => σ.tup j fun us => gd (decide (us.length = i)) (some (.next, σ))
  | r + 1, i, σ => σ.tup j fun us => ob us[i]? fun v => ob (R.B (σ.setLoc n v) body) (after (forT n body j r (i + 1)))

noncomputable def forTA (σ : St) (t : T) (body : List S) (j : Nat) (us : List AV) : Option (AFlow × St) := match t with
  | .loc n => forT R n body j us.length 0 σ
  | _ => none
noncomputable def forO (σ : St) (t : T) (body : List S) (j : Nat) (o : AO) : Option (AFlow × St) := by
  cases o with
  | tuple us => exact forTA R σ t body j us
  | list us => exact gd us.isEmpty (some (.next, σ))
  | _ => exact none
noncomputable def compL (σ : St) (k n j : Nat) : Option (AFlow × St) := σ.list j fun us => gd (decide (us.length < 10000)) (ob (goC (srcL j) (stepM G R n) us.length 0 [] σ) fun p => some (.next, (p.2.new (.list p.1)).setLoc k (.own p.2.next)))
noncomputable def execA (σ : St) (s : S) : Option (AFlow × St) := match s with
  | .any => none
  | .set t e => bd (R.E σ e) fun v σ => ob (assignA G R σ v t) fun σ => some (.next, σ)
  | .swap ks e => bd (R.E σ e) fun v σ => onOwn v fun j => σ.tup j fun vs => ob (setNames ks.reverse vs.reverse σ) fun σ => some (.next, σ)
  | .setComp k elt x it => onElt elt fun y n => gd (decide (y = x)) (bd (R.E σ it) fun v σ => onOwn v fun j => compL G R σ k n j)
  | .ret e => bd (R.E σ e) fun v σ => some (.ret v, σ)
  | .ret0 => some (.ret .none, σ)
  | .expr e => bd (R.E σ e) fun _ σ => some (.next, σ)
  | .ite t a b => bd (R.E σ t) fun v σ => onBool v fun c => cond c (R.B σ a) (R.B σ b)
  | .while0 t => bd (R.E σ t) fun v σ => onBool v fun c => cond c none (some (.next, σ))
  | .forR _ it _ => bd (R.E σ it) fun v σ => onInt v fun e => onCst e fun i => onNat i fun k => gd (decide (k = 0)) (some (.next, σ))
  | .forL t it body => bd (R.E σ it) fun v σ => onOwn v fun j => ob (σ.obj j) fun o => forO R σ t body j o
end
section
variable (G : Cfg) (R : Rec)
noncomputable def blockA : List S → St → Option (AFlow × St)
  | [], σ => some (.next, σ)
  | s :: r, σ => ob (execA G R σ s) (after (blockA r))
end

noncomputable def recs (G : Cfg) : Nat → Rec
  | 0 => ⟨fun _ _ => none, fun _ _ => none, fun _ _ _ => none⟩
  | n + 1 => let R := recs G n; ⟨fun σ e => evalA G R σ e, fun σ b => blockA G R b σ, fun σ f vs => callA G R σ f vs⟩

/-! mode C: what may make a bytearray; all else is run as above -/
structure RecC where
  B : St → List S → Option (AFlow × St)
  C : St → AV → List AV → Option (AV × St)
section
variable (G : Cfg) (R : Rec) (RC : RecC)
noncomputable def evalC (σ : St) (x : X) : Option (AV × St) := match x with
  | .call f args => bd (R.E σ f) fun fv σ => ob (evs R.E args σ) fun p => RC.C p.2 fv p.1
  | x => R.E σ x
noncomputable def callDefC (σ : St) (fd : CFn) (vs : List AV) : Option (AV × St) := gd (fitsN fd vs) (ob (RC.B (inOf σ fd vs) fd.body) fun p => some (back σ.loc p))
noncomputable def isBA (b : Bi) : Bool := by
  cases b with
  | bytearray => exact true
  | _ => exact false
noncomputable def callC (σ : St) (f : AV) (vs : List AV) : Option (AV × St) := match f with
  | .fn a => match ctOf G a vs with
    | some t => some (t.2.2, σ)
    | none => ob (G.fns.lookup a) fun fd => callDefC RC σ fd vs
  | .cls a => ob (G.cls.lookup a) fun c => bd (RC.C (born σ a) (.fn c.init) (.own (σ.next + 1) :: vs)) fun v σ' => onNone v (some (.own (σ.next + 1), σ'))
  | .bi b => cond (isBA b) (gd vs.isEmpty (some (.own σ.next, σ.new .barr))) (R.C σ (.bi b) vs)
  | f => R.C σ f vs
noncomputable def forLC (n : Nat) (body : List S) (j : Nat) : Nat → Nat → St → Option (AFlow × St)
  | 0, i, σ => σ.list j fun us => gd (decide (us.length = i)) (some (.next, σ))
  | r + 1, i, σ => σ.list j fun us => ob us[i]? fun v => ob (RC.B (σ.setLoc n v) body) (after (forLC n body j r (i + 1)))
noncomputable def iteC (σ : St) (t : X) (a b : List S) : Option (AFlow × St) := match t with
  | .cmp op x y => bd (evalC R RC σ x) fun u σ => bd (evalC R RC σ y) fun v σ => ob (cmpA G.F σ op u v) fun c => cond c (RC.B σ a) (RC.B σ b)
  | t => bd (R.E σ t) fun v σ => onBool v fun c => cond c (RC.B σ a) (RC.B σ b)
noncomputable def forOC (σ : St) (n : Nat) (body : List S) (j : Nat) (o : AO) : Option (AFlow × St) := by
  cases o with
  | list us => exact forLC RC n body j us.length 0 σ
  | tuple us => exact forT R n body j us.length 0 σ
  | _ => exact none
noncomputable def tLoc (t : T) : Option Nat := by
  cases t with
  | loc n => exact some n
  | _ => exact none
noncomputable def execC (σ : St) (s : S) : Option (AFlow × St) := match s with
  | .set t e => bd (evalC R RC σ e) fun v σ => ob (assignA G R σ v t) fun σ => some (.next, σ)
  | .ret e => bd (evalC R RC σ e) fun v σ => some (.ret v, σ)
  | .expr e => bd (evalC R RC σ e) fun _ σ => some (.next, σ)
  | .ite t a b => iteC G R RC σ t a b
  | .setComp k elt x it => onElt elt fun y n => gd (decide (y = x)) (bd (evalC R RC σ it) fun v σ => onOwn v fun j => compL G R σ k n j)
  | .forL t it body => match tLoc t with
    | some n => bd (R.E σ it) fun v σ => onOwn v fun j => ob (σ.obj j) fun o => forOC R RC σ n body j o
    | none => execA G R σ (.forL t it body)
  | s => execA G R σ s
noncomputable def blockC : List S → St → Option (AFlow × St)
  | [], σ => some (.next, σ)
  | s :: r, σ => ob (execC G R RC σ s) (after (blockC r))
end
noncomputable def recsC (G : Cfg) : Nat → RecC
  | 0 => ⟨fun _ _ => none, fun _ _ _ => none⟩
  | n + 1 => let R := recs G n; let RC := recsC G n; ⟨fun σ b => blockC G R RC b σ, fun σ f vs => callC G R RC σ f vs⟩
end Mine

-- D2
namespace Mine
open PySem PySem.W PySem.Calls PyProof.Rows

/-! ## plain lemmas -/
inductive F2 {α β : Type} (R : α → β → Prop) : List α → List β → Prop
  | nil : F2 R [] []
  | cons {a b as bs} : R a b → F2 R as bs → F2 R (a :: as) (b :: bs)
section
variable {α β : Type} {R R' : α → β → Prop}
theorem F2.imp (h : ∀ a b, R a b → R' a b) {as : List α} {bs : List β} (q : F2 R as bs) : F2 R' as bs := by
  induction q with
  | nil => exact .nil
  | cons r _ ih => exact .cons (h _ _ r) ih
theorem F2.len {as : List α} {bs : List β} (q : F2 R as bs) : as.length = bs.length := by
  induction q with
  | nil => rfl
  | cons _ _ ih => exact congrArg Nat.succ ih
theorem F2.append {as as' : List α} {bs bs' : List β} (q : F2 R as bs) (h : F2 R as' bs') : F2 R (as ++ as') (bs ++ bs') := by
  induction q with
  | nil => exact h
  | cons r _ ih => exact .cons r ih
theorem F2.get {as : List α} {bs : List β} (q : F2 R as bs) : ∀ {k : Nat} {a : α}, as[k]? = some a → ∃ b, bs[k]? = some b ∧ R a b := by
  induction q with
  | nil => exact fun h => nomatch h
  | @cons x y _ _ r _ ih =>
    intro k a h
    cases k with
    | zero => exact ⟨y, rfl, Option.some.inj h ▸ r⟩
    | succ k => exact ih h
theorem F2.set {as : List α} {bs : List β} {a : α} {b : β} (h : R a b) (q : F2 R as bs) : ∀ {k : Nat}, F2 R (as.set k a) (bs.set k b) := by
  induction q with
  | nil => exact .nil
  | cons r rs ih =>
    intro k
    cases k with
    | zero => exact .cons h rs
    | succ k => exact .cons r ih
theorem F2.erase {as : List α} {bs : List β} (q : F2 R as bs) : ∀ {k : Nat}, F2 R (as.eraseIdx k) (bs.eraseIdx k) := by
  induction q with
  | nil => exact .nil
  | cons r rs ih =>
    intro k
    cases k with
    | zero => exact rs
    | succ k => exact .cons r ih
theorem F2.drop {as : List α} {bs : List β} (q : F2 R as bs) : ∀ {k : Nat}, F2 R (as.drop k) (bs.drop k) := by
  induction q with
  | nil => intro k; cases k <;> exact .nil
  | cons r rs ih =>
    intro k
    cases k with
    | zero => exact .cons r rs
    | succ k => exact ih
end

/-! names as numbers: no two names have one number -/
theorem encL_snoc : ∀ {l : List Nat} {c a k : Nat}, encL (l ++ [c]) a = some k → c < 255 ∧ ∃ k', encL l a = some k' ∧ k = k' * 256 + (c + 1)
  | [], c, a, k, h => by
    simp only [List.nil_append, encL] at h
    split at h
    · cases h; exact ⟨‹_›, a, rfl, rfl⟩
    · cases h
  | x :: l, c, a, k, h => by
    simp only [List.cons_append, encL] at h ⊢
    split at h
    · rename_i q; rw [if_pos q]; exact encL_snoc h
    · cases h
theorem encL_inj : ∀ {n : Nat} {l l' : List Nat} {k : Nat}, l.length ≤ n → encL l 0 = some k → encL l' 0 = some k → l = l'
  | n, l, l', k, hn, h, h' => by
    rcases List.eq_nil_or_concat l with rfl | ⟨i, c, rfl⟩
    · rcases List.eq_nil_or_concat l' with rfl | ⟨i', c', rfl⟩
      · rfl
      · rw [List.concat_eq_append] at h'
        obtain ⟨_, k', _, e⟩ := encL_snoc h'
        simp [encL] at h
        omega
    · rw [List.concat_eq_append] at *
      obtain ⟨hc, k₁, e₁, q₁⟩ := encL_snoc h
      rcases List.eq_nil_or_concat l' with rfl | ⟨i', c', rfl⟩
      · simp [encL] at h'; omega
      · rw [List.concat_eq_append] at *
        obtain ⟨hc', k₂, e₂, q₂⟩ := encL_snoc h'
        have : k₁ = k₂ ∧ c = c' := by omega
        obtain ⟨rfl, rfl⟩ := this
        cases n with
        | zero => simp at hn
        | succ n =>
          have := encL_inj (n := n) (by simp at hn; omega) e₁ e₂
          rw [this]
theorem enc_inj {s s' : Str} {k : Nat} (h : enc s = some k) (h' : enc s' = some k) : s = s' := by
  have := encL_inj (Nat.le_refl _) h h'
  cases s; cases s'
  simp only [Str.mk.injEq] at *
  exact Array.ext' this


theorem lkc {α κ : Type} [BEq κ] [LawfulBEq κ] {k : κ} {p : κ × α} {l : List (κ × α)} {x : α} {P : Prop} (h : (p :: l).lookup k = some x) (h1 : k = p.1 → x = p.2 → P) (h2 : k ≠ p.1 → l.lookup k = some x → P) : P := by
  obtain ⟨a, b⟩ := p
  by_cases q : k = a
  · subst q
    rw [List.lookup_cons, beq_self_eq_true] at h
    exact h1 rfl (Option.some.inj h).symm
  · rw [List.lookup_cons, beq_false_of_ne q] at h
    exact h2 q h

/-! ## the ways to go on, turned round -/
section
variable {β : Type} {r : β}
theorem bd_inv {x : Option (AV × St)} {f : AV → St → Option β} {P : Prop} (h : bd x f = some r) (k : ∀ a s, x = some (a, s) → f a s = some r → P) : P := by
  cases x with
  | none => cases h
  | some p => exact k p.1 p.2 rfl h
theorem ob_inv {α : Type} {x : Option α} {f : α → Option β} {P : Prop} (h : ob x f = some r) (k : ∀ a, x = some a → f a = some r → P) : P := by
  cases x with
  | none => cases h
  | some p => exact k p rfl h
theorem gl {b : Bool} {x : Option β} (h : gd b x = some r) : b = true := by
  cases b with
  | false => cases h
  | true => rfl
theorem gr {b : Bool} {x : Option β} (h : gd b x = some r) : x = some r := by
  cases b with
  | false => cases h
  | true => exact h
theorem so {a : β} (h : some a = some r) : a = r := Option.some.inj h
theorem nso {P : Prop} (h : none = some r) : P := nomatch h
@[elab_as_elim] theorem onCst_inv {e : SI} {f : Int → Option β} {P : SI → Prop} (h : onCst e f = some r) (k : ∀ i, f i = some r → P (.c i)) : P e := by
  cases e <;> first | exact k _ h | exact nso h
@[elab_as_elim] theorem onNat_inv {i : Int} {f : Nat → Option β} {P : Int → Prop} (h : onNat i f = some r) (k : ∀ n, f n = some r → P (.ofNat n)) : P i := by
  cases i with
  | ofNat n => exact k n h
  | negSucc n => exact nso h
theorem cst_eq {e : SI} {i : Int} (h : cst e = some i) : e = .c i := onCst_inv (P := fun e => e = .c i) h fun j q => by rw [so q]
theorem list_inv {σ : St} {j : Nat} {f : List AV → Option β} {P : Prop} (h : σ.list j f = some r) (k : ∀ l, σ.obj j = some (.list l) → f l = some r → P) : P :=
  ob_inv h fun o e h => by cases o <;> first | exact k _ e h | exact nso h
theorem tup_inv {σ : St} {j : Nat} {f : List AV → Option β} {P : Prop} (h : σ.tup j f = some r) (k : ∀ l, σ.obj j = some (.tuple l) → f l = some r → P) : P :=
  ob_inv h fun o e h => by cases o <;> first | exact k _ e h | exact nso h
theorem isEmpty_eq {α : Type} {l : List α} (h : l.isEmpty = true) : l = [] := by
  cases l with
  | nil => rfl
  | cons => cases h
end

/-! ## the relation between the two machines -/
structure Cx where
  prog : Program
  w : World
  K : Frag
  p : Program
  loose : List Str
  mean : ExcName → Option Value
  mg : Str → Option Value
  mb : Str → Option Value
  V : Nat → Int
  G : Cfg

noncomputable def biV : Bi → Value
  | .len => .builtin "len" | .max => .builtin "max" | .min => .builtin "min"
  | .int => .type "int" | .bytes => .type "bytes" | .bytearray => .type "bytearray"

section
variable (V : Nat → Int) (ρ : Nat → Addr) (n : Nat)
noncomputable def VR : AV → Value → Prop
  | .none, v => v = .none
  | .bool b, v => v = .bool b
  | .int e, v => ∃ t, v = .int (e.den V) t
  | .str k, v => ∃ s t, v = .str s t ∧ enc s = some k
  | .bytes b, v => ∃ a t, v = .bytes a t ∧ a.toList.map UInt8.toNat = b
  | .own j, v => j < n ∧ v = .ref (ρ j)
  | .fn a, v => v = .ref a
  | .cls a, v => v = .ref a
  | .bi b, v => v = biV b
  | .scr, v => v = .ref (V 102).toNat

noncomputable def FR (p : Nat × AV) (e : DictEntry) : Prop := (∃ s t, e.key = .str s t ∧ enc s = some p.1) ∧ VR V ρ n p.2 e.val
noncomputable def IR (p : Int × AV) (e : Int × Value) : Prop := p.1 = e.1 ∧ VR V ρ n p.2 e.2

abbrev tupOf (its : Array Value) : Obj := { cls := .type "tuple", data := .seq its }
abbrev barrOf : Obj := { cls := .type "bytearray", data := .bytearray #[] }

noncomputable def OR (prog : Program) (w : World) : AO → Obj → Prop
  | .inst C d, o => d < n ∧ o = instObj C (ρ d)
  | .adict fs, o => ∃ es k, o = dictOf es k ∧ F2 (FR V ρ n) fs es
  | .list vs, o => ∃ (its : List Value) (k : Nat), o = listOf its.toArray k ∧ F2 (VR V ρ n) vs its
  | .tuple vs, o => ∃ its : List Value, o = tupOf its.toArray ∧ F2 (VR V ρ n) vs its
  | .idict es, o => o.isFreed = false ∧ ∃ kvs, Obj.IsDictOf (intKind prog w) o kvs ∧ F2 (IR V ρ n) es kvs
  | .barr, o => o = barrOf

noncomputable def LocR (loc : List (Nat × AV)) (m : Str → Option Value) : Prop :=
  ∀ s k av, enc s = some k → loc.lookup k = some av → ∃ v, m s = some v ∧ VR V ρ n av v

noncomputable def isI : AO → Bool
  | .idict _ => true
  | _ => false
noncomputable def ObjP (prog : Program) (w : World) (p : Nat × AO) (q : Addr × Obj) : Prop := p.1 < n ∧ q.1 = ρ p.1 ∧ OR V ρ n prog w p.2 q.2 ∧ (isI p.2 = true → (q.1 == sysModules) = false)
end

noncomputable def Ext (ρ : Nat → Addr) (n : Nat) (ρ' : Nat → Addr) (n' : Nat) : Prop := n ≤ n' ∧ ∀ j, j < n → ρ' j = ρ j
theorem Ext.refl {ρ : Nat → Addr} {n : Nat} : Ext ρ n ρ n := ⟨Nat.le_refl _, fun _ _ => rfl⟩
theorem Ext.trans {ρ ρ' ρ'' : Nat → Addr} {n n' n'' : Nat} (h : Ext ρ n ρ' n') (h' : Ext ρ' n' ρ'' n'') : Ext ρ n ρ'' n'' :=
  ⟨Nat.le_trans h.1 h'.1, fun j q => (h'.2 j (Nat.lt_of_lt_of_le q h.1)).trans (h.2 j q)⟩

section
variable {V : Nat → Int} {ρ ρ' : Nat → Addr} {n n' : Nat} {prog : Program} {w : World}
theorem VR.mono (e : Ext ρ n ρ' n') {av : AV} {v : Value} (h : VR V ρ n av v) : VR V ρ' n' av v := by
  cases av <;> try exact h
  obtain ⟨a, b⟩ := h
  exact ⟨Nat.lt_of_lt_of_le a e.1, by rw [e.2 _ a]; exact b⟩
theorem VRs.mono (e : Ext ρ n ρ' n') {avs : List AV} {vs : List Value} (h : F2 (VR V ρ n) avs vs) : F2 (VR V ρ' n') avs vs := h.imp fun _ _ => VR.mono e
theorem OR.mono (e : Ext ρ n ρ' n') {ao : AO} {o : Obj} (h : OR V ρ n prog w ao o) : OR V ρ' n' prog w ao o := by
  cases ao with
  | inst C d => obtain ⟨a, b⟩ := h; exact ⟨Nat.lt_of_lt_of_le a e.1, by rw [e.2 _ a]; exact b⟩
  | adict fs => obtain ⟨es, k, a, b⟩ := h; exact ⟨es, k, a, b.imp fun _ _ q => ⟨q.1, q.2.mono e⟩⟩
  | list vs => obtain ⟨es, k, a, b⟩ := h; exact ⟨es, k, a, VRs.mono e b⟩
  | tuple vs => obtain ⟨es, a, b⟩ := h; exact ⟨es, a, VRs.mono e b⟩
  | idict es => obtain ⟨f, kvs, a, b⟩ := h; exact ⟨f, kvs, a, b.imp fun _ _ q => ⟨q.1, q.2.mono e⟩⟩
  | barr => exact h
theorem LocR.mono (e : Ext ρ n ρ' n') {loc : List (Nat × AV)} {m : Str → Option Value} (h : LocR V ρ n loc m) : LocR V ρ' n' loc m :=
  fun s k av a b => let ⟨v, c, d⟩ := h s k av a b; ⟨v, c, d.mono e⟩
theorem ObjP.mono (e : Ext ρ n ρ' n') {p : Nat × AO} {q : Addr × Obj} (h : ObjP V ρ n prog w p q) : ObjP V ρ' n' prog w p q :=
  ⟨Nat.lt_of_lt_of_le h.1 e.1, by rw [e.2 _ h.1]; exact h.2.1, h.2.2.1.mono e, h.2.2.2⟩
theorem OR.live {ao : AO} {o : Obj} (h : OR V ρ n prog w ao o) : o.isFreed = false := by
  cases ao with
  | inst C d => obtain ⟨_, rfl⟩ := h; rfl
  | adict fs => obtain ⟨es, k, rfl, _⟩ := h; rfl
  | list vs => obtain ⟨es, k, rfl, _⟩ := h; rfl
  | tuple vs => obtain ⟨es, rfl, _⟩ := h; rfl
  | idict es => exact h.1
  | barr => cases h; rfl


/-! ### a form, and the value that it stands for -/
section
variable {β : Type} {r : β} {v : AV} {cv : Value} {vs : List AV} {cvs : List Value}
@[elab_as_elim] theorem int_inv {f : SI → Option β} {P : Value → Prop} (h : onInt v f = some r) (hv : VR V ρ n v cv) (k : ∀ e t, f e = some r → P (.int (e.den V) t)) : P cv := by
  cases v <;> first | exact nso h | (obtain ⟨t, rfl⟩ := hv; exact k _ t h)
@[elab_as_elim] theorem bool_inv {f : Bool → Option β} {P : Value → Prop} (h : onBool v f = some r) (hv : VR V ρ n v cv) (k : ∀ b, f b = some r → P (.bool b)) : P cv := by
  cases v <;> first | exact nso h | (cases hv; exact k _ h)
@[elab_as_elim] theorem byt_inv {f : List Nat → Option β} {P : Value → Prop} (h : onByt v f = some r) (hv : VR V ρ n v cv) (k : ∀ a t, f (a.toList.map UInt8.toNat) = some r → P (.bytes a t)) : P cv := by
  cases v <;> first | exact nso h | (obtain ⟨a, t, rfl, rfl⟩ := hv; exact k _ t h)
@[elab_as_elim] theorem own_inv {f : Nat → Option β} {P : Value → Prop} (h : onOwn v f = some r) (hv : VR V ρ n v cv) (k : ∀ j, v = .own j → j < n → f j = some r → P (.ref (ρ j))) : P cv := by
  cases v <;> first | exact nso h | (obtain ⟨q, rfl⟩ := hv; exact k _ rfl q h)
@[elab_as_elim] theorem none_inv {x : Option β} {P : Value → Prop} (h : onNone v x = some r) (hv : VR V ρ n v cv) (k : x = some r → P .none) : P cv := by
  cases v <;> first | exact nso h | (cases hv; exact k h)
@[elab_as_elim] theorem on1_inv {R : AV → Value → Prop} {f : AV → Option β} {P : List Value → Prop} (h : on1 vs f = some r) (hv : F2 R vs cvs) (k : ∀ a c, vs = [a] → f a = some r → R a c → P [c]) : P cvs := by
  cases hv with
  | nil => exact nso h
  | cons q rs => cases rs with
    | nil => exact k _ _ rfl (gr h) q
    | cons => exact nso (gr (b := false) h)
@[elab_as_elim] theorem on2_inv {R : AV → Value → Prop} {f : AV → AV → Option β} {P : List Value → Prop} (h : on2 vs f = some r) (hv : F2 R vs cvs) (k : ∀ a b c d, f a b = some r → R a c → R b d → P [c, d]) : P cvs := by
  cases hv with
  | nil => exact nso h
  | cons q rs => exact on1_inv (P := fun l => P (_ :: l)) h rs fun b d _ h q' => k _ _ _ _ h q q'
theorem empty_inv (h : vs.isEmpty = true) {R : AV → Value → Prop} (hv : F2 R vs cvs) : cvs = [] := by
  cases hv with
  | nil => rfl
  | cons => cases h
end

/-- the ledger's objects, one for one -/
abbrev Objs0 (V : Nat → Int) (ρ : Nat → Addr) (n : Nat) (prog : Program) (w : World) (os : List (Nat × AO)) (news : List (Addr × Obj)) : Prop := F2 (ObjP V ρ n prog w) os news

theorem Objs0.get {os : List (Nat × AO)} {news : List (Addr × Obj)} (h : Objs0 V ρ n prog w os news) {j : Nat} {ao : AO} (e : os.lookup j = some ao) : j < n ∧ ∃ o, (ρ j, o) ∈ news ∧ OR V ρ n prog w ao o := by
  induction h with
  | nil => cases e
  | @cons p q as bs r rs ih =>
    refine lkc e (fun hj hx => ?_) fun _ e => ?_
    · subst hj hx
      exact ⟨r.1, q.2, r.2.1 ▸ .head _, r.2.2.1⟩
    · exact ⟨(ih e).1, (ih e).2.imp fun _ z => ⟨.tail _ z.1, z.2⟩⟩
theorem Objs0.lo {os : List (Nat × AO)} {news : List (Addr × Obj)} (h : Objs0 V ρ n prog w os news) {j : Nat} {ao : AO} (e : os.lookup j = some ao) (i : isI ao = true) : (ρ j == sysModules) = false := by
  induction h with
  | nil => cases e
  | @cons p q as bs r rs ih =>
    refine lkc e (fun hj hx => ?_) fun _ e => ih e
    subst hj hx
    exact r.2.1 ▸ r.2.2.2 i
theorem setO_hit {p : Nat × AO} {ao : AO} {l : List (Nat × AO)} : setO p.1 ao (p :: l) = (p.1, ao) :: l := if_pos rfl
theorem setO_miss {j : Nat} {p : Nat × AO} {ao : AO} {l : List (Nat × AO)} (h : p.1 ≠ j) : setO j ao (p :: l) = p :: setO j ao l := if_neg h
/-- what may take an object's place -/
noncomputable def UpdAt (V : Nat → Int) (ρ : Nat → Addr) (n : Nat) (prog : Program) (w : World) (X : List (Addr × Obj)) (os : List (Nat × AO)) (news : List (Addr × Obj)) (j : Nat) (ao ao' : AO) (o o' : Obj) : Prop :=
  OR V ρ n prog w ao' o' → (isI ao' = true → isI ao = true) → ∃ own, Upd (ρ j) o o' news (own ++ X) ∧ Objs0 V ρ n prog w (setO j ao' os) own ∧ (own ++ X).map (·.1) = news.map (·.1)
theorem Objs0.upd {os : List (Nat × AO)} {news : List (Addr × Obj)} (h : Objs0 V ρ n prog w os news) (nd : (news.map (·.1)).Nodup) {j : Nat} {ao : AO} (e : os.lookup j = some ao) :
    ∃ o, (ρ j, o) ∈ news ∧ OR V ρ n prog w ao o ∧ ∀ ao' o', UpdAt V ρ n prog w [] os news j ao ao' o o' := by
  induction h with
  | nil => cases e
  | @cons p q as bs r rs ih =>
    have nd' := List.nodup_cons.mp nd
    refine lkc e (fun hj hx => ?_) fun ne e => ?_
    · subst hj hx
      refine ⟨q.2, r.2.1 ▸ .head _, r.2.2.1, fun ao' o' z zi => ⟨(ρ p.1, o') :: bs, ?_, by rw [setO_hit]; exact .cons ⟨r.1, rfl, z, fun y => r.2.1 ▸ r.2.2.2 (zi y)⟩ rs, ?_⟩⟩
      · rw [List.append_nil, ← r.2.1]
        exact .head fun x hx y => nd'.1 (List.mem_map.mpr ⟨x, hx, y⟩)
      · rw [List.append_nil, ← r.2.1]; rfl
    · obtain ⟨o, m, oo, f⟩ := ih nd'.2 e
      refine ⟨o, .tail _ m, oo, fun ao' o' z zi => ?_⟩
      obtain ⟨own, u, w', k⟩ := f ao' o' z zi
      exact ⟨q :: own, .tail (fun y => nd'.1 (List.mem_map.mpr ⟨_, m, y.symm⟩)) u, by rw [setO_miss (Ne.symm ne)]; exact .cons r w', congrArg (q.1 :: ·) k⟩

theorem Objs0.push {os : List (Nat × AO)} {news : List (Addr × Obj)} (h : Objs0 V ρ n prog w os news) {ao : AO} {a : Addr} {o : Obj} (lt : ∀ p ∈ news, p.1 < a) (nd : (news.map (·.1)).Nodup)
    (z : OR V (fun j => if j = n then a else ρ j) (n + 1) prog w ao o) (zi : isI ao = true → (a == sysModules) = false) :
    Ext ρ n (fun j => if j = n then a else ρ j) (n + 1) ∧ Objs0 V (fun j => if j = n then a else ρ j) (n + 1) prog w ((n, ao) :: os) ((a, o) :: news) ∧ (((a, o) :: news).map (·.1)).Nodup := by
  have e : Ext ρ n (fun j => if j = n then a else ρ j) (n + 1) := ⟨Nat.le_succ _, fun j q => if_neg (Nat.ne_of_lt q)⟩
  refine ⟨e, .cons ⟨Nat.lt_succ_self _, by simp, z, zi⟩ (h.imp fun _ _ => ObjP.mono e), ?_⟩
  rw [List.map_cons, List.nodup_cons]
  refine ⟨fun hm => ?_, nd⟩
  obtain ⟨p, hp, q⟩ := List.mem_map.mp hm
  exact Nat.lt_irrefl _ (q ▸ lt p hp)

/-- the ledger: the objects one for one, and behind them what is only kept -/
noncomputable def Objs (X : List (Addr × Obj)) (V : Nat → Int) (ρ : Nat → Addr) (n : Nat) (prog : Program) (w : World) (os : List (Nat × AO)) (news : List (Addr × Obj)) : Prop :=
  ∃ own, news = own ++ X ∧ Objs0 V ρ n prog w os own
section
variable {X : List (Addr × Obj)}
theorem upd_app {d : Addr} {o o' : Obj} {l l' : List (Addr × Obj)} (u : Upd d o o' l l') (hx : ∀ p ∈ X, p.1 ≠ d) : Upd d o o' (l ++ X) (l' ++ X) := by
  induction u with
  | head h => exact .head fun p hp => (List.mem_append.mp hp).elim (h p) (hx p)
  | tail h _ ih => exact .tail h ih
theorem Objs.get {os : List (Nat × AO)} {news : List (Addr × Obj)} (h : Objs X V ρ n prog w os news) {j : Nat} {ao : AO} (e : os.lookup j = some ao) : j < n ∧ ∃ o, (ρ j, o) ∈ news ∧ OR V ρ n prog w ao o := by
  obtain ⟨own, rfl, h⟩ := h
  obtain ⟨a, o, b, c⟩ := h.get e
  exact ⟨a, o, List.mem_append_left _ b, c⟩
theorem Objs.lo {os : List (Nat × AO)} {news : List (Addr × Obj)} (h : Objs X V ρ n prog w os news) {j : Nat} {ao : AO} (e : os.lookup j = some ao) (i : isI ao = true) : (ρ j == sysModules) = false := by
  obtain ⟨own, rfl, h⟩ := h
  exact h.lo e i
theorem nd_left {own : List (Addr × Obj)} (nd : ((own ++ X).map (·.1)).Nodup) : (own.map (·.1)).Nodup := by
  rw [List.map_append, List.nodup_append] at nd
  exact nd.1
theorem nd_right {own : List (Addr × Obj)} {p q : Addr × Obj} (nd : ((own ++ X).map (·.1)).Nodup) (hp : p ∈ own) (hq : q ∈ X) : q.1 ≠ p.1 := by
  rw [List.map_append, List.nodup_append] at nd
  exact fun e => nd.2.2 p.1 (List.mem_map_of_mem hp) q.1 (List.mem_map_of_mem hq) e.symm
theorem Objs.upd {os : List (Nat × AO)} {news : List (Addr × Obj)} (h : Objs X V ρ n prog w os news) (nd : (news.map (·.1)).Nodup) {j : Nat} {ao : AO} (e : os.lookup j = some ao) :
    ∃ o, (ρ j, o) ∈ news ∧ OR V ρ n prog w ao o ∧ ∀ ao' o', UpdAt V ρ n prog w X os news j ao ao' o o' := by
  obtain ⟨own, rfl, h⟩ := h
  obtain ⟨o, a, b, f⟩ := h.upd (nd_left nd) e
  refine ⟨o, List.mem_append_left _ a, b, fun ao' o' z zi => ?_⟩
  obtain ⟨own', u, c, d⟩ := f ao' o' z zi
  rw [List.append_nil] at u d
  exact ⟨own', upd_app u fun p hp => nd_right nd a hp, c, by rw [List.map_append, List.map_append, d]⟩
theorem Objs.push {os : List (Nat × AO)} {news : List (Addr × Obj)} (h : Objs X V ρ n prog w os news) {ao : AO} {a : Addr} {o : Obj} (lt : ∀ p ∈ news, p.1 < a) (nd : (news.map (·.1)).Nodup)
    (z : OR V (fun j => if j = n then a else ρ j) (n + 1) prog w ao o) (zi : isI ao = true → (a == sysModules) = false) :
    Ext ρ n (fun j => if j = n then a else ρ j) (n + 1) ∧ Objs X V (fun j => if j = n then a else ρ j) (n + 1) prog w ((n, ao) :: os) ((a, o) :: news) ∧ (((a, o) :: news).map (·.1)).Nodup := by
  obtain ⟨own, rfl, h⟩ := h
  obtain ⟨e, ob, _⟩ := h.push (ao := ao) (a := a) (o := o) (fun p hp => lt p (List.mem_append_left _ hp)) (nd_left nd) z zi
  refine ⟨e, ⟨(a, o) :: own, rfl, ob⟩, ?_⟩
  rw [List.map_cons, List.nodup_cons]
  refine ⟨fun hm => ?_, nd⟩
  obtain ⟨p, hp, q⟩ := List.mem_map.mp hm
  exact Nat.lt_irrefl _ (q ▸ lt p hp)
end
theorem lk_hit {k : Nat} {x : AV} {p : Nat × AV} {l : List (Nat × AV)} (e : k = p.1) (hx : x = p.2) : (p :: l).lookup k = some x := by
  subst e hx
  rw [List.lookup_cons, beq_self_eq_true]
theorem lk_miss {k : Nat} {x : AV} {p : Nat × AV} {l : List (Nat × AV)} (e : k ≠ p.1) (h : l.lookup k = some x) : (p :: l).lookup k = some x := by
  rw [List.lookup_cons, beq_false_of_ne e]
  exact h
theorem setF_lk {k k' : Nat} {av x : AV} {l : List (Nat × AV)} (h : (setF k av l).lookup k' = some x) : (k' = k → x = av) ∧ (k' ≠ k → l.lookup k' = some x) := by
  induction l with
  | nil => exact lkc h (fun hk hx => ⟨fun _ => hx, fun ne => absurd hk ne⟩) fun _ h => nomatch h
  | cons p r ih =>
    by_cases q : p.1 = k
    · rw [setF, if_pos q] at h
      exact lkc h (fun hk hx => ⟨fun _ => hx, fun ne => absurd hk ne⟩) fun ne h => ⟨fun e => absurd e ne, fun _ => lk_miss (fun e => ne (e.trans q)) h⟩
    · rw [setF, if_neg q] at h
      exact lkc h (fun hk hx => ⟨fun e => absurd (hk.symm.trans e) q, fun _ => lk_hit hk hx⟩) fun ne h => ⟨(ih h).1, fun z => lk_miss ne ((ih h).2 z)⟩
theorem LocR.set {loc : List (Nat × AV)} {m : Str → Option Value} (h : LocR V ρ n loc m) {x : Str} {k : Nat} {av : AV} {v : Value} (hx : enc x = some k) (hv : VR V ρ n av v) :
    LocR V ρ n (setF k av loc) (fun y => if y = x then some v else m y) := by
  intro s k' av' hs e
  by_cases q : k' = k
  · rw [(setF_lk e).1 q]
    exact ⟨v, if_pos (enc_inj (q ▸ hs) hx), hv⟩
  · obtain ⟨u, a, b⟩ := h s k' av' hs ((setF_lk e).2 q)
    exact ⟨u, (if_neg fun z : s = x => q (Option.some.inj (hs.symm.trans ((congrArg enc z).trans hx)))).trans a, b⟩
end
end Mine

-- D3
namespace Mine
open PySem PySem.W PySem.Calls PyProof.Rows

/-! ## which compact syntax stands for which syntax -/
noncomputable def opOf : BOp → Operator
  | .add => .Add | .sub => .Sub | .mul => .Mult | .mod => .Mod | .div => .FloorDiv
  | .band => .BitAnd | .bor => .BitOr | .shr => .RShift | .pow => .Pow
noncomputable def cmpOf : COp → CmpOp
  | .eq => .Eq | .ne => .NotEq | .lt => .Lt | .le => .LtE | .gt => .Gt | .ge => .GtE
  | .is => .Is | .isNot => .IsNot | .in_ => .In
noncomputable def encIs (s : Str) (k : Nat) : Bool := match enc s with
  | some j => Nat.beq j k
  | none => false
noncomputable def onVI (v : Value) (f : Int → Bool) : Bool := match v with
  | .int j _ => f j
  | _ => false
noncomputable def onVS (v : Value) (f : Str → Bool) : Bool := match v with
  | .str s _ => f s
  | _ => false
noncomputable def onVY (v : Value) (f : Array UInt8 → Bool) : Bool := match v with
  | .bytes a _ => f a
  | _ => false
noncomputable def onVR (v : Value) (f : Nat → Bool) : Bool := match v with
  | .ref a => f a
  | _ => false
noncomputable def onVB (v : Value) (f : Bool → Bool) : Bool := match v with
  | .bool a => f a
  | _ => false
noncomputable def siIs (e : SI) (j : Int) : Bool := match e with
  | .c i => decide (i = j)
  | _ => false
noncomputable def valFits (K : Frag) (x : AV) (v : Value) : Bool := match x with
  | .int e => onVI v fun j => siIs e j
  | .bool b => onVB v fun c => b == c
  | .str k => onVS v fun s => encIs s k
  | .bytes b => onVY v fun a => decide (a.toList.map UInt8.toNat = b)
  | .fn a => onVR v fun b => Nat.beq a b && fnIn K b
  | .cls a => onVR v fun b => Nat.beq a b && isClsIn K b
  | _ => false
noncomputable def biIs (n : Str) (v : AV) : Bool := match v with
  | .bi b => decide (bootBuiltins n = some (biV b)) && decide (n ≠ "__name__")
  | _ => false
theorem biIs_inv {n : Str} {v : AV} (h : biIs n v = true) : ∃ b, v = .bi b ∧ bootBuiltins n = some (biV b) ∧ n ≠ "__name__" := by
  cases v <;> first | exact (Bool.false_ne_true h).elim | exact ⟨_, rfl, of_decide_eq_true (Bool.and_eq_true_iff.mp h).1, of_decide_eq_true (Bool.and_eq_true_iff.mp h).2⟩
noncomputable def globFits (K : Frag) (n : Str) (v : AV) : Bool := match nsIn K mainGlobals n with
  | some (some u) => valFits K v u
  | some none => biIs n v
  | none => false
noncomputable def notSuper (e : Expr) : Bool := by
  cases e with
  | Name id _ => exact decide (id ≠ "super")
  | _ => exact true
noncomputable def plainBase (e : Expr) : Bool := by
  cases e with
  | Call f as ks _ => exact (notSuper f || !as.isEmpty || !ks.isEmpty)
  | _ => exact true
noncomputable def notStar (e : Expr) : Bool := by
  cases e with
  | Starred => exact false
  | _ => exact true
noncomputable def isSet (e : Expr) : Bool := by
  cases e with
  | Set => exact true
  | _ => exact false
noncomputable def isSlice (e : Expr) : Bool := by
  cases e with
  | Slice => exact true
  | _ => exact false
noncomputable def isName (e : Expr) : Bool := by
  cases e with
  | Name => exact true
  | _ => exact false
noncomputable def notAttr (e : Expr) : Bool := by
  cases e with
  | Attribute => exact false
  | _ => exact true
noncomputable def isTup (e : Expr) : Bool := by
  cases e with
  | Tuple => exact true
  | List => exact true
  | _ => exact false
noncomputable def isComp (e : Expr) : Bool := by
  cases e with
  | ListComp => exact true
  | SetComp => exact true
  | DictComp => exact true
  | _ => exact false

noncomputable def oany {α : Type} (o : Option α) (f : α → Bool) : Bool := match o with
  | some a => f a
  | none => false
/-! ### looking into syntax: a form, and what stands in it -/
theorem al {a b : Bool} (h : (a && b) = true) : a = true := (Bool.and_eq_true_iff.mp h).1
theorem ar {a b : Bool} (h : (a && b) = true) : b = true := (Bool.and_eq_true_iff.mp h).2
theorem no {P : Prop} (h : false = true) : P := (Bool.false_ne_true h).elim
theorem oany_inv {α : Type} {o : Option α} {f : α → Bool} {P : Prop} (h : oany o f = true) (k : ∀ a, o = some a → f a = true → P) : P := by
  cases o with
  | none => exact no h
  | some a => exact k a rfl h
@[elab_as_elim] theorem onVR_inv {v : Value} {f : Nat → Bool} {P : Value → Prop} (h : onVR v f = true) (k : ∀ a, f a = true → P (.ref a)) : P v := by
  cases v <;> first | exact k _ h | exact no h
noncomputable def onK (e : Expr) (f : Const → Bool) : Bool := by
  cases e with
  | Constant c _ _ => exact f c
  | _ => exact false
@[elab_as_elim] theorem onK_inv {e : Expr} {f : Const → Bool} {P : Expr → Prop} (h : onK e f = true) (k : ∀ c i p, f c = true → P (.Constant c i p)) : P e := by
  cases e <;> first | exact k _ _ _ h | exact no h
noncomputable def onN (e : Expr) (f : Str → Bool) : Bool := by
  cases e with
  | Name s _ => exact f s
  | _ => exact false
@[elab_as_elim] theorem onN_inv {e : Expr} {f : Str → Bool} {P : Expr → Prop} (h : onN e f = true) (k : ∀ s p, f s = true → P (.Name s p)) : P e := by
  cases e <;> first | exact k _ _ h | exact no h
noncomputable def onB (e : Expr) (f : Expr → Operator → Expr → Bool) : Bool := by
  cases e with
  | BinOp l o r _ => exact f l o r
  | _ => exact false
@[elab_as_elim] theorem onB_inv {e : Expr} {f : Expr → Operator → Expr → Bool} {P : Expr → Prop} (h : onB e f = true) (k : ∀ l o r p, f l o r = true → P (.BinOp l o r p)) : P e := by
  cases e <;> first | exact k _ _ _ _ h | exact no h
noncomputable def onU (e : Expr) (f : UnaryOp → Expr → Bool) : Bool := by
  cases e with
  | UnaryOp o l _ => exact f o l
  | _ => exact false
@[elab_as_elim] theorem onU_inv {e : Expr} {f : UnaryOp → Expr → Bool} {P : Expr → Prop} (h : onU e f = true) (k : ∀ o l p, f o l = true → P (.UnaryOp o l p)) : P e := by
  cases e <;> first | exact k _ _ _ h | exact no h
noncomputable def onO (e : Expr) (f : BoolOp → List Expr → Bool) : Bool := by
  cases e with
  | BoolOp o l _ => exact f o l
  | _ => exact false
@[elab_as_elim] theorem onO_inv {e : Expr} {f : BoolOp → List Expr → Bool} {P : Expr → Prop} (h : onO e f = true) (k : ∀ o l p, f o l = true → P (.BoolOp o l p)) : P e := by
  cases e <;> first | exact k _ _ _ h | exact no h
noncomputable def onI (e : Expr) (f : Expr → Expr → Expr → Bool) : Bool := by
  cases e with
  | IfExp u l r _ => exact f u l r
  | _ => exact false
@[elab_as_elim] theorem onI_inv {e : Expr} {f : Expr → Expr → Expr → Bool} {P : Expr → Prop} (h : onI e f = true) (k : ∀ u l r p, f u l r = true → P (.IfExp u l r p)) : P e := by
  cases e <;> first | exact k _ _ _ _ h | exact no h
noncomputable def onM (e : Expr) (f : Expr → List CmpOp → List Expr → Bool) : Bool := by
  cases e with
  | Compare l o r _ => exact f l o r
  | _ => exact false
@[elab_as_elim] theorem onM_inv {e : Expr} {f : Expr → List CmpOp → List Expr → Bool} {P : Expr → Prop} (h : onM e f = true) (k : ∀ l o r p, f l o r = true → P (.Compare l o r p)) : P e := by
  cases e <;> first | exact k _ _ _ _ h | exact no h
noncomputable def onA (e : Expr) (f : Expr → Str → Pos → Bool) : Bool := by
  cases e with
  | Attribute l s p => exact f l s p
  | _ => exact false
@[elab_as_elim] theorem onA_inv {e : Expr} {f : Expr → Str → Pos → Bool} {P : Expr → Prop} (h : onA e f = true) (k : ∀ l s p, f l s p = true → P (.Attribute l s p)) : P e := by
  cases e <;> first | exact k _ _ _ h | exact no h
noncomputable def onS (e : Expr) (f : Expr → Expr → Bool) : Bool := by
  cases e with
  | Subscript l r _ => exact f l r
  | _ => exact false
@[elab_as_elim] theorem onS_inv {e : Expr} {f : Expr → Expr → Bool} {P : Expr → Prop} (h : onS e f = true) (k : ∀ l r p, f l r = true → P (.Subscript l r p)) : P e := by
  cases e <;> first | exact k _ _ _ h | exact no h
noncomputable def onSl (e : Expr) (f : Option Expr → Option Expr → Option Expr → Bool) : Bool := by
  cases e with
  | Slice a b c _ => exact f a b c
  | _ => exact false
@[elab_as_elim] theorem onSl_inv {e : Expr} {f : Option Expr → Option Expr → Option Expr → Bool} {P : Expr → Prop} (h : onSl e f = true) (k : ∀ a b c p, f a b c = true → P (.Slice a b c p)) : P e := by
  cases e <;> first | exact k _ _ _ _ h | exact no h
noncomputable def onC (e : Expr) (f : Expr → List Expr → List Keyword → Pos → Bool) : Bool := by
  cases e with
  | Call g es ks p => exact f g es ks p
  | _ => exact false
@[elab_as_elim] theorem onC_inv {e : Expr} {f : Expr → List Expr → List Keyword → Pos → Bool} {P : Expr → Prop} (h : onC e f = true) (k : ∀ g es ks p, f g es ks p = true → P (.Call g es ks p)) : P e := by
  cases e <;> first | exact k _ _ _ _ h | exact no h
noncomputable def onL (e : Expr) (f : List Expr → Bool) : Bool := by
  cases e with
  | List es _ => exact f es
  | _ => exact false
@[elab_as_elim] theorem onL_inv {e : Expr} {f : List Expr → Bool} {P : Expr → Prop} (h : onL e f = true) (k : ∀ es p, f es = true → P (.List es p)) : P e := by
  cases e <;> first | exact k _ _ h | exact no h
noncomputable def onT (e : Expr) (f : List Expr → Bool) : Bool := by
  cases e with
  | Tuple es _ _ => exact f es
  | _ => exact false
@[elab_as_elim] theorem onT_inv {e : Expr} {f : List Expr → Bool} {P : Expr → Prop} (h : onT e f = true) (k : ∀ es k p, f es = true → P (.Tuple es k p)) : P e := by
  cases e <;> first | exact k _ _ _ h | exact no h
noncomputable def onD (e : Expr) (f : List (Option Expr) → List Expr → Bool) : Bool := by
  cases e with
  | Dict ks vs _ => exact f ks vs
  | _ => exact false
@[elab_as_elim] theorem onD_inv {e : Expr} {f : List (Option Expr) → List Expr → Bool} {P : Expr → Prop} (h : onD e f = true) (k : ∀ ks vs p, f ks vs = true → P (.Dict ks vs p)) : P e := by
  cases e <;> first | exact k _ _ _ h | exact no h
noncomputable def onG (e : Expr) (f : Expr → List Comprehension → Scope → Pos → Bool) : Bool := by
  cases e with
  | ListComp el gs csc p => exact f el gs csc p
  | _ => exact false
@[elab_as_elim] theorem onG_inv {e : Expr} {f : Expr → List Comprehension → Scope → Pos → Bool} {P : Expr → Prop} (h : onG e f = true) (k : ∀ el gs csc p, f el gs csc p = true → P (.ListComp el gs csc p)) : P e := by
  cases e <;> first | exact k _ _ _ _ h | exact no h
noncomputable def onAs (e : Stmt) (f : List Expr → Expr → Bool) : Bool := by
  cases e with
  | Assign us v _ => exact f us v
  | _ => exact false
@[elab_as_elim] theorem onAs_inv {e : Stmt} {f : List Expr → Expr → Bool} {P : Stmt → Prop} (h : onAs e f = true) (k : ∀ us v p, f us v = true → P (.Assign us v p)) : P e := by
  cases e <;> first | exact k _ _ _ h | exact no h
noncomputable def onRe (e : Stmt) (f : Option Expr → Bool) : Bool := by
  cases e with
  | Return v _ => exact f v
  | _ => exact false
@[elab_as_elim] theorem onRe_inv {e : Stmt} {f : Option Expr → Bool} {P : Stmt → Prop} (h : onRe e f = true) (k : ∀ v p, f v = true → P (.Return v p)) : P e := by
  cases e <;> first | exact k _ _ h | exact no h
noncomputable def onEx (e : Stmt) (f : Expr → Bool) : Bool := by
  cases e with
  | Expr v _ => exact f v
  | _ => exact false
@[elab_as_elim] theorem onEx_inv {e : Stmt} {f : Expr → Bool} {P : Stmt → Prop} (h : onEx e f = true) (k : ∀ v p, f v = true → P (.Expr v p)) : P e := by
  cases e <;> first | exact k _ _ h | exact no h
noncomputable def onIf (e : Stmt) (f : Expr → List Stmt → List Stmt → Bool) : Bool := by
  cases e with
  | If u l r _ => exact f u l r
  | _ => exact false
@[elab_as_elim] theorem onIf_inv {e : Stmt} {f : Expr → List Stmt → List Stmt → Bool} {P : Stmt → Prop} (h : onIf e f = true) (k : ∀ u l r p, f u l r = true → P (.If u l r p)) : P e := by
  cases e <;> first | exact k _ _ _ _ h | exact no h
noncomputable def onWh (e : Stmt) (f : Expr → List Stmt → List Stmt → Bool) : Bool := by
  cases e with
  | While u l r _ => exact f u l r
  | _ => exact false
@[elab_as_elim] theorem onWh_inv {e : Stmt} {f : Expr → List Stmt → List Stmt → Bool} {P : Stmt → Prop} (h : onWh e f = true) (k : ∀ u l r p, f u l r = true → P (.While u l r p)) : P e := by
  cases e <;> first | exact k _ _ _ _ h | exact no h
noncomputable def onFo (e : Stmt) (f : Expr → Expr → List Stmt → List Stmt → Bool) : Bool := by
  cases e with
  | For u i b r _ => exact f u i b r
  | _ => exact false
@[elab_as_elim] theorem onFo_inv {e : Stmt} {f : Expr → Expr → List Stmt → List Stmt → Bool} {P : Stmt → Prop} (h : onFo e f = true) (k : ∀ u i b r p, f u i b r = true → P (.For u i b r p)) : P e := by
  cases e <;> first | exact k _ _ _ _ _ h | exact no h
noncomputable def one {α : Type} (l : List α) (f : α → Bool) : Bool := match l with
  | [a] => f a
  | _ => false
@[elab_as_elim] theorem one_inv {α : Type} {l : List α} {f : α → Bool} {P : List α → Prop} (h : one l f = true) (k : ∀ a, f a = true → P [a]) : P l := by
  cases l with
  | nil => exact no h
  | cons a l => cases l with
    | nil => exact k a h
    | cons => exact no h
noncomputable def two {α : Type} (l : List α) (f : α → α → Bool) : Bool := match l with
  | [a, b] => f a b
  | _ => false
@[elab_as_elim] theorem two_inv {α : Type} {l : List α} {f : α → α → Bool} {P : List α → Prop} (h : two l f = true) (k : ∀ a b, f a b = true → P [a, b]) : P l := by
  cases l with
  | nil => exact no h
  | cons a l => cases l with
    | nil => exact no h
    | cons b l => cases l with
      | nil => exact k a b h
      | cons => exact no h
noncomputable def three {α : Type} (l : List α) (f : α → α → α → Bool) : Bool := match l with
  | a :: l => two l (f a)
  | [] => false
@[elab_as_elim] theorem three_inv {α : Type} {l : List α} {f : α → α → α → Bool} {P : List α → Prop} (h : three l f = true) (k : ∀ a b c, f a b c = true → P [a, b, c]) : P l := by
  cases l with
  | nil => exact no h
  | cons a l => exact two_inv (P := fun l => P (a :: l)) h (k a)
noncomputable def nil {α : Type} (l : List α) : Bool := match l with
  | [] => true
  | _ => false
@[elab_as_elim] theorem nil_inv {α : Type} {l : List α} {P : List α → Prop} (h : nil l = true) (k : P []) : P l := by
  cases l with
  | nil => exact k
  | cons => exact no h
noncomputable def sm (o : Option Expr) (f : Expr → Bool) : Bool := match o with
  | some e => f e
  | none => false
@[elab_as_elim] theorem sm_inv {o : Option Expr} {f : Expr → Bool} {P : Option Expr → Prop} (h : sm o f = true) (k : ∀ e, f e = true → P (some e)) : P o := by
  cases o with
  | none => exact no h
  | some e => exact k e h
noncomputable def nn (o : Option Expr) : Bool := match o with
  | some _ => false
  | none => true
@[elab_as_elim] theorem nn_inv {o : Option Expr} {P : Option Expr → Prop} (h : nn o = true) (k : P none) : P o := by
  cases o with
  | none => exact k
  | some e => exact no h
/-- one `for` without a condition, over a plain name -/
noncomputable def gen1 (gs : List Comprehension) (f : Str → Expr → Bool) : Bool := one gs fun g => onN g.target (fun s => f s g.iter) && nil g.ifs && decide (g.is_async = 0)
@[elab_as_elim] theorem gen1_inv {gs : List Comprehension} {f : Str → Expr → Bool} {P : List Comprehension → Prop} (h : gen1 gs f = true) (k : ∀ s p i, f s i = true → P [⟨.Name s p, i, [], 0⟩]) : P gs :=
  one_inv h fun g h => by
    obtain ⟨t, i, fs, z⟩ := g
    have h3 : z = 0 := of_decide_eq_true (ar h)
    subst h3
    exact nil_inv (P := fun fs => P [⟨t, i, fs, 0⟩]) (ar (al h)) (onN_inv (P := fun t => P [⟨t, i, [], 0⟩]) (al (al h)) fun s p h => k s p i h)
noncomputable def kStr (c : Const) (f : Str → Bool) : Bool := match c with
  | .str s => f s
  | _ => false
@[elab_as_elim] theorem kStr_inv {c : Const} {f : Str → Bool} {P : Const → Prop} (h : kStr c f = true) (k : ∀ s, f s = true → P (.str s)) : P c := by
  cases c <;> first | exact k _ h | exact no h
noncomputable def kBy (c : Const) (f : List UInt8 → Bool) : Bool := match c with
  | .bytes s => f s
  | _ => false
@[elab_as_elim] theorem kBy_inv {c : Const} {f : List UInt8 → Bool} {P : Const → Prop} (h : kBy c f = true) (k : ∀ s, f s = true → P (.bytes s)) : P c := by
  cases c <;> first | exact k _ h | exact no h

noncomputable def allFit (f : X → Expr → Bool) : List X → List Expr → Bool
  | [], [] => true
  | x :: xs, e :: es => f x e && notStar e && allFit f xs es
  | _, _ => false

/-- may stand where only the truth is asked -/
noncomputable def okT (x : X) : Bool := match x with
  | .cmp2 .. => false
  | .not a => okT a
  | .and a b => okT a && okT b
  | .and3 a b c => okT a && okT b && okT c
  | .or a b => okT a && okT b
  | .ite t a b => okT t && okT a && okT b
  | _ => true
noncomputable def compScope (csc : Scope) : Bool := decide (csc.kind = .function) && csc.names.all (fun y => decide (y.2 = .local ∧ csc.names.lookup y.1 = some .local))
noncomputable def onNP (e : Expr) (f : Str → Pos → Bool) : Bool := by
  cases e with
  | Name s p => exact f s p
  | _ => exact false
@[elab_as_elim] theorem onNP_inv {e : Expr} {f : Str → Pos → Bool} {P : Expr → Prop} (h : onNP e f = true) (k : ∀ s p, f s p = true → P (.Name s p)) : P e := by
  cases e <;> first | exact k _ _ h | exact no h
noncomputable def nameAt (e : Expr) : Option (Str × Pos) := by
  cases e with
  | Name id p => exact some (id, p)
  | _ => exact none
noncomputable def oneLineAt (ln : Nat) (ts : List Expr) : Bool := ts.all fun t => onNP t fun _ p => decide (p.line = ln)
noncomputable def oneLine (ts : List Expr) : Bool := oneLineAt ((ts.head?.map (·.pos.line)).getD 0) ts
noncomputable def tNames (ts : List Expr) : List Str := ts.filterMap fun t => (nameAt t).map (·.1)
noncomputable def swapOk (ts vs : List Expr) : Bool := (decide (ts.length = 2) || decide (ts.length = 3)) && decide (vs.length = ts.length) && vs.all notStar && oneLine ts && !vs.all (foldedForSure 8) && !vs.all (constantsAlone 8)

section
variable (K : Frag)
noncomputable def fitE (sc : Scope) : Nat → X → Expr → Bool
  | 0, _, _ => false
  | n + 1, x, e => match x with
    | .any => true
    | .none => onK e fun c => decide (c = .none)
    | .bool b => onK e fun c => decide (c = .bool b)
    | .int i => onK e fun c => decide (c = .int i)
    | .str k => onK e fun c => kStr c fun s => encIs s k
    | .bytes b => onK e fun c => kBy c fun a => decide (a.map UInt8.toNat = b)
    | .loc k => onN e fun s => encIs s k && decide (s ≠ "__debug__") && decide (sc.names.lookup s = some .local)
    | .glob v => onN e fun s => decide (s ≠ "__debug__") && decide (sc.names.lookup s = some .globalImplicit) && globFits K s v
    | .bin op a b => onB e fun l o r => decide (opOf op = o) && fitE sc n a l && fitE sc n b r
    | .not a => onU e fun o l => decide (o = .Not) && fitE sc n a l
    | .neg a => onU e fun o l => decide (o = .USub) && fitE sc n a l
    | .and a b => onO e fun o es => decide (o = .And) && two es fun l r => fitE sc n a l && fitE sc n b r
    | .and3 a b c => onO e fun o es => decide (o = .And) && three es fun l m r => fitE sc n a l && fitE sc n b m && fitE sc n c r
    | .or a b => onO e fun o es => decide (o = .Or) && two es fun l r => fitE sc n a l && fitE sc n b r
    | .ite t a b => onI e fun u l r => okT t && fitE sc n t u && fitE sc n a l && fitE sc n b r
    | .cmp op a b => onM e fun l os es => one os fun o => one es fun r => decide (cmpOf op = o) && fitE sc n a l && fitE sc n b r && !isSet r
    | .cmp2 op op' a b c => onM e fun l os es => two os fun o o' => two es fun m r => decide (cmpOf op = o) && decide (cmpOf op' = o') && fitE sc n a l && fitE sc n b m && fitE sc n c r && !isSet m && !isSet r
    | .attr a k => onA e fun l s _ => fitE sc n a l && encIs s k && plainBase l
    | .sub a b => onS e fun l r => fitE sc n a l && fitE sc n b r && !isSlice r
    | .sliceFrom a b => onS e fun l r => onSl r fun lo hi st => sm lo (fun r => fitE sc n a l && fitE sc n b r) && nn hi && nn st
    | .meth a k args => onC e fun g es ks pos => onA g (fun l s apos => fitE sc n a l && encIs s k && plainBase l && decide (es.length < 30) && allFit (fitE sc n) args es && decide (apos.endLine = pos.line)) && nil ks
    | .call f args => onC e fun g es ks _ => notAttr g && fitE sc n f g && allFit (fitE sc n) args es && nil ks
    | .list xs => onL e fun es => allFit (fitE sc n) xs es
    | .tup xs => onT e fun es => allFit (fitE sc n) xs es
    | .dict0 => onD e fun ks vs => nil ks && nil vs
    | .compR elt k it => onG e fun el gs csc _ => gen1 gs fun s c => onC c fun r es ks _ => onN r (fun rn => one es fun i => decide (rn = "range") && decide (sc.names.lookup rn = some .globalImplicit) && decide (nsIn K mainGlobals rn = some none) &&
        encIs s k && fitE csc n elt el && fitE sc n it i && notStar i && compScope csc && decide (csc.names.lookup s = some .local)) && nil ks

noncomputable def namesFit (sc : Scope) : List Nat → List Expr → Bool
  | [], [] => true
  | k :: ks, e :: es => onN e (fun s => encIs s k && decide (sc.names.lookup s = some .local)) && namesFit sc ks es
  | _, _ => false
noncomputable def fitT (sc : Scope) (n : Nat) (t : T) (e : Expr) : Bool := match t with
  | .any => true
  | .loc k => onN e fun s => encIs s k && decide (sc.names.lookup s = some .local)
  | .attr a k => onA e fun l s _ => fitE K sc n a l && encIs s k
  | .item a b => onS e fun l r => fitE K sc n a l && fitE K sc n b r && !isSlice r
  | .tup ks => onT e fun es => namesFit sc ks es
noncomputable def bodyFit (f : S → Stmt → Bool) : List S → List Stmt → Bool
  | [], [] => true
  | x :: xs, e :: es => f x e && bodyFit f xs es
  | _, _ => false
noncomputable def notTup : T → Bool
  | .tup _ => false
  | _ => true
noncomputable def fitS (sc : Scope) : Nat → S → Stmt → Bool
  | 0, _, _ => false
  | n + 1, x, e => match x with
    | .any => true
    | .set t a => onAs e fun us v => one us fun u => fitT K sc n t u && fitE K sc n a v && (!isComp v || !notAttr u) && (!isTup u || !isTup v)
    | .swap ks a => onAs e fun us v => one us fun u => onT u (fun ts => onT v (fun vs => swapOk ts vs) && namesFit sc ks ts && decide ((tNames ts).eraseDups.length = (tNames ts).length)) && fitE K sc n a v
    | .setComp k elt x it => onAs e fun us v => one us fun u => onNP u fun t tp => onG v fun el gs csc cp => gen1 gs fun s i => encIs t k && decide (sc.names.lookup t = some .local) && decide (tp.line = cp.line) && decide (csc.names.lookup t = none) &&
        encIs s x && fitE K csc n elt el && fitE K sc n it i && !isSet i && compScope csc && decide (csc.names.lookup s = some .local)
    | .ret a => onRe e fun v => sm v fun v => fitE K sc n a v
    | .ret0 => onRe e fun v => nn v
    | .expr a => onEx e fun v => fitE K sc n a v && !isComp v
    | .ite t a b => onIf e fun u l r => okT t && fitE K sc n t u && bodyFit (fitS sc n) a l && bodyFit (fitS sc n) b r
    | .while0 t => onWh e fun u _ r => okT t && fitE K sc n t u && nil r
    | .forL t it b => onFo e fun u i body r => fitT K sc n t u && fitE K sc n it i && !isSet i && bodyFit (fitS sc n) b body && nil r
    | .forR k it b => onFo e fun u c body r => onN u (fun s => onC c fun g es ks _ => onN g (fun rn => one es fun i => decide (rn = "range") && decide (sc.names.lookup rn = some .globalImplicit) && decide (nsIn K mainGlobals rn = some none) && encIs s k && decide (sc.names.lookup s = some .local) && fitE K sc n it i && notStar i && bodyFit (fitS sc n) b body) && nil ks) && nil r

noncomputable def parFit : List Nat → List Arg → Bool
  | [], [] => true
  | k :: ks, a :: as => encIs a.arg k && parFit ks as
  | _, _ => false
noncomputable def dsFit : List AV → List Value → Bool
  | [], [] => true
  | a :: as, v :: vs => valFits K a v && dsFit as vs
  | _, _ => false
noncomputable def onTp (o : Obj) (f : List Value → Bool) : Bool := match o.data with
  | .seq items _ => decide (o.cls = .type "tuple") && f items.toList
  | _ => false
theorem onTp_inv {o : Obj} {f : List Value → Bool} {P : Obj → Prop} (h : onTp o f = true) (k : ∀ d items n sl, f items.toList = true → P ⟨.type "tuple", d, .seq items n, sl⟩) : P o := by
  obtain ⟨c, d, data, sl⟩ := o
  cases data with
  | seq items n =>
    have h : (decide (c = .type "tuple") && f items.toList) = true := h
    have h1 : c = .type "tuple" := of_decide_eq_true (al h)
    subst h1
    exact k _ _ _ _ (ar h)
  | _ => exact no h
noncomputable def dfltFit (ds : List AV) (d : Value) : Bool := match ds with
  | [] => decide (d = .none)
  | ds => onVR d fun t => oany (K.lookup t) fun o => onTp o fun items => dsFit K ds items
noncomputable def onFn (o : Obj) (f : FuncData → Bool) : Bool := match o.data with
  | .func fd => f fd
  | _ => false
theorem onFn_inv {o : Obj} {f : FuncData → Bool} {P : Obj → Prop} (h : onFn o f = true) (k : ∀ c d fd sl, f fd = true → P ⟨c, d, .func fd, sl⟩) : P o := by
  obtain ⟨c, d, data, sl⟩ := o
  cases data <;> first | exact k _ _ _ _ h | exact no h
noncomputable def onBd (b : FuncBody) (f : List Stmt → Bool) : Bool := match b with
  | .stmts l => f l
  | .expr _ => false
theorem onBd_inv {b : FuncBody} {f : List Stmt → Bool} {P : FuncBody → Prop} (h : onBd b f = true) (k : ∀ l, f l = true → P (.stmts l)) : P b := by
  cases b with
  | stmts l => exact k l h
  | expr _ => exact no h
noncomputable def fnFit1 (n : Nat) (f : CFn) (fd : FuncData) (body : List Stmt) : Bool :=
  parFit f.ps fd.params.args && (fd.params.posonlyargs.isEmpty && (fd.params.vararg.isNone && (fd.params.kwonlyargs.isEmpty && (fd.params.kwarg.isNone
  && (dfltFit K f.ds fd.defaults && (fd.closure.isEmpty && (decide (fd.globals = mainGlobals) && (decide (fd.builtins = builtinsNs) && (codeIn K fd.code fd.qualname
  && (!fd.scope.isCoroutine && (!fd.scope.isGenerator && (decide (fd.scope.kind = .function) && (fd.scope.names.all (fun x => decide (x.2 ≠ .cell))
  && (fd.params.args.all (fun x => decide (fd.scope.names.lookup x.arg = some .local)) && (bodyFit (fitS K fd.scope n) f.body body && (decide (f.ps.Nodup) && decide (f.ds.length ≤ f.ps.length)))))))))))))))))
noncomputable def fnFit (n : Nat) (a : Nat) (f : CFn) : Bool := oany (K.lookup a) fun o => onFn o fun fd => onBd fd.body fun body => fnFit1 K n f fd body

noncomputable def nameOf (l : List Str) (k : Nat) : Option Str := l.find? (fun s => encIs s k)
/-- the names that classes are asked for, as texts -/
noncomputable def clsM (NT : List Str) (C : Nat) (p : Nat × Nat) : Bool := oany (nameOf NT p.1) fun s => decide (findIn K (.ref C) s = some (some (.ref p.2))) && (isFn K (.ref p.2) && fnIn K p.2)
noncomputable def clsG' (NT : List Str) (C : Nat) (k : Nat) : Bool := oany (nameOf NT k) fun s => oany (findIn K (.ref C) s) fun attr => noGet K attr
noncomputable def clsS (NT : List Str) (C : Nat) (k : Nat) : Bool := oany (nameOf NT k) fun s => decide (takerIn K C s = some none)
noncomputable def clsP' (f : Nat) (v : Value) : Bool := onVR v fun q => decide (specialIn K (.ref q) "__get__" = some (some (.builtin "property.__get__"))) && (decide (takesIn K (.ref q) = some true) &&
  oany (recIn K q "property") fun l => decide (l.head? = some (.ref f)) && fnIn K f)
noncomputable def clsP (NT : List Str) (C : Nat) (p : Nat × Nat) : Bool := oany (nameOf NT p.1) fun s => oany (findIn K (.ref C) s) fun r => oany r (clsP' K p.2)
noncomputable def clsFit (NT : List Str) (C : Nat) (c : CCls) : Bool :=
  makesIn K C && (decide (findIn K (.ref C) "__init__" = some (some (.ref c.init))) && (isFn K (.ref c.init) && (fnIn K c.init && (plainGet K C "" && (hasDictIn K C &&
  (decide (findIn K (.ref C) "__setattr__" = some (some (.builtin "object.__setattr__"))) && (plainOver K C && (isClsIn K C &&
  (c.meths.all (clsM K NT C) && (c.gets.all (clsG' K NT C) && (c.sets.all (clsS K NT C) && c.props.all (clsP K NT C))))))))))))
end
end Mine

-- D4
namespace Mine
open PySem PySem.W PySem.Calls PyProof.Rows

structure Fm where
  nm : Str
  sc : Scope
  L : Addr
  a : Addr
  cd : Value
  h₀ : Heap
  base : Heap
  outer : List Env
  A₀ : Around
  X : List (Addr × Obj) := []
@[reducible] noncomputable def Fm.env (c : Fm) : Env := envOf c.nm c.sc c.L c.a c.cd

/-- the script, as far as it is read -/
noncomputable def ScrOk (V : Nat → Int) (h : Heap) : Prop := ∃ vs ns, h.IsList (V 102).toNat vs.toArray ∧ IntsAre vs ns ∧ V 100 = (ns.length : Int) ∧ ns.length < 10000000 ∧ ∀ x r, ns = x :: r → V 101 = x
structure Fm.Ok (C : Cx) (c : Fm) (A : Around) (n : Nat) : Prop where
  B : Below c.A₀ c.base c.outer c.h₀
  fr : A.frames = some (c.env :: c.outer)
  hd : A.handled = none
  scr : ScrOk C.V c.h₀
  X : C.K.In c.h₀
  T : Top C.p C.loose C.mean C.mg C.mb c.h₀
  kind : c.sc.kind = .function
  room : A.depth + 2 * n + 2 < recursionLimit
  units : A.units + 10 * n + 20 < cLine
theorem Fm.Ok.less {C : Cx} {c : Fm} {A : Around} {n m : Nat} (h : c.Ok C A n) (q : m ≤ n) : c.Ok C A m :=
  { h with room := by have := h.room; omega, units := by have := h.units; omega }

abbrev Nd (l : List Addr) : Prop := l.Nodup
noncomputable def SR (C : Cx) (c : Fm) (ρ : Nat → Addr) (σ : St) (h : Heap) : Prop :=
  ∃ m news, Fr c.h₀ c.L h m ∧ News c.h₀ c.L h news ∧ LocR C.V ρ σ.next σ.loc m ∧ Objs c.X C.V ρ σ.next C.prog C.w σ.objs news ∧ Nd (news.map (·.1))

section
variable (C : Cx) (c : Fm) (A : Around)
abbrev MM : Model := model C.prog C.w
noncomputable def Gives (t : Sem Value) (ρ : Nat → Addr) (σ σ' : St) (v : AV) (s : Shared) : Prop :=
  ∀ (Q : Value → Shared → Prop) (Er : Value → Shared → Prop),
    (∀ ρ' cv h' tk, Ext ρ σ.next ρ' σ'.next → SR C c ρ' σ' h' → VR C.V ρ' σ'.next v cv → Q cv { s with heap := h', toks := tk }) → wpAny (MM C) A t Q Er s
noncomputable def GivesT (t : Sem Bool) (ρ : Nat → Addr) (σ σ' : St) (b : Bool) (s : Shared) : Prop :=
  ∀ (Q : Bool → Shared → Prop) (Er : Value → Shared → Prop),
    (∀ ρ' h' tk, Ext ρ σ.next ρ' σ'.next → SR C c ρ' σ' h' → Q b { s with heap := h', toks := tk }) → wpAny (MM C) A t Q Er s
noncomputable def GivesL (t : Sem (List Value)) (ρ : Nat → Addr) (σ σ' : St) (vs : List AV) (s : Shared) : Prop :=
  ∀ (Q : List Value → Shared → Prop) (Er : Value → Shared → Prop),
    (∀ ρ' cvs h' tk, Ext ρ σ.next ρ' σ'.next → SR C c ρ' σ' h' → F2 (VR C.V ρ' σ'.next) vs cvs → Q cvs { s with heap := h', toks := tk }) → wpAny (MM C) A t Q Er s
noncomputable def GivesU (t : Sem Unit) (ρ : Nat → Addr) (σ σ' : St) (s : Shared) : Prop :=
  ∀ (Q : Unit → Shared → Prop) (Er : Value → Shared → Prop),
    (∀ ρ' h' tk, Ext ρ σ.next ρ' σ'.next → SR C c ρ' σ' h' → Q () { s with heap := h', toks := tk }) → wpAny (MM C) A t Q Er s
noncomputable def FlowR (V : Nat → Int) (ρ : Nat → Addr) (n : Nat) : AFlow → Flow → Prop
  | .next, f => f = .next
  | .ret v, f => ∃ cv, f = .ret cv ∧ VR V ρ n v cv
noncomputable def GivesF (t : Sem Flow) (ρ : Nat → Addr) (σ σ' : St) (fl : AFlow) (s : Shared) : Prop :=
  ∀ (Q : Flow → Shared → Prop) (Er : Value → Shared → Prop),
    (∀ ρ' f h' tk, Ext ρ σ.next ρ' σ'.next → SR C c ρ' σ' h' → FlowR C.V ρ' σ'.next fl f → Q f { s with heap := h', toks := tk }) → wpAny (MM C) A t Q Er s
noncomputable def GivesC (cf : Value) (cvs : List Value) (ρ : Nat → Addr) (σ σ' : St) (v : AV) (s : Shared) : Prop :=
  ∀ (R : Result → Shared → Prop),
    (∀ ρ' cv h' tk, Ext ρ σ.next ρ' σ'.next → SR C c ρ' σ' h' → VR C.V ρ' σ'.next v cv → R (.ok (.ret cv)) { s with heap := h', toks := tk }) → codeAny (MM C) A (.call cf ⟨cvs, []⟩) R s
end

noncomputable def SoundE (C : Cx) (N : Nat) (E : St → X → Option (AV × St)) (n : Nat) : Prop :=
  ∀ (c : Fm) (A : Around) (x : X) (e : Expr) (σ σ' : St) (v : AV) (ρ : Nat → Addr) (s : Shared) (k : Nat),
    c.Ok C A n → k ≤ N → fitE C.K c.sc k x e = true → E σ x = some (v, σ') → SR C c ρ σ s.heap → Gives C c A (eval e c.env) ρ σ σ' v s
noncomputable def SoundT (C : Cx) (N : Nat) (E : St → X → Option (AV × St)) (n : Nat) : Prop :=
  ∀ (c : Fm) (A : Around) (x : X) (e : Expr) (σ σ' : St) (b : Bool) (ρ : Nat → Addr) (s : Shared) (k : Nat),
    c.Ok C A n → k ≤ N → fitE C.K c.sc k x e = true → okT x = true → E σ x = some (.bool b, σ') → SR C c ρ σ s.heap → GivesT C c A (PySem.isTrue e c.env (eval e c.env)) ρ σ σ' b s
noncomputable def SoundB (C : Cx) (N : Nat) (B : St → List S → Option (AFlow × St)) (n : Nat) : Prop :=
  ∀ (c : Fm) (A : Around) (x : List S) (e : List Stmt) (σ σ' : St) (fl : AFlow) (ρ : Nat → Addr) (s : Shared) (k : Nat),
    c.Ok C A n → k ≤ N → bodyFit (fitS C.K c.sc k) x e = true → B σ x = some (fl, σ') → SR C c ρ σ s.heap → GivesF C c A (execs e c.env) ρ σ σ' fl s
noncomputable def SoundF (C : Cx) (Cl : St → AV → List AV → Option (AV × St)) (n : Nat) : Prop :=
  ∀ (c : Fm) (A : Around) (a : Nat) (vs : List AV) (σ σ' : St) (v : AV) (ρ : Nat → Addr) (s : Shared) (cvs : List Value),
    c.Ok C A n → F2 (VR C.V ρ σ.next) vs cvs → Cl σ (.fn a) vs = some (v, σ') → SR C c ρ σ s.heap → GivesC C c A (.ref a) cvs ρ σ σ' v s
noncomputable def SoundC (C : Cx) (Cl : St → AV → List AV → Option (AV × St)) (n : Nat) : Prop :=
  ∀ (c : Fm) (A : Around) (f : AV) (vs : List AV) (σ σ' : St) (v : AV) (ρ : Nat → Addr) (s : Shared) (cf : Value) (cvs : List Value),
    c.Ok C A n → VR C.V ρ σ.next f cf → F2 (VR C.V ρ σ.next) vs cvs → Cl σ f vs = some (v, σ') → SR C c ρ σ s.heap → Gives C c A (call cf cvs []) ρ σ σ' v s
noncomputable def Callable (C : Cx) : AV → Prop
  | .fn a => keepIn C.K (.ref a) = true
  | .cls a => keepIn C.K (.ref a) = true
  | .bi _ => True
  | _ => False
structure Sound (C : Cx) (N : Nat) (R : Rec) (n : Nat) : Prop where
  keep : ∀ σ f vs r, R.C σ f vs = some r → Callable C f
  E : SoundE C N R.E n
  T : SoundT C N R.E n
  B : SoundB C N R.B n
  F : SoundF C R.C n
  C : SoundC C R.C n

structure Cx.Ok (C : Cx) (N : Nat) (NT : List Str) : Prop where
  fns : ∀ a f, C.G.fns.lookup a = some f → fnFit C.K N a f = true
  cls : ∀ a k, C.G.cls.lookup a = some k → clsFit C.K NT a k = true
  F : C.G.F.Ok C.V
  ctk : ∀ t ∈ C.G.CT, keepIn C.K (.ref t.1) = true
  ct : ∀ t ∈ C.G.CT, ∀ (c : Fm) (A : Around) (σ : St) (ρ : Nat → Addr) (s : Shared) (cvs : List Value),
    c.Ok C A 12 → F2 (VR C.V ρ σ.next) t.2.1 cvs → SR C c ρ σ s.heap → GivesC C c A (.ref t.1) cvs ρ σ σ t.2.2 s

section
variable {C : Cx} {c : Fm} {A : Around} {ρ : Nat → Addr} {σ σ' : St} {s : Shared}

theorem encIs_eq {s : Str} {k : Nat} (h : encIs s k = true) : enc s = some k := by
  unfold encIs at h
  split at h
  · rename_i j e; rw [e, Nat.eq_of_beq_eq_true h]
  · cases h
theorem ne_debug {s : Str} (h : s ≠ "__debug__") : (s == ("__debug__" : Str)) = false := beq_false_of_ne h

/-- a plain value is given, the state stays -/
theorem gives_pure {t : Sem Value} {v : AV} {cv : Value} (h : ∀ Q Er, (∀ tk, Q cv { s with toks := tk }) → wpAny (MM C) A t Q Er s) (S : SR C c ρ σ s.heap) (hv : VR C.V ρ σ.next v cv) : Gives C c A t ρ σ σ v s :=
  fun Q Er k => h Q Er fun tk => k ρ cv s.heap tk Ext.refl S hv

theorem sr_loc (S : SR C c ρ σ s.heap) {x : Str} {k : Nat} {av : AV} (hx : enc x = some k) (e : σ.loc.lookup k = some av) : ∃ m news v, Fr c.h₀ c.L s.heap m ∧ News c.h₀ c.L s.heap news ∧ m x = some v ∧ VR C.V ρ σ.next av v := by
  obtain ⟨m, news, F, N, l, _⟩ := S
  obtain ⟨v, a, b⟩ := l x k av hx e
  exact ⟨m, news, v, F, N, a, b⟩

theorem const_int {i : Int} {k : Nat} {pos : Pos} (S : SR C c ρ σ s.heap) : Gives C c A (eval (.Constant (.int i) k pos) c.env) ρ σ σ (.int (.c i)) s :=
  fun _ _ q => wpAny_Constant_int (q ρ _ s.heap _ Ext.refl S ⟨_, rfl⟩)
theorem const_str {x : Str} {j k : Nat} {pos : Pos} (hx : enc x = some j) (S : SR C c ρ σ s.heap) : Gives C c A (eval (.Constant (.str x) k pos) c.env) ρ σ σ (.str j) s :=
  fun _ _ q => Calls.Constant_str (q ρ _ s.heap _ Ext.refl S ⟨_, _, rfl, hx⟩)
theorem const_none {k : Nat} {pos : Pos} (S : SR C c ρ σ s.heap) : Gives C c A (eval (.Constant .none k pos) c.env) ρ σ σ .none s :=
  fun _ _ q => by
    show wpAny _ _ (constValue c.env .none) _ _ _
    exact wpAny_pure (q ρ _ s.heap s.toks Ext.refl S rfl)
theorem const_bool {b : Bool} {k : Nat} {pos : Pos} (S : SR C c ρ σ s.heap) : Gives C c A (eval (.Constant (.bool b) k pos) c.env) ρ σ σ (.bool b) s :=
  fun _ _ q => by
    show wpAny _ _ (constValue c.env (.bool b)) _ _ _
    exact wpAny_pure (q ρ _ s.heap s.toks Ext.refl S rfl)
theorem const_bytes {b : List UInt8} {k : Nat} {pos : Pos} (S : SR C c ρ σ s.heap) : Gives C c A (eval (.Constant (.bytes b) k pos) c.env) ρ σ σ (.bytes (b.map UInt8.toNat)) s :=
  fun _ _ q => by
    show wpAny _ _ (mkTextBytes b.toArray) _ _ _
    exact wpAny_mkTextBytes (q ρ _ s.heap _ Ext.refl S ⟨_, _, rfl, by simp⟩)

theorem name_loc {x : Str} {k : Nat} {av : AV} {pos : Pos} {n : Nat} (O : c.Ok C A n) (hx : enc x = some k) (hd : x ≠ "__debug__") (hl : c.sc.names.lookup x = some .local) (e : σ.loc.lookup k = some av) (S : SR C c ρ σ s.heap) :
    Gives C c A (eval (.Name x pos) c.env) ρ σ σ av s := fun _ _ q => by
  obtain ⟨m, news, v, F, N, hm, hv⟩ := sr_loc S hx e
  exact ld F hm (q ρ v s.heap s.toks Ext.refl S hv) O.kind hl (ne_debug hd)

theorem valFits_VR {K : Frag} {ρ : Nat → Addr} {n : Nat} {V : Nat → Int} {a : AV} {v : Value} (h : valFits K a v = true) : VR V ρ n a v := by
  cases a with
  | int e => cases v <;> first | exact no h | (cases e <;> first | exact no h | exact ⟨_, by rw [of_decide_eq_true h]; rfl⟩)
  | bool b => cases v <;> first | exact no h | exact congrArg Value.bool (beq_iff_eq.mp h).symm
  | str k => cases v <;> first | exact no h | exact ⟨_, _, rfl, encIs_eq h⟩
  | bytes b => cases v <;> first | exact no h | exact ⟨_, _, rfl, of_decide_eq_true h⟩
  | fn a => cases v <;> first | exact no h | exact congrArg Value.ref (Nat.eq_of_beq_eq_true (al h)).symm
  | cls a => cases v <;> first | exact no h | exact congrArg Value.ref (Nat.eq_of_beq_eq_true (al h)).symm
  | _ => exact no h

theorem name_glob {x : Str} {av : AV} {pos : Pos} {n : Nat} (O : c.Ok C A n) (hd : x ≠ "__debug__") (hl : c.sc.names.lookup x = some .globalImplicit) (e : globFits C.K x av = true) (S : SR C c ρ σ s.heap) :
    Gives C c A (eval (.Name x pos) c.env) ρ σ σ av s := fun _ _ q => by
  have S' := S
  obtain ⟨m, news, F, N, _⟩ := S'
  cases hu : nsIn C.K mainGlobals x with
  | none => rw [globFits, hu] at e; exact no e
  | some o =>
    rw [globFits, hu] at e
    cases o with
    | none =>
      obtain ⟨b, rfl, hb, hn⟩ := biIs_inv e
      exact name_B F O.X (topRead_of O.T) hu hb hn (q ρ _ s.heap s.toks Ext.refl S rfl) O.kind hl (ne_debug hd)
    | some u => exact name_K F O.X (topRead_of O.T) hu (q ρ u s.heap s.toks Ext.refl S (valFits_VR e)) O.kind hl (ne_debug hd)
end
end Mine

-- D5
namespace Mine
open PySem PySem.W PySem.Calls PyProof.Rows

section
variable {C : Cx} {c : Fm} {A : Around} {ρ : Nat → Addr} {σ σ' : St} {s : Shared}

noncomputable def ρ_new (ρ : Nat → Addr) (n : Nat) (a : Addr) : Nat → Addr := fun j => if j = n then a else ρ j
theorem SR.push {m : Str → Option Value} {news : List (Addr × Obj)} {h' : Heap} {a : Addr} {o : Obj} {ao : AO} (F' : Fr c.h₀ c.L h' m) (N' : News c.h₀ c.L h' ((a, o) :: news)) (l : LocR C.V ρ σ.next σ.loc m)
    (Ob : Objs c.X C.V ρ σ.next C.prog C.w σ.objs news) (nd : Nd (news.map (·.1))) (lo : isI ao = true → (a == sysModules) = false) (lt : ∀ p ∈ news, p.1 < a) (z : OR C.V ρ σ.next C.prog C.w ao o) :
    Ext ρ σ.next (ρ_new ρ σ.next a) (σ.next + 1) ∧ SR C c (ρ_new ρ σ.next a) (σ.new ao) h' ∧ ρ_new ρ σ.next a σ.next = a := by
  have e : Ext ρ σ.next (ρ_new ρ σ.next a) (σ.next + 1) := ⟨Nat.le_succ _, fun j q => if_neg (Nat.ne_of_lt q)⟩
  have y := Ob.push (ao := ao) (o := o) lt nd (z.mono e) lo
  exact ⟨e, ⟨m, _, F', N', l.mono e, y.2.1, y.2.2⟩, if_pos rfl⟩
/-- a new object that is the answer -/
theorem SR.give {m : Str → Option Value} {news : List (Addr × Obj)} {h' : Heap} {a : Addr} {o : Obj} {ao : AO} {P : Prop} (F' : Fr c.h₀ c.L h' m) (N' : News c.h₀ c.L h' ((a, o) :: news)) (l : LocR C.V ρ σ.next σ.loc m)
    (Ob : Objs c.X C.V ρ σ.next C.prog C.w σ.objs news) (nd : Nd (news.map (·.1))) (lo : isI ao = true → (a == sysModules) = false) (lt : ∀ p ∈ news, p.1 < a) (z : OR C.V ρ σ.next C.prog C.w ao o)
    (k : ∀ ρ', Ext ρ σ.next ρ' (σ.new ao).next → SR C c ρ' (σ.new ao) h' → VR C.V ρ' (σ.new ao).next (.own σ.next) (.ref a) → P) : P :=
  have y := SR.push F' N' l Ob nd lo lt z
  k _ y.1 y.2.1 ⟨Nat.lt_succ_self _, by rw [y.2.2]⟩
/-- a state, taken apart -/
theorem SR.elim {h : Heap} {P : Prop} (S : SR C c ρ σ h) (k : ∀ m news, Fr c.h₀ c.L h m → News c.h₀ c.L h news → LocR C.V ρ σ.next σ.loc m → Objs c.X C.V ρ σ.next C.prog C.w σ.objs news → Nd (news.map (·.1)) → P) : P :=
  let ⟨m, news, F, N, l, Ob, nd⟩ := S
  k m news F N l Ob nd
theorem Fm.Ok.keeps {n : Nat} {h : Heap} (O : c.Ok C A n) (S : SR C c ρ σ h) : C.K.In h := S.elim fun _ _ F _ _ _ _ => O.X.keeps F.keep

section
variable {X news : List (Addr × Obj)} {V : Nat → Int} {n : Nat} {prog : Program} {w : World} {os : List (Nat × AO)} {h₀ h : Heap} {L : Addr} {j : Nat} {P : Prop}
/-- a list, a tuple, a dict of the ledger as it lies -/
theorem Objs.lst {vs : List AV} (Ob : Objs X V ρ n prog w os news) (N : News h₀ L h news) (e : os.lookup j = some (.list vs)) (k : ∀ (its : List Value) (k1 : Nat), (ρ j, W.listOf its.toArray k1) ∈ news → h.IsList (ρ j) its.toArray → F2 (VR V ρ n) vs its → vs.length = its.length → P) : P := by
  obtain ⟨_, o1, m1, its, k1, rfl, r1⟩ := Ob.get e
  exact k its k1 m1 ⟨_, (N _ m1).1, rfl, _, rfl⟩ r1 r1.len
theorem Objs.tpl {vs : List AV} (Ob : Objs X V ρ n prog w os news) (N : News h₀ L h news) (e : os.lookup j = some (.tuple vs)) (k : ∀ its : List Value, (ρ j, tupOf its.toArray) ∈ news → h.get? (ρ j) = some (tupOf its.toArray) → F2 (VR V ρ n) vs its → vs.length = its.length → P) : P := by
  obtain ⟨_, o1, m1, its, rfl, r1⟩ := Ob.get e
  exact k its m1 (N _ m1).1 r1 r1.len
theorem Objs.idc {es : List (Int × AV)} (Ob : Objs X V ρ n prog w os news) (N : News h₀ L h news) (e : os.lookup j = some (.idict es)) (k : ∀ (o : Obj) (kvs : List (Int × Value)), (ρ j, o) ∈ news → Obj.IsDictOf (intKind prog w) o kvs → h.DictOf (intKind prog w) (ρ j) kvs → F2 (IR V ρ n) es kvs → P) : P := by
  obtain ⟨_, o1, m1, _, kvs, hd, r1⟩ := Ob.get e
  exact k o1 kvs m1 hd (Heap.dictOf_iff.mpr ⟨o1, (N _ m1).1, hd⟩) r1
end

theorem small_fit {V : Nat → Int} {x : SI} (h : x.small = true) : Builtin.Int.intBits (x.den V) ≤ 64 := by
  cases x with
  | c i =>
    have h' : i.natAbs < 4611686018427387904 := of_decide_eq_true h
    exact intBits_le_64 (by show -(2 ^ 64) < i; omega) (by show i < 2 ^ 64; omega)
  | mod a m =>
    have h' : (match cst m with | some i => decide (0 < i) && decide (i.natAbs < 4611686018427387904) | none => false) = true := h
    cases hm : cst m with
    | none => rw [hm] at h'; exact no h'
    | some i =>
      rw [hm] at h'
      have h0 : 0 < i := of_decide_eq_true (al h')
      have h1 : i.natAbs < 4611686018427387904 := of_decide_eq_true (ar h')
      have e : (SI.mod a m).den V = (a.den V).fmod i := by rw [cst_eq hm]; rfl
      have h2 := Int.fmod_nonneg_of_pos (a.den V) h0
      have h3 := Int.fmod_lt_of_pos (a.den V) h0
      rw [e]
      exact intBits_le_64 (by omega) (by omega)
  | _ => exact no h
theorem mul_ok {a b : Int} (h : Builtin.Int.intBits a ≤ 64 ∨ Builtin.Int.intBits b ≤ 64) : IntMulOk a b := h.elim IntMulOk.of_left IntMulOk.of_right
theorem div_ok {a b : Int} (h : b.natAbs < 4611686018427387904) : ¬ Builtin.divisionGoesByPylong a b = true := by
  unfold Builtin.divisionGoesByPylong
  simp only [Bool.and_eq_true, decide_eq_true_eq, not_and]
  intro q
  exfalso
  split at q
  · omega
  · rename_i hb
    have hb' : b.natAbs ≠ 0 := by simpa using hb
    have : b.natAbs.log2 < 62 := (Nat.log2_lt hb').mpr (by simpa using h)
    omega

section
variable {V : Nat → Int} {x y : SI} {j : Int}
theorem cst2 {α : Type} {f : Int → Int → α} {d : α} {P : α → Prop} (h1 : ∀ i j, x = .c i → y = .c j → P (f i j)) (h2 : P d) : P (match cst x, cst y with | some i, some j => f i j | _, _ => d) := by
  cases hx : cst x with
  | none => exact h2
  | some i => cases hy : cst y with
    | none => exact h2
    | some j => exact h1 i j (cst_eq hx) (cst_eq hy)
theorem cst1 {α : Type} {f : Int → α} {d : α} {P : α → Prop} (h1 : ∀ i, x = .c i → P (f i)) (h2 : P d) : P (match cst x with | some i => f i | none => d) := by
  cases hx : cst x with
  | none => exact h2
  | some i => exact h1 i (cst_eq hx)
theorem addS_den : (addS x y).den V = x.den V + y.den V := cst2 (P := fun z : SI => z.den V = x.den V + y.den V) (fun i j a b => by subst a b; rfl) rfl
theorem subS_den : (subS x y).den V = x.den V - y.den V := cst2 (P := fun z : SI => z.den V = x.den V - y.den V) (fun i j a b => by subst a b; rfl) rfl
theorem mulS_den : (mulS x y).den V = x.den V * y.den V := cst2 (P := fun z : SI => z.den V = x.den V * y.den V) (fun i j a b => by subst a b; rfl) rfl
theorem modS_den : (modS x j).den V = (x.den V).fmod j := cst1 (P := fun z : SI => z.den V = (x.den V).fmod j) (fun i a => by subst a; rfl) rfl
theorem divS_den : (divS x j).den V = (x.den V).fdiv j := cst1 (P := fun z : SI => z.den V = (x.den V).fdiv j) (fun i a => by subst a; rfl) rfl
theorem nats_inv {f : Nat → Nat → SI} {r : SI} {P : SI → SI → Prop} (h : nats x y f = some r) (k : ∀ i j : Nat, r = f i j → P (.c (.ofNat i)) (.c (.ofNat j))) : P x y :=
  onCst_inv (P := fun x => P x y) h fun i h => onCst_inv (P := fun y => P (.c i) y) h fun j h => onNat_inv (P := fun i => P (.c i) (.c j)) h fun i h => onNat_inv (P := fun j => P (.c (.ofNat i)) (.c j)) h fun j h => k i j (so h).symm
end

theorem shr_zero {i j : Nat} (hb : Builtin.Int.intBits (Int.ofNat i) ≤ j) : i >>> j = 0 := by
  rw [Nat.shiftRight_eq_div_pow]
  refine Nat.div_eq_of_lt ?_
  unfold Builtin.Int.intBits at hb
  by_cases hi : i = 0
  · subst hi; exact Nat.two_pow_pos j
  · rw [if_neg (by simpa using hi)] at hb
    exact (Nat.log2_lt hi).mp (Nat.lt_of_succ_le (by simpa using hb))
theorem shr_some {i j : Nat} : (Int.ofNat i : Int).fdiv (2 ^ (Int.ofNat j).toNat) = Int.ofNat (i >>> j) := by
  show (Int.ofNat i : Int).fdiv (2 ^ j) = ((i >>> j : Nat) : Int)
  have h2 : (2 : Int) ^ j = ((2 ^ j : Nat) : Int) := by simp
  rw [Nat.shiftRight_eq_div_pow, h2, Int.fdiv_eq_ediv_of_nonneg _ (Int.natCast_nonneg _)]
  rfl
theorem bor_nat {i j : Nat} : Builtin.bitOr (Int.ofNat i) (Int.ofNat j) = Int.ofNat (i ||| j) := by
  unfold Builtin.bitOr
  rw [bitAnd_nn (by simp [Builtin.bitNot]; omega) (by simp [Builtin.bitNot]; omega)]
  have h : ∀ k : Nat, (Builtin.bitNot (Builtin.bitNot (Int.ofNat k))).toNat = k := fun k => by show (Builtin.bitNot (Builtin.bitNot ((k : Nat) : Int))).toNat = k; simp only [Builtin.bitNot]; omega
  rw [h, h]
  simp only [Builtin.bitNot]
  show - (-((i ||| j : Nat) : Int) - 1) - 1 = ((i ||| j : Nat) : Int)
  omega

section
variable {V : Nat → Int} {x y r : SI} {t u : Tok} {prog : Program} {w : World} {Q Er : Value → Shared → Prop}
theorem shr_sound {i j : Nat} (q : Q (.int (Int.ofNat (i >>> j)) s.toks) { s with toks := s.toks + 1 }) : wpAny (model prog w) A (binaryOp .RShift (.int (Int.ofNat i) t) (.int (Int.ofNat j) u)) Q Er s := by
  by_cases hb : Builtin.Int.intBits (Int.ofNat i) ≤ j
  · refine AutoIntOps.rshift_1 (Int.not_lt.mpr (Int.natCast_nonneg j)) (Int.ofNat_le.mpr hb) ?_
    rw [shr_zero hb] at q
    exact q
  · refine AutoIntOps.rshift_2 (Int.not_lt.mpr (Int.natCast_nonneg j)) (fun z => hb (Int.ofNat_le.mp z)) ?_
    rw [shr_some]
    exact q
theorem nz {j : Int} (h : (!decide (j = 0)) = true) : ¬ (j == 0) = true := by simpa using h
theorem int_sound {op : BOp} (e : intOp op x y = some r) (q : Q (.int (r.den V) s.toks) { s with toks := s.toks + 1 }) : wpAny (model prog w) A (binaryOp (opOf op) (.int (x.den V) t) (.int (y.den V) u)) Q Er s := by
  cases op with
  | add => rw [← so e, addS_den] at q; exact P.add_int q
  | sub => rw [← so e, subS_den] at q; exact P.sub_int q
  | mul =>
    rw [← so (gr e), mulS_den] at q
    exact P.mul_int q (mul_ok ((Bool.or_eq_true_iff.mp (gl e)).imp small_fit small_fit))
  | mod =>
    refine onCst_inv e fun j e => ?_
    rw [← so (gr e), modS_den] at q
    exact AutoIntOps.mod_1 (nz (gl e)) q
  | div =>
    refine onCst_inv e fun j e => ?_
    rw [← so (gr e), divS_den] at q
    exact AutoIntOps.floordiv_1 (nz (al (gl e))) (div_ok (of_decide_eq_true (ar (gl e)))) q
  | band =>
    refine nats_inv (P := fun x y => wpAny (model prog w) A (binaryOp .BitAnd (.int (x.den V) t) (.int (y.den V) u)) Q Er s) e fun i j hr => and_int ?_
    subst hr
    rw [show Builtin.bitAnd ((SI.c (.ofNat i)).den V) ((SI.c (.ofNat j)).den V) = Int.ofNat (i &&& j) from bitAnd_pp (Int.natCast_nonneg i) (Int.natCast_nonneg j)]
    exact q
  | bor =>
    refine nats_inv (P := fun x y => wpAny (model prog w) A (binaryOp .BitOr (.int (x.den V) t) (.int (y.den V) u)) Q Er s) e fun i j hr => or_int ?_
    subst hr
    rw [show Builtin.bitOr ((SI.c (.ofNat i)).den V) ((SI.c (.ofNat j)).den V) = Int.ofNat (i ||| j) from bor_nat]
    exact q
  | shr =>
    refine nats_inv (P := fun x y => wpAny (model prog w) A (binaryOp .RShift (.int (x.den V) t) (.int (y.den V) u)) Q Er s) e fun i j hr => ?_
    subst hr
    exact shr_sound q
  | pow =>
    refine onCst_inv e fun i e => onCst_inv e fun j e => ?_
    have hi : i = 10 := of_decide_eq_true (al (gl e))
    have hj : j = 18 := of_decide_eq_true (ar (gl e))
    subst hi hj
    rw [← so (gr e)] at q
    exact AutoIntOps.pow_4 (a := 10) (b := 18) (by decide) (by decide) (by decide) (by decide) (by decide +kernel) q
end

theorem isAdd_eq {op : BOp} (h : isAdd op = true) : op = .add := by cases op <;> first | rfl | exact no h
theorem ne_of_full {α β : Type} {xs : List α} {ys : List β} (h : (!xs.isEmpty) = true) (e : xs.length = ys.length) : ys ≠ [] := fun z => by
  subst z
  cases xs with
  | nil => exact no h
  | cons => cases e

theorem addO_sound {ao : AO} {i j : Nat} {v : AV} (hx : σ.obj i = some ao) (e : addO σ ao j = some (v, σ')) (S : SR C c ρ σ s.heap) :
    Gives C c A (binaryOp .Add (.ref (ρ i)) (.ref (ρ j))) ρ σ σ' v s := fun Q Er q => S.elim fun m news F N l Ob nd => by
  have lt : ∀ p ∈ news, p.1 < s.heap.objs.size := fun p hp => Heap.lt_size (N p hp).1
  cases ao with
  | tuple xs =>
    refine tup_inv e fun ys hy e => Ob.tpl N hx fun its1 _ i1 r1 e1 => Ob.tpl N hy fun its2 _ i2 r2 e2 => ?_
    have hz := gl e
    cases so (gr e)
    refine add_tuples F N ⟨_, i1, rfl, _, rfl⟩ ⟨_, i2, rfl, _, rfl⟩ (fun z => (ne_of_full (ar (al hz)) e1 z).elim) (fun _ z => (ne_of_full (ar hz) e2 z).elim)
      (fun _ _ h' F' N' => SR.give F' N' l Ob nd (fun z => nomatch z) lt (ao := .tuple (xs ++ ys)) ⟨_, rfl, r1.append r2⟩ fun ρ' => q ρ' _ h' _) (by have := of_decide_eq_true (al (al hz)); rw [sizeLine_eq]; omega)
  | list xs =>
    refine list_inv e fun ys hy e => Ob.lst N hx fun its1 _ _ i1 r1 e1 => Ob.lst N hy fun its2 _ _ i2 r2 e2 => ?_
    have hz := of_decide_eq_true (gl e)
    cases so (gr e)
    exact add_lists F N i1 i2 (fun h' F' N' => SR.give F' N' l Ob nd (fun z => nomatch z) lt (ao := .list (xs ++ ys)) ⟨_, 0, rfl, r1.append r2⟩ fun ρ' => q ρ' _ h' _) (by rw [sizeLine_eq]; omega)
  | _ => exact nso e

/-- what an operator gives, over the heap as it lies -/
theorem bin_sound {op : BOp} {a b v : AV} {ca cb : Value} (ha : VR C.V ρ σ.next a ca) (hb : VR C.V ρ σ.next b cb) (e : binOp op a b σ = some (v, σ')) (S : SR C c ρ σ s.heap) :
    Gives C c A (binaryOp (opOf op) ca cb) ρ σ σ' v s := by
  cases a with
  | int x =>
    obtain ⟨t, rfl⟩ := ha
    refine int_inv e hb fun y u e => ob_inv e fun r e1 e => ?_
    cases so e
    exact fun Q Er q => int_sound e1 (q ρ _ s.heap _ Ext.refl S ⟨_, rfl⟩)
  | bytes x =>
    obtain ⟨xa, t, rfl, rfl⟩ := ha
    refine byt_inv e hb fun ya u e => ?_
    have hz := gl e
    cases so (gr e)
    have := isAdd_eq (al hz)
    subst this
    have hz := of_decide_eq_true (ar hz)
    rw [List.length_map, List.length_map] at hz
    exact fun Q Er q => KBy.add_bytes (by simp only [Array.length_toList] at hz; omega) fun t' k => q ρ _ s.heap _ Ext.refl S ⟨_, _, rfl, by simp⟩
  | own i =>
    obtain ⟨_, rfl⟩ := ha
    refine own_inv e hb fun j _ _ e => ob_inv (gr e) fun ao hx e' => ?_
    have := isAdd_eq (gl e)
    subst this
    exact addO_sound hx e' S
  | _ => exact nso e
end
end Mine

-- D6
namespace Mine
open PySem PySem.W PySem.Calls PyProof.Rows PySem.SeqAt

section
variable {C : Cx} {c : Fm} {A : Around} {ρ : Nat → Addr} {σ σ' : St} {s : Shared}

theorem Objs0.inj {V : Nat → Int} {n : Nat} {prog : Program} {w : World} {os : List (Nat × AO)} {news : List (Addr × Obj)} (h : Objs0 V ρ n prog w os news) (nd : (news.map (·.1)).Nodup) {i j : Nat} {x y : AO}
    (hi : os.lookup i = some x) (hj : os.lookup j = some y) (e : ρ i = ρ j) : i = j := by
  induction h with
  | nil => cases hi
  | @cons p q as bs r rs ih =>
    have nd' := List.nodup_cons.mp nd
    have far : ∀ {k z}, as.lookup k = some z → ρ k ≠ ρ p.1 := fun {k z} hk hz =>
      (Objs0.get rs hk).2.elim fun o m => nd'.1 (List.mem_map.mpr ⟨_, m.1, hz.trans r.2.1.symm⟩)
    exact lkc hi (fun h1 _ => lkc hj (fun h2 _ => h1.trans h2.symm) fun _ hj => absurd (e.symm.trans (congrArg ρ h1)) (far hj)) fun _ hi => lkc hj (fun h2 _ => absurd (e.trans (congrArg ρ h2)) (far hi)) fun _ hj => ih nd'.2 hi hj
theorem Objs.inj {X : List (Addr × Obj)} {V : Nat → Int} {n : Nat} {prog : Program} {w : World} {os : List (Nat × AO)} {news : List (Addr × Obj)} (h : Objs X V ρ n prog w os news) (nd : (news.map (·.1)).Nodup) {i j : Nat} {x y : AO}
    (hi : os.lookup i = some x) (hj : os.lookup j = some y) (e : ρ i = ρ j) : i = j := by
  obtain ⟨own, rfl, h⟩ := h
  exact h.inj (nd_left nd) hi hj e

noncomputable def EQ3 (A : Around) (s : Shared) (x y : Value) (r : Bool) : Prop := EqAt A s x y r ∧ RcAt A s x y r ∧ RcNeAt A s x y (!r)

theorem eqL_sound {V : Nat → Int} {n : Nat} {eq : AV → AV → Option Bool} (he : ∀ x y r cx cy, eq x y = some r → VR V ρ n x cx → VR V ρ n y cy → EqAt A s cx cy r)
    {xs : List AV} {its1 : List Value} (h1 : F2 (VR V ρ n) xs its1) : ∀ {ys : List AV} {its2 : List Value} {r : Bool}, F2 (VR V ρ n) ys its2 → eqL eq xs ys = some r →
      its1.length = its2.length ∧ ∃ f : Nat → Bool, (∀ j (h1 : j < its1.length) (h2 : j < its2.length), EqAt A s its1[j] its2[j] (f j)) ∧ (List.range its1.length).all f = r := by
  induction h1 with
  | nil =>
    intro ys its2 r h2 e
    cases isEmpty_eq (gl e)
    cases h2
    exact ⟨rfl, fun _ => true, fun j h => absurd h (Nat.not_lt_zero _), so (gr e)⟩
  | cons q1 rs1 ih =>
    intro ys its2 r h2 e
    cases h2 with
    | nil => exact nso e
    | cons q2 rs2 =>
      refine ob_inv e fun b eb e => ob_inv e fun r' er e => ?_
      obtain ⟨l, f, hf, hr⟩ := ih rs2 er
      refine ⟨congrArg Nat.succ l, fun j => Nat.rec b (fun j _ => f j) j, fun j g1 g2 => ?_, ?_⟩
      · cases j with
        | zero => exact he _ _ _ _ _ eb q1 q2
        | succ j => exact hf j (Nat.lt_of_succ_lt_succ g1) (Nat.lt_of_succ_lt_succ g2)
      · rw [List.length_cons, List.range_succ_eq_map, List.all_cons, List.all_map, ← so e, ← hr]
        rfl
theorem EQ3.lists {a b : Addr} {its1 its2 : List Value} {r : Bool} (ne : a ≠ b) (i1 : s.heap.IsList a its1.toArray) (i2 : s.heap.IsList b its2.toArray) (hu : A.units < cLine)
    (h : its1.length = its2.length ∧ ∃ f : Nat → Bool, (∀ j (h1 : j < its1.length) (h2 : j < its2.length), EqAt A.in1 s its1[j] its2[j] (f j)) ∧ (List.range its1.length).all f = r) : EQ3 A s (.ref a) (.ref b) r := by
  obtain ⟨l, f, hf, rfl⟩ := h
  have q1 := RcAt.lists (A := A) (e := f) i1 i2 l hu hf
  exact ⟨.of_refs ne q1, q1, RcNeAt.lists (A := A) (e := f) i1 i2 l hu hf⟩
theorem EQ3.tuples {a b : Addr} {its1 its2 : List Value} {r : Bool} (ne : a ≠ b) (i1 : s.heap.IsTuple a its1.toArray) (i2 : s.heap.IsTuple b its2.toArray) (hu : A.units < cLine)
    (h : its1.length = its2.length ∧ ∃ f : Nat → Bool, (∀ j (h1 : j < its1.length) (h2 : j < its2.length), EqAt A.in1 s its1[j] its2[j] (f j)) ∧ (List.range its1.length).all f = r) : EQ3 A s (.ref a) (.ref b) r := by
  obtain ⟨l, f, hf, rfl⟩ := h
  have q1 := RcAt.tuples (A := A) (e := f) i1 i2 hu hf
  have q2 := RcNeAt.tuples (A := A) (e := f) i1 i2 hu hf
  rw [List.size_toArray, List.size_toArray, ← l, Nat.min_self, beq_self_eq_true, Bool.and_true] at q1 q2
  exact ⟨.of_refs ne q1, q1, q2⟩

theorem rc_bytes {a b : Array UInt8} {t u : Tok} : EQ3 A s (.bytes a t) (.bytes b u) (a.toList == b.toList) :=
  ⟨fun prog w E Q h => eqBool_bytes (by rw [show decide (a.toList = b.toList) = (a.toList == b.toList) from by rw [Bool.eq_iff_iff]; simp]; exact h),
   fun prog w E Q h => richCompare_gives (op := .Eq) (T := "bytes") rfl rfl FB.slot_bytes_eq FB.entry_bytes_eq (FB.args_bytes_eq_2 _ _) (gives_bytes_eq a b t u) (fun x => nomatch x) h,
   fun prog w E Q h => richCompare_gives (op := .NotEq) (T := "bytes") rfl rfl FB.slot_bytes_ne FB.entry_bytes_ne (FB.args_bytes_ne_2 _ _) (gives_bytes_ne a b t u) (fun x => nomatch x) h⟩

theorem mem_lookup {α β : Type} [BEq α] [LawfulBEq α] {l : List (α × β)} {k : α} {v : β} (h : l.lookup k = some v) : (k, v) ∈ l := by
  induction l with
  | nil => cases h
  | cons p r ih => exact lkc h (fun a b => by subst a b; exact .head _) fun _ h => .tail _ (ih h)
theorem ask {F : Facts} {V : Nat → Int} (hF : F.Ok V) {k : SC} {r : Bool} (h : F.lookup k = some r) : k.den V ↔ r = true := hF _ (mem_lookup h)
theorem askLt_sound {F : Facts} {V : Nat → Int} (hF : F.Ok V) {a b : SI} {r : Bool} (e : askLt F a b = some r) : decide (a.den V < b.den V) = r :=
  cst2 (x := a) (y := b) (f := fun i j => some (decide (i < j))) (d := List.lookup (SC.lt a b) F) (P := fun o => o = some r → decide (a.den V < b.den V) = r) (fun i j h1 h2 e => by subst h1 h2; exact so e) (fun e => by
    rw [Bool.eq_iff_iff, decide_eq_true_iff]; exact ask hF e) e
theorem askEq_sound {F : Facts} {V : Nat → Int} (hF : F.Ok V) {a b : SI} {r : Bool} (e : askEq F a b = some r) : decide (a.den V = b.den V) = r :=
  cst2 (x := a) (y := b) (f := fun i j => some (decide (i = j))) (d := if a = b then some true else List.lookup (SC.eq a b) F) (P := fun o => o = some r → decide (a.den V = b.den V) = r) (fun i j h1 h2 e => by subst h1 h2; exact so e) (fun e => by
    by_cases q : a = b
    · rw [if_pos q] at e
      rw [← so e]
      exact decide_eq_true (congrArg (·.den V) q)
    · rw [if_neg q] at e
      rw [Bool.eq_iff_iff, decide_eq_true_iff]; exact ask hF e) e

theorem nat_map_inj {x y : Array UInt8} : decide (x.toList.map UInt8.toNat = y.toList.map UInt8.toNat) = (x.toList == y.toList) := by
  rw [Bool.eq_iff_iff, decide_eq_true_iff, beq_iff_eq]
  exact ⟨fun q => List.map_inj_right (fun _ _ h => UInt8.toNat_inj.mp h) |>.mp q, fun q => by rw [q]⟩
theorem str_dec {x y : Str} {k j : Nat} (hx : enc x = some k) (hy : enc y = some j) : decide (k = j) = (x == y) := by
  rw [Bool.eq_iff_iff, decide_eq_true_iff, beq_iff_eq]
  exact ⟨fun q => enc_inj hx (q ▸ hy), fun q => by subst q; exact Option.some.inj (hx.symm.trans hy)⟩
theorem plain_none {V : Nat → Int} {n : Nat} {b : AV} {cb : Value} (h : plainAV b = true) (hb : VR V ρ n b cb) : EQ3 A s .none cb false := by
  cases b <;> first | exact no h | (obtain ⟨t, rfl⟩ := hb; exact ⟨.none_int _ _, .none_int _ _, .none_int _ _⟩) | (obtain ⟨x, t, rfl, _⟩ := hb; exact ⟨.none_str _ _, .none_str _ _, .none_str _ _⟩)

noncomputable def EqOk (C : Cx) (ρ : Nat → Addr) (σ : St) (s : Shared) (n : Nat) : Prop :=
  ∀ {A : Around} {a b : AV} {ca cb : Value} {r : Bool}, A.units + n < cLine → eqA C.G.F σ n a b = some r → VR C.V ρ σ.next a ca → VR C.V ρ σ.next b cb → EQ3 A s ca cb r
theorem eqO_sound {n : Nat} {news : List (Addr × Obj)} (N : News c.h₀ c.L s.heap news) (Ob : Objs c.X C.V ρ σ.next C.prog C.w σ.objs news) (nd : (news.map (·.1)).Nodup) (ih : EqOk C ρ σ s n) {i j : Nat} {r : Bool} (hu : A.units + (n + 1) < cLine) (e : eqA C.G.F σ (n + 1) (.own i) (.own j) = some r) : EQ3 A s (.ref (ρ i)) (.ref (ρ j)) r := by
  have hu' : A.units < cLine := by omega
  have hi : ∀ x y r cx cy, eqA C.G.F σ n x y = some r → VR C.V ρ σ.next x cx → VR C.V ρ σ.next y cy → EqAt A.in1 s cx cy r := fun x y r cx cy e hx hy => (ih (A := A.in1) (by show A.units + 1 + n < cLine; omega) e hx hy).1
  refine ob_inv (gr e) fun ao hx e' => ?_
  have ne : ∀ {y}, σ.objs.lookup j = some y → ρ i ≠ ρ j := fun hy q => of_decide_eq_false (by simpa using gl e) (Ob.inj nd hx hy q)
  cases ao with
  | list xs =>
    refine list_inv e' fun ys hy e => Ob.lst N hx fun its1 _ _ i1 r1 l1 => Ob.lst N hy fun its2 _ _ i2 r2 l2 => ?_
    cases hd : decide (xs.length = ys.length) with
    | true => rw [hd] at e; exact .lists (ne hy) i1 i2 hu' (eqL_sound hi r1 r2 e)
    | false =>
      rw [hd] at e
      cases e
      have hl : (its1.toArray.size != its2.toArray.size) = true := bne_iff_ne.mpr fun z => of_decide_eq_false hd (l1.trans ((z : its1.length = its2.length).trans l2.symm))
      have q1 := RcAt.lists_lengths (A := A) i1 i2 hl hu'
      exact ⟨.of_refs (ne hy) q1, q1, RcNeAt.lists_lengths (A := A) i1 i2 hl hu'⟩
  | tuple xs => exact tup_inv e' fun ys hy e => Ob.tpl N hx fun its1 _ i1 r1 l1 => Ob.tpl N hy fun its2 _ i2 r2 l2 => .tuples (ne hy) ⟨_, i1, rfl, _, rfl⟩ ⟨_, i2, rfl, _, rfl⟩ hu' (eqL_sound hi r1 r2 e)
  | _ => exact nso e'
theorem eqA_sound (hF : C.G.F.Ok C.V) {news : List (Addr × Obj)} (N : News c.h₀ c.L s.heap news) (Ob : Objs c.X C.V ρ σ.next C.prog C.w σ.objs news) (nd : (news.map (·.1)).Nodup) (n : Nat) : EqOk C ρ σ s n := by
  induction n with
  | zero => exact fun _ e => nso e
  | succ n ih =>
    intro A a b ca cb r hu e ha hb
    cases a with
    | none =>
      cases ha
      cases b <;> first
        | (cases hb; cases so e; exact ⟨.same _, .none_none, .none_none⟩)
        | (cases so (gr e); exact plain_none (gl e) hb)
    | bool x =>
      cases ha
      refine bool_inv e hb fun y e => ?_
      cases so e
      exact ⟨.bool_bool _ _, .bool_bool _ _, .bool_bool _ _⟩
    | int x =>
      obtain ⟨t, rfl⟩ := ha
      cases b <;> first
        | (obtain ⟨u, rfl⟩ := hb; cases askEq_sound hF e; exact ⟨.int_int _ _ _ _, .int_int _ _ _ _, .int_int _ _ _ _⟩)
        | (cases hb; cases so e; exact ⟨.int_none _ _, .int_none _ _, .int_none _ _⟩)
        | exact nso e
    | str x =>
      obtain ⟨x, t, rfl, hx⟩ := ha
      cases b <;> first
        | (obtain ⟨y, u, rfl, hy⟩ := hb; cases so e; rw [str_dec hx hy]; exact ⟨.str_str _ _ _ _, .str_str _ _ _ _, .str_str _ _ _ _⟩)
        | (cases hb; cases so e; exact ⟨.str_none _ _, .str_none _ _, .str_none _ _⟩)
        | exact nso e
    | bytes x =>
      obtain ⟨x, t, rfl, rfl⟩ := ha
      refine byt_inv e hb fun y u e => ?_
      cases so e
      rw [nat_map_inj]
      exact rc_bytes
    | own i =>
      obtain ⟨_, rfl⟩ := ha
      refine own_inv e hb fun j hj _ _ => ?_
      subst hj
      exact eqO_sound N Ob nd ih hu e
    | _ => exact nso e
end
end Mine

-- D7
namespace Mine
open PySem PySem.W PySem.Calls PyProof.Rows PySem.SeqAt

section
variable {V : Nat → Int} {ρ : Nat → Addr} {n : Nat} {es : List (Int × AV)} {kvs : List (Int × Value)}
theorem idict_find (h : F2 (IR V ρ n) es kvs) (k : Int) : (es.lookup k = none ∧ valueAt kvs k = none) ∨ ∃ av v, es.lookup k = some av ∧ valueAt kvs k = some v ∧ VR V ρ n av v := by
  induction h with
  | nil => exact .inl ⟨rfl, rfl⟩
  | @cons p q _ _ r _ ih =>
    unfold valueAt
    rw [List.lookup_cons, List.find?_cons, ← r.1]
    by_cases z : p.1 = k
    · rw [z, beq_self_eq_true, decide_eq_true rfl]
      exact .inr ⟨p.2, q.2, rfl, rfl, r.2⟩
    · rw [beq_false_of_ne (Ne.symm z), decide_eq_false z]
      exact ih
theorem idict_any (h : F2 (IR V ρ n) es kvs) (k : Int) : es.any (fun p => decide (p.1 = k)) = kvs.any (fun p => decide (p.1 = k)) := by
  induction h with
  | nil => rfl
  | cons r _ ih => rw [List.any_cons, List.any_cons, ih, r.1]
theorem idict_map {av : AV} {v : Value} (hv : VR V ρ n av v) (h : F2 (IR V ρ n) es kvs) (k : Int) :
    F2 (IR V ρ n) (es.map (fun p => if p.1 = k then (p.1, av) else p)) (kvs.map (fun p => if p.1 = k then (p.1, v) else p)) := by
  induction h with
  | nil => exact .nil
  | @cons p q _ _ r _ ih =>
    refine .cons ?_ ih
    by_cases z : p.1 = k
    · show IR V ρ n (if p.1 = k then (p.1, av) else p) (if q.1 = k then (q.1, v) else q)
      rw [if_pos z, if_pos (r.1 ▸ z)]; exact ⟨r.1, hv⟩
    · show IR V ρ n (if p.1 = k then (p.1, av) else p) (if q.1 = k then (q.1, v) else q)
      rw [if_neg z, if_neg (r.1 ▸ z)]; exact r
theorem idict_stored (h : F2 (IR V ρ n) es kvs) {av : AV} {v : Value} (hv : VR V ρ n av v) (k : Int) : F2 (IR V ρ n) (setI k av es) (stored kvs k v) := by
  unfold setI stored
  rw [idict_any h k]
  by_cases q : kvs.any (fun p => decide (p.1 = k)) = true
  · rw [if_pos q, if_pos q]; exact idict_map hv h k
  · rw [if_neg q, if_neg q]; exact h.append (.cons ⟨rfl, hv⟩ .nil)
theorem idict_without (h : F2 (IR V ρ n) es kvs) (k : Int) : F2 (IR V ρ n) (es.filter (fun p => decide (p.1 ≠ k))) (without kvs k) := by
  unfold without
  induction h with
  | nil => exact .nil
  | @cons p q _ _ r _ ih =>
    rw [List.filter_cons, List.filter_cons, ← r.1]
    by_cases z : p.1 = k
    · rw [if_neg (by simp [z]), if_neg (by simp [z])]; exact ih
    · rw [if_pos (by simp [z]), if_pos (by simp [z])]; exact .cons r ih
end

section
variable {C : Cx} {c : Fm} {A : Around} {ρ : Nat → Addr} {σ σ' : St} {s : Shared}

theorem isNone_sound {V : Nat → Int} {n : Nat} {a : AV} {ca : Value} {r : Bool} (h : isNone a = some r) (ha : VR V ρ n a ca) : (ca == Value.none) = r := by
  cases a with
  | none => cases ha; cases h; rfl
  | bool b => cases ha; cases h; rfl
  | int e => obtain ⟨t, rfl⟩ := ha; cases h; rfl
  | str k => obtain ⟨x, t, rfl, _⟩ := ha; cases h; rfl
  | bytes b => obtain ⟨x, t, rfl, _⟩ := ha; cases h; rfl
  | own j => obtain ⟨_, rfl⟩ := ha; cases h; rfl
  | _ => cases h

theorem any_key {V : Nat → Int} {n : Nat} {eq : AV → AV → Option Bool} {A : Around} {a : AV} {ca : Value} (he : ∀ x r cx, eq x a = some r → VR V ρ n x cx → EqAt A s cx ca r)
    {xs : List AV} {its : List Value} (h : F2 (VR V ρ n) xs its) : ∀ {r : Bool}, anyA eq a xs = some r →
    (∀ y, y ∈ its → EqAt A s y ca true ∨ EqAt A s y ca false) ∧ (r = false → ∀ y, y ∈ its → EqAt A s y ca false) ∧ (r = true → ∃ y, y ∈ its ∧ EqAt A s y ca true) := by
  induction h with
  | nil => intro r e; cases e; exact ⟨fun _ h => (nomatch h), fun _ _ h => (nomatch h), fun h => nomatch h⟩
  | cons hx hs ih =>
    intro r e
    refine ob_inv e fun b eb e => ob_inv e fun b' eb' e => ?_
    cases so e
    obtain ⟨i1, i2, i3⟩ := ih eb'
    have q := he _ _ _ eb hx
    cases b with
    | true => exact ⟨fun z hz => (List.mem_cons.mp hz).elim (fun e => .inl (e ▸ q)) (i1 z), fun hr => (nomatch hr), fun _ => ⟨_, .head _, q⟩⟩
    | false => exact ⟨fun z hz => (List.mem_cons.mp hz).elim (fun e => .inr (e ▸ q)) (i1 z), fun hr z hz => (List.mem_cons.mp hz).elim (fun e => e ▸ q) (i2 hr z), fun hr => (i3 hr).imp fun _ w => ⟨.tail _ w.1, w.2⟩⟩
open Classical in
theorem anyA_sound {V : Nat → Int} {n : Nat} {eq : AV → AV → Option Bool} {A : Around} {a : AV} {ca : Value} (he : ∀ x r cx, eq x a = some r → VR V ρ n x cx → EqAt A s cx ca r)
    {xs : List AV} {its : List Value} {r : Bool} (h : F2 (VR V ρ n) xs its) (e : anyA eq a xs = some r) : ∃ e : Value → Bool, (∀ y, y ∈ its.toArray → EqAt A s y ca (e y)) ∧ its.toArray.any e = r := by
  obtain ⟨k1, k2, k3⟩ := any_key he h e
  cases r with
  | false => exact ⟨fun _ => false, fun y hy => k2 rfl y (List.mem_toArray.mp hy), by rw [List.any_toArray]; exact List.any_eq_false.mpr fun _ _ => Bool.false_ne_true⟩
  | true =>
    refine ⟨fun y => decide (EqAt A s y ca true), fun y hy => ?_, ?_⟩
    · by_cases q : EqAt A s y ca true
      · show EqAt A s y ca (decide (EqAt A s y ca true)); rw [decide_eq_true q]; exact q
      · show EqAt A s y ca (decide (EqAt A s y ca true)); rw [decide_eq_false q]; exact (k1 y (List.mem_toArray.mp hy)).resolve_left q
    · obtain ⟨z, hz, w⟩ := k3 rfl
      rw [List.any_toArray]
      exact List.any_eq_true.mpr ⟨z, hz, decide_eq_true w⟩

theorem not_lt_le (a b : Int) : (!decide (b < a)) = decide (a ≤ b) := by rw [Bool.eq_iff_iff]; simp
theorem has_sound (hF : C.G.F.Ok C.V) {news : List (Addr × Obj)} (N' : News c.h₀ c.L s.heap news) (Ob : Objs c.X C.V ρ σ.next C.prog C.w σ.objs news) (nd : (news.map (·.1)).Nodup) {a b : AV} {ca cb : Value} {r : Bool} (hu : A.units + 10 < cLine) (ha : VR C.V ρ σ.next a ca) (hb : VR C.V ρ σ.next b cb)
    (e : hasA C.G.F σ a b = some r) {Q Er : Value → Shared → Prop} (f0 : Q (.bool r) s) (f1 : Q (.bool r) { s with toks := s.toks + 1 }) : wpAny (MM C) A (compareOp .In ca cb) Q Er s := by
  have eqs : ∀ x r cx, eqA C.G.F σ 1 x a = some r → VR C.V ρ σ.next x cx → EqAt A.in1 s cx ca r := fun x r cx e hx => (eqA_sound hF N' Ob nd 1 (A := A.in1) (by show A.units + 1 + 1 < cLine; omega) e hx ha).1
  refine own_inv e hb fun j _ _ e => ob_inv e fun ao hx e => ?_
  cases ao with
  | tuple vs => exact Ob.tpl N' hx fun its _ i1 r1 _ => (anyA_sound eqs r1 e).elim fun ee h => in_tupleAt (items := its.toArray) ee ⟨_, i1, rfl, _, rfl⟩ h.1 (h.2 ▸ f0)
  | list vs => exact Ob.lst N' hx fun its _ _ i1 r1 _ => (anyA_sound eqs r1 e).elim fun ee h => in_listAt (items := its.toArray) ee i1 h.1 (h.2 ▸ f0)
  | idict es =>
    refine int_inv e ha fun x t e => onCst_inv e fun i e => ?_
    cases so e
    refine Ob.idc N' hx fun o kvs m1 hd _ r1 => kda_in N' m1 hd (Ob.lo hx rfl) (k := i) (by show (i == i) = true; exact beq_self_eq_true i) _ ?_ f1
    rcases idict_find r1 i with ⟨h1, h2⟩ | ⟨av, v, h1, h2, _⟩ <;> rw [h1, h2] <;> rfl
  | _ => exact nso e
theorem cmp_sound {N : Nat} {NT : List Str} (G : C.Ok N NT) {op : COp} {a b : AV} {ca cb : Value} {r : Bool} {n : Nat} (O : c.Ok C A n) (ha : VR C.V ρ σ.next a ca) (hb : VR C.V ρ σ.next b cb) (e : cmpA C.G.F σ op a b = some r) (S : SR C c ρ σ s.heap) :
    Gives C c A (compareOp (cmpOf op) ca cb) ρ σ σ (.bool r) s := by
  intro Q Er q
  have fin : Q (.bool r) s := q ρ _ s.heap s.toks Ext.refl S rfl
  have hu : A.units + 10 < cLine := by have := O.units; omega
  cases op with
  | is =>
    refine none_inv e hb fun e => is_none ?_
    rw [isNone_sound e ha]; exact fin
  | isNot =>
    refine none_inv e hb fun e => ?_
    obtain ⟨r', e', rfl⟩ := Option.map_eq_some_iff.mp e
    refine isNot_none ?_
    rw [isNone_sound e' ha]; exact fin
  | lt =>
    refine int_inv e ha fun x t e => int_inv e hb fun y u e => P.lt_int ?_
    rw [askLt_sound G.F e]; exact fin
  | gt =>
    refine int_inv e ha fun x t e => int_inv e hb fun y u e => P.gt_int ?_
    rw [← askLt_sound G.F e] at fin; exact fin
  | le =>
    refine int_inv e ha fun x t e => int_inv e hb fun y u e => ?_
    obtain ⟨r', e', rfl⟩ := Option.map_eq_some_iff.mp e
    rw [← askLt_sound G.F e', not_lt_le] at fin
    exact P.le_int fin
  | ge =>
    refine int_inv e ha fun x t e => int_inv e hb fun y u e => ?_
    obtain ⟨r', e', rfl⟩ := Option.map_eq_some_iff.mp e
    rw [← askLt_sound G.F e', not_lt_le] at fin
    exact P.ge_int fin
  | eq => exact S.elim fun m news _ N' _ Ob nd => (eqA_sound G.F N' Ob nd 5 (by omega) e ha hb).2.1 _ _ _ _ fin
  | ne =>
    obtain ⟨r', e', rfl⟩ := Option.map_eq_some_iff.mp e
    exact S.elim fun m news _ N' _ Ob nd => (eqA_sound G.F N' Ob nd 5 (by omega) e' ha hb).2.2 _ _ _ _ fin
  | in_ => exact S.elim fun m news _ N' _ Ob nd => has_sound G.F N' Ob nd hu ha hb e fin (q ρ _ s.heap _ Ext.refl S rfl)
end
end Mine

-- D8
namespace Mine
open PySem PySem.W PySem.Calls PyProof.Rows PySem.SeqAt

section
variable {C : Cx} {c : Fm} {A : Around} {ρ : Nat → Addr} {σ σ' : St} {s : Shared} {N : Nat} {NT : List Str} {R : Rec} {n k : Nat} {v : AV} {pos : Pos}

theorem Gives.done {t : Sem Value} {ρ₁ : Nat → Addr} {σ₁ : St} (x : Ext ρ σ.next ρ₁ σ₁.next) {s₁ : Shared} (g : Gives C c A t ρ₁ σ₁ σ' v s₁) {Q Er : Value → Shared → Prop} {h : Heap} {tk : Tok} (e : s₁ = { s with heap := h, toks := tk })
    (q : ∀ ρ' cv h' tk, Ext ρ σ.next ρ' σ'.next → SR C c ρ' σ' h' → VR C.V ρ' σ'.next v cv → Q cv { s with heap := h', toks := tk }) : wpAny (MM C) A t Q Er s₁ := by
  refine g Q Er fun ρ' cv h' tk' x' S' v' => ?_
  subst e
  exact q ρ' cv h' tk' (x.trans x') S' v'

theorem e_bin (H : Sound C N R n) (O : c.Ok C A n) (hk : k ≤ N) {op : BOp} {a b : X} {l r : Expr} (h1 : fitE C.K c.sc k a l = true) (h2 : fitE C.K c.sc k b r = true)
    (e : evalA C.G R σ (.bin op a b) = some (v, σ')) (S : SR C c ρ σ s.heap) : Gives C c A (eval (.BinOp l (opOf op) r pos) c.env) ρ σ σ' v s := fun Q Er q =>
  bd_inv e fun av σ₁ e1 e => bd_inv e fun bv σ₂ e2 e => wpAny_BinOp (H.E _ _ _ _ _ _ _ _ _ _ O hk h1 e1 S _ _ fun ρ₁ ca g₁ t₁ x₁ S₁ v₁ => H.E _ _ _ _ _ _ _ _ _ _ O hk h2 e2 S₁ _ _ fun ρ₂ cb g₂ t₂ x₂ S₂ v₂ =>
    Gives.done (σ := σ) (x₁.trans x₂) (bin_sound (v₁.mono x₂) v₂ e S₂) rfl q)

theorem e_not (H : Sound C N R n) (O : c.Ok C A n) (hk : k ≤ N) {a : X} {l : Expr} (h1 : fitE C.K c.sc k a l = true)
    (e : evalA C.G R σ (.not a) = some (v, σ')) (S : SR C c ρ σ s.heap) : Gives C c A (eval (.UnaryOp .Not l pos) c.env) ρ σ σ' v s := fun Q Er q =>
  bd_inv e fun av σ₁ e1 e => wpAny_UnaryOp (H.E _ _ _ _ _ _ _ _ _ _ O hk h1 e1 S _ _ fun ρ₁ ca g₁ t₁ x₁ S₁ v₁ => by
    refine bool_inv e v₁ fun b e => ?_
    cases so e
    exact not_value (wpAny_truthy_bool (q _ _ _ _ x₁ S₁ rfl)))

theorem e_and (H : Sound C N R n) (O : c.Ok C A n) (hk : k ≤ N) {a b : X} {l r : Expr} (h1 : fitE C.K c.sc k a l = true) (h2 : fitE C.K c.sc k b r = true)
    (e : evalA C.G R σ (.and a b) = some (v, σ')) (S : SR C c ρ σ s.heap) : Gives C c A (eval (.BoolOp .And [l, r] pos) c.env) ρ σ σ' v s := fun Q Er q =>
  bd_inv e fun av σ₁ e1 e => wpAny_And2 (H.E _ _ _ _ _ _ _ _ _ _ O hk h1 e1 S _ _ fun ρ₁ ca g₁ t₁ x₁ S₁ v₁ => by
    refine bool_inv e v₁ fun b e => wpAny_truthy_bool ?_
    cases b with
    | true =>
      rw [if_pos rfl]
      exact Gives.done (σ := σ) x₁ (H.E _ _ _ _ _ _ _ _ _ _ O hk h2 e S₁) rfl q
    | false =>
      cases so e
      rw [if_neg (by decide)]
      exact q _ _ _ _ x₁ S₁ rfl)

theorem e_or (H : Sound C N R n) (O : c.Ok C A n) (hk : k ≤ N) {a b : X} {l r : Expr} (h1 : fitE C.K c.sc k a l = true) (h2 : fitE C.K c.sc k b r = true)
    (e : evalA C.G R σ (.or a b) = some (v, σ')) (S : SR C c ρ σ s.heap) : Gives C c A (eval (.BoolOp .Or [l, r] pos) c.env) ρ σ σ' v s := fun Q Er q =>
  bd_inv e fun av σ₁ e1 e => wpAny_Or2 (H.E _ _ _ _ _ _ _ _ _ _ O hk h1 e1 S _ _ fun ρ₁ ca g₁ t₁ x₁ S₁ v₁ => by
    refine bool_inv e v₁ fun b e => wpAny_truthy_bool ?_
    cases b with
    | true =>
      cases so e
      rw [if_pos rfl]
      exact q _ _ _ _ x₁ S₁ rfl
    | false =>
      rw [if_neg (by decide)]
      exact Gives.done (σ := σ) x₁ (H.E _ _ _ _ _ _ _ _ _ _ O hk h2 e S₁) rfl q)

theorem And3 {M : Model} {E : Value → Shared → Prop} {env : Env} {x y z : Expr} {Q : Value → Shared → Prop}
    (h : wpAny M A (eval x env) (fun v s₁ => wpAny M A (truthy v) (fun t s₂ => if t = true then wpAny M A (eval (.BoolOp .And [y, z] pos) env) Q E s₂ else Q v s₂) E s₁) E s) :
    wpAny M A (eval (.BoolOp .And [x, y, z] pos) env) Q E s := by
  show wpAny M A (do
    let v ← eval x env
    standAt pos
    let t ← holding [v] (truthy v)
    match BoolOp.And, t with
    | .And, false | .Or, true => pure v
    | _, _ => boolOp pos .And [eval y env, eval z env]) Q E s
  refine wpAny_bind (wpAny_mono h (fun v s₁ h₁ => wpAny_bind (wpAny_standAt (wpAny_bind (wpAny_holding (wpAny_mono h₁ (fun t s₂ h₂ => ?_) fun _ _ x => x))))) fun _ _ x => x)
  cases t with
  | false => exact wpAny_pure h₂
  | true => exact h₂

theorem e_and3 (H : Sound C N R n) (O : c.Ok C A n) (hk : k ≤ N) {a b d : X} {l m r : Expr} (h1 : fitE C.K c.sc k a l = true) (h2 : fitE C.K c.sc k b m = true) (h3 : fitE C.K c.sc k d r = true)
    (e : evalA C.G R σ (.and3 a b d) = some (v, σ')) (S : SR C c ρ σ s.heap) : Gives C c A (eval (.BoolOp .And [l, m, r] pos) c.env) ρ σ σ' v s := fun Q Er q =>
  bd_inv e fun av σ₁ e1 e => And3 (H.E _ _ _ _ _ _ _ _ _ _ O hk h1 e1 S _ _ fun ρ₁ ca g₁ t₁ x₁ S₁ v₁ => by
    refine bool_inv e v₁ fun w e => wpAny_truthy_bool ?_
    cases w with
    | true =>
      rw [if_pos rfl]
      exact Gives.done (σ := σ) x₁ (e_and H O hk (a := b) (b := d) h2 h3 e S₁) rfl q
    | false =>
      cases so e
      rw [if_neg (by decide)]
      exact q _ _ _ _ x₁ S₁ rfl)

theorem e_ite (H : Sound C N R n) (O : c.Ok C A n) (hk : k ≤ N) {t a b : X} {u l r : Expr} (hT : okT t = true) (h0 : fitE C.K c.sc k t u = true) (h1 : fitE C.K c.sc k a l = true) (h2 : fitE C.K c.sc k b r = true)
    (e : evalA C.G R σ (.ite t a b) = some (v, σ')) (S : SR C c ρ σ s.heap) : Gives C c A (eval (.IfExp u l r pos) c.env) ρ σ σ' v s := fun Q Er q =>
  bd_inv e fun av σ₁ e1 e => by
    cases av with
    | bool w =>
      refine wpAny_IfExp (H.T _ _ _ _ _ _ _ _ _ _ O hk h0 hT e1 S _ _ fun ρ₁ g₁ t₁ x₁ S₁ => ?_)
      cases w with
      | true =>
        rw [if_pos rfl]
        exact Gives.done (σ := σ) x₁ (H.E _ _ _ _ _ _ _ _ _ _ O hk h1 e S₁) rfl q
      | false =>
        rw [if_neg (by decide)]
        exact Gives.done (σ := σ) x₁ (H.E _ _ _ _ _ _ _ _ _ _ O hk h2 e S₁) rfl q
    | _ => exact nso e

theorem behind_of {o : CmpOp} {r : Expr} (h : (!isSet r) = true) : behindInMarks o r = false := by
  cases r <;> first | rfl | exact no h

theorem e_cmp (H : Sound C N R n) (G : C.Ok N NT) (O : c.Ok C A n) (hk : k ≤ N) {op : COp} {a b : X} {l r : Expr} (h1 : fitE C.K c.sc k a l = true) (h2 : fitE C.K c.sc k b r = true) (hs : (!isSet r) = true)
    (e : evalA C.G R σ (.cmp op a b) = some (v, σ')) (S : SR C c ρ σ s.heap) : Gives C c A (eval (.Compare l [cmpOf op] [r] pos) c.env) ρ σ σ' v s := fun Q Er q =>
  bd_inv e fun av σ₁ e1 e => bd_inv e fun bv σ₂ e2 e => ob_inv e fun cr e3 e => by
    cases so e
    exact wpAny_Compare1 (H.E _ _ _ _ _ _ _ _ _ _ O hk h1 e1 S _ _ fun ρ₁ ca g₁ t₁ x₁ S₁ v₁ => H.E _ _ _ _ _ _ _ _ _ _ O hk h2 e2 S₁ _ _ fun ρ₂ cb g₂ t₂ x₂ S₂ v₂ =>
      Gives.done (σ := σ) (x₁.trans x₂) (cmp_sound G O (v₁.mono x₂) v₂ e3 S₂) rfl q) (behind_of hs)

/-- the second half of a chain of two -/
theorem chain_sound (H : Sound C N R n) (G : C.Ok N NT) (O : c.Ok C A n) (hk : k ≤ N) {op' : COp} {d : X} {r : Expr} {bv : AV} {cb : Value} {cr : Bool} (h3 : fitE C.K c.sc k d r = true) (hs : (!isSet r) = true) (hb : VR C.V ρ σ.next bv cb)
    (e : cond cr (bd (R.E σ d) fun c σ => ob (cmpA C.G.F σ op' bv c) fun d => some (.bool d, σ)) (some (.bool false, σ)) = some (v, σ')) (S : SR C c ρ σ s.heap) :
    Gives C c A (if cr = true then compareChain pos cb [cmpOf op'] [markedBehindIn (cmpOf op') r (eval r c.env)] else pure (.bool cr)) ρ σ σ' v s := fun Q Er q => by
  cases cr with
  | false =>
    cases so e
    rw [if_neg (by decide)]
    exact wpAny_pure (q _ _ _ _ Ext.refl S rfl)
  | true =>
    refine bd_inv e fun dv σ₃ e4 e => ob_inv e fun r' e5 e => ?_
    cases so e
    rw [if_pos rfl, markedBehindIn_of_false (behind_of hs)]
    show wpAny _ A (do
      let rv ← holding [cb] (eval r c.env)
      standAt pos
      operate [cb, rv] (compareOp (cmpOf op') cb rv)) Q Er _
    refine wpAny_bind (wpAny_holding (H.E _ _ _ _ _ _ _ _ _ _ O hk h3 e4 S _ _ fun ρ₄ cd g₄ t₄ x₄ S₄ v₄ => ?_))
    exact wpAny_bind (wpAny_standAt (wpAny_operating (Gives.done (σ := σ) x₄ (cmp_sound G O (hb.mono x₄) v₄ e5 S₄) rfl q)))
theorem e_cmp2 (H : Sound C N R n) (G : C.Ok N NT) (O : c.Ok C A n) (hk : k ≤ N) {op op' : COp} {a b d : X} {l m r : Expr} (h1 : fitE C.K c.sc k a l = true) (h2 : fitE C.K c.sc k b m = true) (h3 : fitE C.K c.sc k d r = true) (hs : (!isSet r) = true)
    (e : evalA C.G R σ (.cmp2 op op' a b d) = some (v, σ')) (S : SR C c ρ σ s.heap) : Gives C c A (eval (.Compare l [cmpOf op, cmpOf op'] [m, r] pos) c.env) ρ σ σ' v s := fun Q Er q =>
  bd_inv e fun av σ₁ e1 e => bd_inv e fun bv σ₂ e2 e => ob_inv e fun cr e3 e => by
    show wpAny _ A (do
      let left ← eval l c.env
      let rv ← holding [left] (eval m c.env)
      standAt pos
      let cc ← holding [left, rv] (compareOp (cmpOf op) left rv)
      release [left, rv] [cc]
      if ← holding [cc, rv] (truthy cc) then compareChain pos rv [cmpOf op'] [markedBehindIn (cmpOf op') r (eval r c.env)] else pure cc) Q Er s
    refine wpAny_bind (H.E _ _ _ _ _ _ _ _ _ _ O hk h1 e1 S _ _ fun ρ₁ ca g₁ t₁ x₁ S₁ v₁ => wpAny_bind (wpAny_holding (H.E _ _ _ _ _ _ _ _ _ _ O hk h2 e2 S₁ _ _ fun ρ₂ cb g₂ t₂ x₂ S₂ v₂ => ?_)))
    refine wpAny_bind (wpAny_standAt (wpAny_bind (wpAny_holding (cmp_sound G O (v₁.mono x₂) v₂ e3 S₂ _ _ fun ρ₃ cc g₃ t₃ x₃ S₃ v₃ => ?_))))
    cases v₃
    refine wpAny_bind (wpAny_release (wpAny_bind (wpAny_holding (wpAny_truthy_bool ?_))))
    exact Gives.done (σ := σ) ((x₁.trans x₂).trans x₃) (chain_sound H G O hk h3 hs (v₂.mono x₃) e S₃) rfl q
end
end Mine

-- D9
namespace Mine
open PySem PySem.W PySem.Calls PyProof.Rows PySem.SeqAt

section
variable {V : Nat → Int} {ρ : Nat → Addr} {n : Nat}
theorem isStr_iff {s s' : Str} {t : Tok} {k k' : Nat} (h : enc s = some k) (h' : enc s' = some k') : (Value.str s' t).isStr s = decide (k' = k) := by
  show (s' == s) = _
  rw [Bool.eq_iff_iff, beq_iff_eq, decide_eq_true_iff]
  constructor
  · rintro rfl; rw [h] at h'; exact (Option.some.inj h').symm
  · rintro rfl; exact enc_inj h' h
theorem getL_cons {s : Str} {e : DictEntry} {es : List DictEntry} (h : e.refKey = false) : getL s (e :: es) = if e.key.isStr s then some (some e.val) else getL s es := by
  unfold getL
  rw [List.find?_cons, List.any_cons, h, Bool.false_or]
  cases e.key.isStr s <;> rfl
theorem fr_find {s : Str} {k : Nat} (hs : enc s = some k) {fs : List (Nat × AV)} {es : List DictEntry} (h : F2 (FR V ρ n) fs es) : (fs.lookup k = none ∧ getL s es = some none) ∨ ∃ av v, fs.lookup k = some av ∧ getL s es = some (some v) ∧ VR V ρ n av v := by
  induction h with
  | nil => exact .inl ⟨rfl, rfl⟩
  | @cons p q _ es r _ ih =>
    obtain ⟨hh, key, v⟩ := q
    obtain ⟨⟨s', t, e1, e2⟩, hv⟩ := r
    cases e1
    rw [getL_cons (s := s) (e := ⟨hh, .str s' t, v⟩) (es := es) rfl, List.lookup_cons]
    show _ ∧ (if (Value.str s' t).isStr s = true then _ else _) = _ ∨ _
    rw [isStr_iff hs e2]
    by_cases z : p.1 = k
    · rw [decide_eq_true z, if_pos rfl, z, beq_self_eq_true]
      exact .inr ⟨p.2, v, rfl, rfl, hv⟩
    · rw [decide_eq_false z, if_neg (by decide), beq_false_of_ne (Ne.symm z)]
      exact ih
theorem fr_none {s : Str} {k : Nat} (hs : enc s = some k) {fs : List (Nat × AV)} {es : List DictEntry} (h : F2 (FR V ρ n) fs es) (e : fs.lookup k = none) : getL s es = some none :=
  (fr_find hs h).elim (·.2) fun ⟨_, _, z, _⟩ => nomatch e.symm.trans z
theorem fr_some {s : Str} {k : Nat} {av : AV} (hs : enc s = some k) {fs : List (Nat × AV)} {es : List DictEntry} (h : F2 (FR V ρ n) fs es) (e : fs.lookup k = some av) : ∃ v, getL s es = some (some v) ∧ VR V ρ n av v :=
  (fr_find hs h).elim (fun z => nomatch e.symm.trans z.1) fun ⟨_, v, z, g, r⟩ => ⟨v, g, Option.some.inj (e.symm.trans z) ▸ r⟩
theorem fr_put {s : Str} {k : Nat} {hsh : Int} {t : Tok} {av : AV} {v : Value} (hs : enc s = some k) (hv : VR V ρ n av v) {fs : List (Nat × AV)} {es : List DictEntry} (h : F2 (FR V ρ n) fs es) : F2 (FR V ρ n) (setF k av fs) (putL s hsh (.str s t) v es) := by
  induction h with
  | nil => exact .cons ⟨⟨s, t, rfl, hs⟩, hv⟩ .nil
  | @cons p q _ es r rs ih =>
    obtain ⟨hh, key, v'⟩ := q
    obtain ⟨⟨s', t', e1, e2⟩, hv'⟩ := r
    cases e1
    unfold setF putL
    rw [isStr_iff hs e2]
    by_cases z : p.1 = k
    · rw [if_pos z, decide_eq_true z, if_pos rfl]
      exact .cons ⟨⟨s', t', rfl, z ▸ e2⟩, hv⟩ rs
    · rw [if_neg z, decide_eq_false z, if_neg (by decide)]
      exact .cons ⟨⟨s', t', rfl, e2⟩, hv'⟩ ih
theorem setF_len (k : Nat) (av : AV) (fs : List (Nat × AV)) : (setF k av fs).length ≤ fs.length + 1 := by
  induction fs with
  | nil => exact Nat.le_refl _
  | cons p fs ih =>
    unfold setF
    by_cases z : p.1 = k
    · rw [if_pos z]; exact Nat.le_succ _
    · rw [if_neg z]; exact Nat.succ_le_succ ih
theorem handed_len : handedIn (.builtin "len") = true := by kernel_rfl
theorem handed_max : handedIn (.builtin "max") = true := by kernel_rfl
theorem handed_min : handedIn (.builtin "min") = true := by kernel_rfl
theorem handed_VR {av : AV} {v : Value} (h : VR V ρ n av v) : handedIn v = true := by
  cases av with
  | none => cases h; rfl
  | bool b => cases h; rfl
  | int e => obtain ⟨t, rfl⟩ := h; rfl
  | str k => obtain ⟨s, t, rfl, _⟩ := h; rfl
  | bytes b => obtain ⟨a, t, rfl, _⟩ := h; rfl
  | own j => obtain ⟨_, rfl⟩ := h; rfl
  | fn a => cases h; rfl
  | cls a => cases h; rfl
  | bi b => cases h; cases b <;> first | exact handed_len | exact handed_max | exact handed_min | rfl
  | scr => cases h; rfl
end

section
variable {C : Cx} {c : Fm} {A : Around} {ρ : Nat → Addr} {σ σ' : St} {s : Shared} {N : Nat} {NT : List Str} {R : Rec} {n k : Nat} {v : AV} {pos : Pos}

theorem nameOf_eq {l : List Str} {k : Nat} {s s' : Str} (h : nameOf l k = some s) (e : enc s' = some k) : s = s' := by
  have := List.find?_some h
  exact enc_inj (encIs_eq this) e

structure ClsOk (C : Cx) (NT : List Str) (Ca : Nat) (k : CCls) : Prop where
  makes : makesIn C.K Ca = true
  init : findIn C.K (.ref Ca) "__init__" = some (some (.ref k.init))
  initF : isFn C.K (.ref k.init) = true
  initK : fnIn C.K k.init = true
  plain : ∀ nm, plainGet C.K Ca nm = true
  hasDict : hasDictIn C.K Ca = true
  setattr : findIn C.K (.ref Ca) "__setattr__" = some (some (.builtin "object.__setattr__"))
  over : plainOver C.K Ca = true
  cls : isClsIn C.K Ca = true
  meth : ∀ nm j f, enc nm = some j → k.meths.lookup j = some f → findIn C.K (.ref Ca) nm = some (some (.ref f)) ∧ isFn C.K (.ref f) = true ∧ fnIn C.K f = true
  get : ∀ nm j, enc nm = some j → k.gets.contains j = true → ∃ attr, findIn C.K (.ref Ca) nm = some attr ∧ noGet C.K attr = true
  set : ∀ nm j, enc nm = some j → k.sets.contains j = true → takerIn C.K Ca nm = some none
  prop : ∀ nm j f, enc nm = some j → k.props.lookup j = some f → ∃ q rest, findIn C.K (.ref Ca) nm = some (some (.ref q)) ∧ specialIn C.K (.ref q) "__get__" = some (some (.builtin "property.__get__")) ∧ takesIn C.K (.ref q) = some true ∧ recIn C.K q "property" = some (.ref f :: rest) ∧ fnIn C.K f = true
theorem all_inv {α : Type} {l : List α} {f : α → Bool} {a : α} (h : l.all f = true) (m : a ∈ l) : f a = true := List.all_eq_true.mp h a m
theorem clsM_of {Ca : Nat} {nm : Str} {j f : Nat} (e : enc nm = some j) (h : clsM C.K NT Ca (j, f) = true) : findIn C.K (.ref Ca) nm = some (some (.ref f)) ∧ isFn C.K (.ref f) = true ∧ fnIn C.K f = true := oany_inv h fun s a b => by
  cases nameOf_eq a e
  exact ⟨of_decide_eq_true (al b), al (ar b), ar (ar b)⟩
theorem clsG_of {Ca : Nat} {nm : Str} {j : Nat} (e : enc nm = some j) (h : clsG' C.K NT Ca j = true) : ∃ attr, findIn C.K (.ref Ca) nm = some attr ∧ noGet C.K attr = true := oany_inv h fun s a b => by
  cases nameOf_eq a e
  exact oany_inv b fun attr a b => ⟨attr, a, b⟩
theorem clsS_of {Ca : Nat} {nm : Str} {j : Nat} (e : enc nm = some j) (h : clsS C.K NT Ca j = true) : takerIn C.K Ca nm = some none := oany_inv h fun s a b => by
  cases nameOf_eq a e
  exact of_decide_eq_true b
theorem clsP_of {Ca : Nat} {nm : Str} {j f : Nat} (e : enc nm = some j) (h : clsP C.K NT Ca (j, f) = true) : ∃ q rest, findIn C.K (.ref Ca) nm = some (some (.ref q)) ∧ specialIn C.K (.ref q) "__get__" = some (some (.builtin "property.__get__")) ∧ takesIn C.K (.ref q) = some true ∧ recIn C.K q "property" = some (.ref f :: rest) ∧ fnIn C.K f = true := oany_inv h fun s a b => by
  cases nameOf_eq a e
  refine oany_inv b fun r er b => oany_inv b fun v ev b₁ => ?_
  subst ev
  revert er
  unfold clsP' at b₁
  refine onVR_inv b₁ fun q b er => oany_inv (ar (ar b)) fun l el b' => ?_
  obtain ⟨rest, rfl⟩ := List.head?_eq_some_iff.mp (of_decide_eq_true (al b'))
  exact ⟨q, rest, er, of_decide_eq_true (al b), of_decide_eq_true (al (ar b)), el, ar b'⟩
theorem clsOk_of {Ca : Nat} {k : CCls} (h : clsFit C.K NT Ca k = true) : ClsOk C NT Ca k := by
  unfold clsFit at h
  simp only [Bool.and_eq_true, decide_eq_true_eq] at h
  obtain ⟨h1, h2, h3, h4, h5, h6, h7, h8, h9, h10, h11, h12, h13⟩ := h
  exact ⟨h1, h2, h3, h4, fun _ => h5, h6, h7, h8, h9, fun nm j f e l => clsM_of e (all_inv h10 (mem_lookup l)), fun nm j e l => clsG_of e (all_inv h11 (List.contains_iff_mem.mp l)), fun nm j e l => clsS_of e (all_inv h12 (List.contains_iff_mem.mp l)), fun nm j f e l => clsP_of e (all_inv h13 (mem_lookup l))⟩

theorem Fm.Ok.in1 (O : c.Ok C A (n + 1)) : c.Ok C A.in1 n :=
  { O with room := by have := O.room; show A.depth + (2 * n + 2) < recursionLimit; omega, units := by have := O.units; show A.units + 1 + (10 * n + 20) < cLine; omega }

/-- an object of the ledger with its dict -/
theorem inst_of {X : List (Addr × Obj)} {os : List (Nat × AO)} {news : List (Addr × Obj)} {V : Nat → Int} {prog : Program} {w : World} {h₀ h : Heap} {L : Addr} (N : News h₀ L h news) (Ob : Objs X V ρ n prog w os news) {j Ca d : Nat} {fs : List (Nat × AV)} (hx : os.lookup j = some (.inst Ca d)) (hd : os.lookup d = some (.adict fs)) :
    ∃ es k, F2 (FR V ρ n) fs es ∧ (ρ d, dictOf es k) ∈ news ∧ InstAt h (ρ j) (instObj Ca (ρ d)) Ca (some (dictOf es k)) := by
  obtain ⟨_, o1, m1, _, rfl⟩ := Ob.get hx
  obtain ⟨_, o2, m2, es, k, rfl, r⟩ := Ob.get hd
  exact ⟨es, k, r, m2, InstAt.of_news N m1 m2⟩

/-- an object of the ledger, its class and its dict -/
theorem inst_inv {β : Type} {r : β} {o : AO} {f : Nat → Nat → Option β} {P : AO → Prop} (h : onInst o f = some r) (k : ∀ C d, f C d = some r → P (.inst C d)) : P o := by
  cases o <;> first | exact k _ _ h | exact nso h
theorem adict_inv {β : Type} {r : β} {o : AO} {f : List (Nat × AV) → Option β} {P : AO → Prop} (h : onAdict o f = some r) (k : ∀ l, f l = some r → P (.adict l)) : P o := by
  cases o <;> first | exact k _ h | exact nso h
@[elab_as_elim] theorem obj_inv {β : Type} {r : β} {x : AV} {cx : Value} {f : Nat → Nat → List (Nat × AV) → CCls → Option β} {P : Value → Prop} (h : onObj C.G σ x f = some r) (G : C.Ok N NT) (hx : VR C.V ρ σ.next x cx)
    (k : ∀ j d Ca fs cc, x = .own j → j < σ.next → σ.objs.lookup j = some (.inst Ca d) → σ.objs.lookup d = some (.adict fs) → ClsOk C NT Ca cc → f j d fs cc = some r → P (.ref (ρ j))) : P cx :=
  own_inv (P := P) h hx fun j e lt h => ob_inv h fun o ej h => inst_inv (P := fun o => σ.obj j = some o → P (.ref (ρ j))) h (fun Ca d h ej =>
    ob_inv h fun o ed h => adict_inv (P := fun o => σ.obj d = some o → P (.ref (ρ j))) h (fun fs h ed => ob_inv h fun cc ec h => k j d Ca fs cc e lt ej ed (clsOk_of (G.cls _ _ ec)) h) ed) ej

theorem getAttr_sound (H : Sound C N R n) (G : C.Ok N NT) (O : c.Ok C A (n + 1)) {x : AV} {cx : Value} {nm : Str} (hk : enc nm = some k) (hx : VR C.V ρ σ.next x cx)
    (e : getAttrA C.G R σ x k = some (v, σ')) (S : SR C c ρ σ s.heap) {b : Bool} : Gives C c A (getAttr cx nm b) ρ σ σ' v s := by
  intro Q Er q
  refine obj_inv e G hx fun j d Ca fs cc hj lt ej ed K e => S.elim fun m news F N' l Ob nd => ?_
  obtain ⟨es, kk, fr, _, I⟩ := inst_of N' Ob ej ed
  cases eu : fs.lookup k with
  | some u =>
    rw [eu] at e
    cases so (gr e)
    obtain ⟨attr, a1, a2⟩ := K.get nm k hk (gl e)
    obtain ⟨v', z2, z3⟩ := fr_some hk fr eu
    exact get_own F O.X I (K.plain _) K.hasDict a1 a2 z2 (handed_VR z3) (q _ _ _ _ Ext.refl S z3)
  | none =>
    rw [eu] at e
    refine ob_inv e fun f ef e => ?_
    obtain ⟨p, rest, a1, a2, a3, a4, a5⟩ := K.prop nm k f hk ef
    refine get_prop F O.X I (K.plain _) K.hasDict a1 a2 a3 a4 ?_
    subst hj
    exact H.F c A.in1 f [.own j] σ σ' v ρ { s with toks := s.toks + 1 } [.ref (ρ j)] O.in1 (.cons ⟨lt, rfl⟩ .nil) e S _ fun ρ' cv h' tk x' S' v' => handed_on (handed_VR v') (q _ _ _ _ x' S' v')

theorem dict_same {es es' : List DictEntry} {k k' : Nat} (h : dictOf es k = dictOf es' k') : es = es' ∧ k = k' := by
  injection h with _ _ this _
  injection this with a b
  exact ⟨congrArg Array.toList a, b⟩
theorem setAttr_sound (G : C.Ok N NT) (O : c.Ok C A n) {x u : AV} {cx cu : Value} {nm : Str} (hk : enc nm = some k) (hx : VR C.V ρ σ.next x cx) (hu : VR C.V ρ σ.next u cu)
    (e : setAttrA C.G σ x k u = some σ') (S : SR C c ρ σ s.heap) : GivesU C c A (setAttr cx nm cu) ρ σ σ' s := by
  intro Q Er q
  refine obj_inv e G hx fun j d Ca fs cc hj lt ej ed K e => S.elim fun m news F N' l Ob nd => ?_
  have hg := gl e
  cases so (gr e)
  obtain ⟨es, kk, fr, mm, I⟩ := inst_of N' Ob ej ed
  obtain ⟨o, m2, ⟨es', k', rfl, _⟩, up⟩ := Ob.upd nd ed
  obtain ⟨rfl, rfl⟩ := dict_same (Option.some.inj ((N' _ mm).1.symm.trans (N' _ m2).1))
  have fr' := fr_put (t := s.toks + 1) (hsh := PyData.keyHash C.w.params nm) hk hu fr
  obtain ⟨own, U, Ob', ea⟩ := up (.adict (setF k u fs)) (dictOf (putL nm (PyData.keyHash C.w.params nm) (.str nm (s.toks + 1)) cu es) (putN nm es kk)) ⟨_, _, rfl, fr'⟩ (fun z => nomatch z)
  refine set_dict F O.X N' I rfl K.setattr K.over (K.set nm k hk (al hg)) K.hasDict ?_ rfl U ?_ fun h' F' N'' => q ρ h' _ Ext.refl ⟨m, _, F', N'', l, ⟨own, rfl, Ob'⟩, ea ▸ nd⟩
  · rcases fr_find hk fr with ⟨_, z⟩ | ⟨_, _, _, z, _⟩ <;> rw [z] <;> rfl
  · have h1 := fr'.len
    have h2 := setF_len k u fs
    have h3 : fs.length < 900 := of_decide_eq_true (ar hg)
    omega
end
end Mine

-- D10
namespace Mine
open PySem PySem.W PySem.Calls PyProof.Rows PySem.SeqAt

section
variable {C : Cx} {c : Fm} {A : Around} {ρ : Nat → Addr} {σ σ' : St} {s : Shared} {N : Nat} {NT : List Str} {R : Rec} {n k : Nat} {v : AV} {pos : Pos}

theorem star_plain {e : Expr} {rest : List Expr} {env : Env} (h : notStar e = true) : starEach (e :: rest) env = (false, eval e env) :: starEach rest env := by
  cases e <;> first | rfl | exact no h
theorem args_plain {f : X → Expr → Bool} {env : Env} {xs : List X} : ∀ {es : List Expr}, allFit f xs es = true → (backTo pos (starEach es env)).any (·.1) = false := by
  induction xs with
  | nil =>
    intro es h
    cases es with
    | nil => rfl
    | cons => exact no h
  | cons x xs ih =>
    intro es h
    cases es with
    | nil => exact no h
    | cons e es =>
      rw [star_plain (ar (al h))]
      exact ih (ar h)
theorem args_sound (H : Sound C N R n) (O : c.Ok C A n) (hk : k ≤ N) {xs : List X} : ∀ {es : List Expr} {σ σ' : St} {vs : List AV} {ρ : Nat → Addr} {s : Shared}, allFit (fitE C.K c.sc k) xs es = true → evs R.E xs σ = some (vs, σ') → SR C c ρ σ s.heap →
    GivesL C c A (spliced (backTo pos (starEach es c.env))) ρ σ σ' vs s := by
  induction xs with
  | nil =>
    intro es σ σ' vs ρ s h e S
    cases es with
    | nil => cases e; exact fun Q Er q => Calls.spliced_nil (q ρ [] s.heap s.toks Ext.refl S .nil)
    | cons => exact no h
  | cons x xs ih =>
    intro es σ σ' vs ρ s h e S
    cases es with
    | nil => exact no h
    | cons e₀ es =>
      refine bd_inv e fun v σ₁ e1 e => ob_inv e fun p e2 e => ?_
      cases so e
      exact fun Q Er q => spliced_more (H.E _ _ _ _ _ _ _ _ _ _ O hk (al (al h)) e1 S _ _ fun ρ₁ cv g₁ t₁ x₁ S₁ v₁ => ih (ar h) e2 S₁ _ _ fun ρ₂ cvs g₂ t₂ x₂ S₂ vs₂ => q _ _ _ _ (x₁.trans x₂) S₂ (.cons (v₁.mono x₂) vs₂)) (star_plain (ar (al h)))

theorem SR.push0 {m : Str → Option Value} {news : List (Addr × Obj)} {h : Heap} {o : Obj} {ao : AO} {P : Prop} (F : Fr c.h₀ c.L h m) (N : News c.h₀ c.L h news) (l : LocR C.V ρ σ.next σ.loc m)
    (Ob : Objs c.X C.V ρ σ.next C.prog C.w σ.objs news) (nd : Nd (news.map (·.1))) (lo : isI ao = false) (z : OR C.V ρ σ.next C.prog C.w ao o)
    (k : ∀ ρ', Ext ρ σ.next ρ' (σ.new ao).next → SR C c ρ' (σ.new ao) (h.push o) → VR C.V ρ' (σ.new ao).next (.own σ.next) (.ref h.objs.size) → P) : P :=
  SR.give (F.push _) (N.push F _ z.live) l Ob nd (fun q => nomatch lo.symm.trans q) (fun p hp => Heap.lt_size (N p hp).1) z k

theorem attr_base {M : Model} {o : Expr} {attr : Str} {env : Env} {whole : Sem Value} {Q Er : Value → Shared → Prop} (hp : plainBase o = true) (w : wpAny M A whole Q Er s) : wpAny M A (attributeBase o attr env whole) Q Er s := by
  cases o with
  | Call f as ks p =>
    cases f with
    | Name id ip =>
      cases as with
      | cons => exact w
      | nil =>
        cases ks with
        | cons => exact w
        | nil =>
          have h : (decide (id ≠ "super") || false || false) = true := hp
          rw [Bool.or_false, Bool.or_false] at h
          have : (id != "super") = true := bne_iff_ne.mpr (of_decide_eq_true h)
          unfold attributeBase
          simp only [this, Bool.true_or, if_true]
          exact w
    | _ => exact w
  | _ => exact w

theorem e_attr (H : Sound C N R n) (G : C.Ok N NT) (O : c.Ok C A (n + 1)) (hk : k ≤ N) {a : X} {l : Expr} {nm : Str} {j : Nat} (h1 : fitE C.K c.sc k a l = true) (hj : enc nm = some j) (hp : plainBase l = true)
    (e : evalA C.G R σ (.attr a j) = some (v, σ')) (S : SR C c ρ σ s.heap) : Gives C c A (eval (.Attribute l nm pos) c.env) ρ σ σ' v s := fun Q Er q => bd_inv e fun av σ₁ e1 e => by
  have base : wpAny (MM C) A (eval l c.env) (fun o s₁ => wpAny (MM C) A (getAttr o nm true) Q Er s₁) Er s :=
    H.E _ _ _ _ _ _ _ _ _ _ (O.less (Nat.le_succ _)) hk h1 e1 S _ _ fun ρ₁ ca g₁ t₁ x₁ S₁ v₁ => Gives.done (σ := σ) x₁ (getAttr_sound H G O hj v₁ e S₁) rfl q
  show wpAny _ A (do
    let o ← attributeBase l nm c.env (eval l c.env)
    standAt pos.atName
    let r ← holding [o] (getAttr o nm true)
    letTemporaryGo l o r
    pure r) Q Er s
  refine wpAny_bind (attr_base hp (wpAny_mono base (fun o s₁ h₁ => wpAny_bind (wpAny_standAt (wpAny_bind (wpAny_holding (wpAny_mono h₁ (fun r s₂ h₂ => ?_) fun _ _ x => x))))) fun _ _ x => x))
  exact wpAny_bind (wpAny_letTemporaryGo (wpAny_pure h₂))

theorem says_inv {e : SI} {p : SC × Bool} {k : Nat} (h : saysN e p = some k) : p = (.eq e (.c (k : Int)), true) := by
  obtain ⟨s, b⟩ := p
  cases gl h
  have h := gr h
  cases s with
  | lt => exact nso h
  | eq a b =>
    have ha : a = e := of_decide_eq_true (gl h)
    subst ha
    exact onCst_inv (P := fun b => (SC.eq a b, true) = (.eq a (.c (k : Int)), true)) (gr h) fun i h => onNat_inv (P := fun i => (SC.eq a (.c i), true) = (.eq a (.c (k : Int)), true)) h fun m h => by cases so h; rfl
theorem idxOf_sound {F : Facts} {V : Nat → Int} (hF : F.Ok V) {e : SI} {k : Nat} (h : idxOf F e = some k) : e.den V = (k : Int) :=
  cst1 (x := e) (f := fun i => onNat i some) (d := F.findSome? (saysN e)) (P := fun o => o = some k → e.den V = (k : Int)) (fun i he h => by
    subst he
    exact onNat_inv (P := fun i => (SI.c i).den V = (k : Int)) h fun m h => by cases so h; rfl) (fun h => by
    obtain ⟨p, hp, hq⟩ := List.exists_of_findSome?_eq_some h
    cases says_inv hq
    exact (hF _ hp).mpr rfl) h

theorem seq_index {kk len : Nat} (h : kk < len) : seqIndex? ((kk : Nat) : Int) len = some kk := by
  unfold seqIndex?
  have hn : ¬ ((kk : Nat) : Int) < 0 := by omega
  simp only [hn, if_false]
  simp [h]
theorem arr_get {its : List Value} {k : Nat} {y : Value} (h : its[k]? = some y) : its.toArray[k]? = some y := by rw [List.getElem?_toArray]; exact h
theorem scr_first {V : Nat → Int} {h : Heap} {F : Facts} (hF : F.Ok V) (hlk : F.lookup (.lt (.c 0) (.v 100)) = some true) (q : ScrOk V h) : ∃ vs t, h.IsList (V 102).toNat vs ∧ vs[0]? = some (.int (V 101) t) := by
  obtain ⟨vs, ns, il, hi, h1, h2, h3⟩ := q
  have hpos : (0 : Int) < V 100 := (ask hF hlk).mpr rfl
  cases hi with
  | nil => rw [h1] at hpos; exact absurd hpos (by decide)
  | cons x t' hr => exact ⟨_, t', il, by rw [h3 _ _ rfl]; rfl⟩

theorem itemO_sound (G : C.Ok N NT) {ao : AO} {e : SI} {t : Tok} {j : Nat} {r value : Expr} {Q Er : Value → Shared → Prop} {m : Str → Option Value} {news : List (Addr × Obj)} (hs : subscripted r false (.ref (ρ j)) (.int (e.den C.V) t) = operate [.ref (ρ j), .int (e.den C.V) t] (getItem (.ref (ρ j)) (.int (e.den C.V) t)))
    (N' : News c.h₀ c.L s.heap news) (Ob : Objs c.X C.V ρ σ.next C.prog C.w σ.objs news) (ej : σ.objs.lookup j = some ao) (h : itemO C.G.F e ao = some v) (q : ∀ y tk, VR C.V ρ σ.next v y → Q y { s with toks := tk }) : wpAny (MM C) A (subscriptTail value r (.ref (ρ j)) (.int (e.den C.V) t)) Q Er s := by
  cases ao with
  | list vs =>
    refine ob_inv h fun kk ek h => Ob.lst N' ej fun its _ _ il r1 _ => ?_
    obtain ⟨y, ey, hy⟩ := r1.get (gr h)
    have hz : kk < 10000 := of_decide_eq_true (gl h)
    rw [idxOf_sound G.F ek] at hs ⊢
    exact tail_any il.typeIs slot_list_getitem.lookup (wpAny_getItem_list (k := ((kk : Nat) : Int)) il (by omega) (by omega) (arr_get ey) (q y _ hy)) hs
  | tuple vs =>
    have h : (onCst e fun i => onNat i fun k => gd (decide (k < 10000)) vs[k]?) = some v := h
    revert hs
    refine onCst_inv h fun i h => onNat_inv h fun kk h hs => Ob.tpl N' ej fun its _ it r1 _ => ?_
    obtain ⟨y, ey, hy⟩ := r1.get (gr h)
    have hz : kk < 10000 := of_decide_eq_true (gl h)
    have hlt : kk < its.length := (List.getElem?_eq_some_iff.mp ey).1
    have il : IsTup s.heap (ρ j) its.toArray := ⟨_, it, rfl, _, rfl⟩
    exact tail_any il.typeIs slot_tuple_getitem.lookup (getItem_tuple (k := ((kk : Nat) : Int)) (j := kk) il (by omega) (by omega) (seq_index hlt) (arr_get ey) (q y _ hy)) hs
  | idict es =>
    have h : (onCst e fun k => es.lookup k) = some v := h
    revert hs
    refine onCst_inv h fun kk h hs => Ob.idc N' ej fun o kvs m1 hd hD r1 => ?_
    rcases idict_find r1 kk with ⟨z, _⟩ | ⟨av, v', z1, z2, z3⟩
    · exact nomatch z.symm.trans h
    · cases h.symm.trans z1
      exact tail_any hD.typeIs slot_dict_getitem.lookup (wpAny_getItem_of (intKind_is _ _ _ _) hD.mapOf z2 (q v' _ z3)) hs
  | _ => exact nso h
theorem plain_sub {r : Expr} {co ci : Value} (hr : (!isSlice r) = true) : subscripted r false co ci = operate [co, ci] (getItem co ci) := by cases r <;> first | rfl | exact no hr
theorem getItem_sound (G : C.Ok N NT) (O : c.Ok C A n) {o i : AV} {co ci : Value} {r : Expr} {value : Expr} (ho : VR C.V ρ σ.next o co) (hi : VR C.V ρ σ.next i ci) (hr : (!isSlice r) = true)
    (e : getItemA C.G.F σ o i = some v) (S : SR C c ρ σ s.heap) : Gives C c A (subscriptTail value r co ci) ρ σ σ v s := fun Q Er q => S.elim fun m news F N' l Ob nd => by
  have hs := plain_sub (co := co) (ci := ci) hr
  revert hs
  cases o with
  | own j =>
    obtain ⟨_, rfl⟩ := ho
    have e : (onInt i fun e => ob (σ.obj j) fun o => itemO C.G.F e o) = some v := e
    refine int_inv e hi fun x t e => ob_inv e fun ao ej e hs => ?_
    exact itemO_sound (c := c) (m := m) G hs N' Ob ej e fun y tk hy => q _ _ _ tk Ext.refl S hy
  | scr =>
    cases ho
    have e : (onInt i fun e => gd (decide (e = .c 0) && decide (C.G.F.lookup (.lt (.c 0) (.v 100)) = some true)) (some (AV.int (.v 101)))) = some v := e
    refine int_inv e hi fun x t e hs => ?_
    have hx : x = .c 0 := of_decide_eq_true (al (gl e))
    subst hx
    cases so (gr e)
    obtain ⟨vs, t', il0, h0⟩ := scr_first G.F (of_decide_eq_true (ar (gl e))) O.scr
    have il : s.heap.IsList (C.V 102).toNat vs := il0.at fun o e => F.keep _ o e
    exact tail_any il.typeIs slot_list_getitem.lookup (wpAny_getItem_list (k := 0) il (by decide) (by decide) h0 (q _ _ _ _ Ext.refl S ⟨t', rfl⟩)) hs
  | _ => exact nso e

theorem e_sub (H : Sound C N R n) (G : C.Ok N NT) (O : c.Ok C A n) (hk : k ≤ N) {a b : X} {l r : Expr} (h1 : fitE C.K c.sc k a l = true) (h2 : fitE C.K c.sc k b r = true) (hr : (!isSlice r) = true)
    (e : evalA C.G R σ (.sub a b) = some (v, σ')) (S : SR C c ρ σ s.heap) : Gives C c A (eval (.Subscript l r pos) c.env) ρ σ σ' v s := fun Q Er q => bd_inv e fun av σ₁ e1 e => bd_inv e fun bv σ₂ e2 e => ob_inv e fun u e3 e => by
  cases so e
  exact Subscript_ (H.E _ _ _ _ _ _ _ _ _ _ O hk h1 e1 S _ _ fun ρ₁ ca g₁ t₁ x₁ S₁ v₁ => H.E _ _ _ _ _ _ _ _ _ _ O hk h2 e2 S₁ _ _ fun ρ₂ cb g₂ t₂ x₂ S₂ v₂ =>
    Gives.done (σ := σ) (x₁.trans x₂) (getItem_sound G O (v₁.mono x₂) v₂ hr e3 S₂) rfl q)

theorem e_neg (H : Sound C N R n) (O : c.Ok C A n) (hk : k ≤ N) {a : X} {l : Expr} (h1 : fitE C.K c.sc k a l = true)
    (e : evalA C.G R σ (.neg a) = some (v, σ')) (S : SR C c ρ σ s.heap) : Gives C c A (eval (.UnaryOp .USub l pos) c.env) ρ σ σ' v s := fun Q Er q => bd_inv e fun av σ₁ e1 e => by
  refine wpAny_UnaryOp (H.E _ _ _ _ _ _ _ _ _ _ O hk h1 e1 S _ _ fun ρ₁ ca g₁ t₁ x₁ S₁ v₁ => ?_)
  refine int_inv e v₁ fun x t e => onCst_inv e fun i e => ?_
  cases so e
  exact P.neg_int (q _ _ _ _ x₁ S₁ ⟨_, rfl⟩)

theorem SR.keepPush {h : Heap} (S : SR C c ρ σ h) (o : Obj) : SR C c ρ σ (h.push o) := S.elim fun m news F N' l Ob nd => ⟨m, news, F.push _, News.pushKeep N' _, l, Ob, nd⟩

theorem cut_empty {r : Expr} {sp : Pos} {l : Expr} {kk : Nat} {u t : Tok} {Q Er : Value → Shared → Prop} (S : SR C c ρ σ s.heap) (q : ∀ h' t' tk, SR C c ρ σ h' → Q (.bytes (KBy.picked #[] (some (kk : Int)) none) t') { s with heap := h', toks := tk }) :
    wpAny (MM C) A (subscriptTail l (.Slice (some r) none none sp) (.bytes #[] t) (.ref s.heap.objs.size)) Q Er { s with heap := s.heap.push { cls := .type "slice", data := .fields #[.int (kk : Int) u, .none, .none] } } := S.elim fun m news F N' l' Ob nd =>
  KBc.slice_K (ks := []) (lo := some (kk : Int)) (hi := none) F N' rfl (.int _ _) .none (by decide) (fun h' t' k' F' N'' _ => q h' t' k' ⟨m, news, F', N'', l', Ob, nd⟩) rfl (fun r' => by cases l <;> rfl)
theorem e_sliceFrom (H : Sound C N R n) (O : c.Ok C A n) (hk : k ≤ N) {a b : X} {l r : Expr} {sp : Pos} (h1 : fitE C.K c.sc k a l = true) (h2 : fitE C.K c.sc k b r = true)
    (e : evalA C.G R σ (.sliceFrom a b) = some (v, σ')) (S : SR C c ρ σ s.heap) : Gives C c A (eval (.Subscript l (.Slice (some r) none none sp) pos) c.env) ρ σ σ' v s := fun Q Er q => bd_inv e fun av σ₁ e1 e => bd_inv e fun bv σ₂ e2 e => by
  refine Subscript_ (H.E _ _ _ _ _ _ _ _ _ _ O hk h1 e1 S _ _ fun ρ₁ ca g₁ t₁ x₁ S₁ v₁ => ?_)
  refine byt_inv e v₁ fun ba t e => wpAny_Slice ?_
  show wpAny _ A (eval r c.env) _ _ _
  refine H.E _ _ _ _ _ _ _ _ _ _ O hk h2 e2 S₁ _ _ fun ρ₂ cb g₂ t₂ x₂ S₂ v₂ => ?_
  refine int_inv (gr e) v₂ fun x u e' => onCst_inv e' fun i e' => onNat_inv e' fun kk e' => wpAny_pure (wpAny_pure ?_)
  cases so e'
  have hb0 : ba = #[] := Array.toList_eq_nil_iff.mp (List.map_eq_nil_iff.mp (isEmpty_eq (gl e)))
  subst hb0
  exact cut_empty (s := { s with heap := g₂, toks := t₂ }) S₂ fun h' t' tk S' => q _ _ _ _ (x₁.trans x₂) S' ⟨_, _, rfl, by rw [KBc.picked_eq]; simp⟩
theorem e_list (H : Sound C N R n) (O : c.Ok C A n) (hk : k ≤ N) {xs : List X} {es : List Expr} (h1 : allFit (fitE C.K c.sc k) xs es = true)
    (e : evalA C.G R σ (.list xs) = some (v, σ')) (S : SR C c ρ σ s.heap) : Gives C c A (eval (.List es pos) c.env) ρ σ σ' v s := fun Q Er q => ob_inv e fun p e1 e => by
  have hz : p.1.length < 10000 := of_decide_eq_true (gl e)
  cases so (gr e)
  refine wpAny_List (args_sound H O hk h1 e1 S _ _ fun ρ₁ cvs g₁ t₁ x₁ S₁ v₁ => ⟨by rw [← v₁.len, sizeLine_eq]; omega, S₁.elim fun m news F N' l Ob nd => ?_⟩)
  exact SR.push0 F N' l Ob nd (ao := .list p.1) (o := listOf cvs.toArray 0) rfl ⟨_, _, rfl, v₁⟩ fun ρ' y1 y2 y3 => q _ _ _ _ (x₁.trans y1) y2 y3
theorem e_tup (H : Sound C N R n) (O : c.Ok C A n) (hk : k ≤ N) {xs : List X} {es : List Expr} {kk : Nat} (h1 : allFit (fitE C.K c.sc k) xs es = true)
    (e : evalA C.G R σ (.tup xs) = some (v, σ')) (S : SR C c ρ σ s.heap) : Gives C c A (eval (.Tuple es kk pos) c.env) ρ σ σ' v s := fun Q Er q => ob_inv e fun p e1 e => by
  have hz : p.1.length < 10000 := of_decide_eq_true (gl e)
  cases so (gr e)
  refine wpAny_Tuple (args_sound H O hk h1 e1 S _ _ fun ρ₁ cvs g₁ t₁ x₁ S₁ v₁ => ⟨by rw [← v₁.len, sizeLine_eq]; omega, S₁.elim fun m news F N' l Ob nd => ?_⟩)
  exact SR.push0 F N' l Ob nd (ao := .tuple p.1) (o := tupOf cvs.toArray) rfl ⟨_, rfl, v₁⟩ fun ρ' y1 y2 y3 => q _ _ _ _ (x₁.trans y1) y2 y3
theorem e_dict0 (O : c.Ok C A n) (e : evalA C.G R σ .dict0 = some (v, σ')) (S : SR C c ρ σ s.heap) : Gives C c A (eval (.Dict [] [] pos) c.env) ρ σ σ' v s := fun Q Er q => by
  cases e
  exact S.elim fun m news F N' l Ob nd => newDict_K F N' O.T.nolimit fun d h' o F' N'' lt lo _ _ hd _ =>
    SR.give F' N'' l Ob nd (fun _ => lo) lt (ao := .idict []) ⟨(Heap.get?_some_iff.mp (N'' _ (.head _)).1).2, [], hd, .nil⟩ fun ρ' => q ρ' _ _ _

/-! calls -/
theorem keeper_of {f : AV} {cf : Value} (hc : Callable C f) {V : Nat → Int} {ρ : Nat → Addr} {m : Nat} (hv : VR V ρ m f cf) (h : Heap) (X : C.K.In h) :
    ∃ k, (k = Keeper.frame ∨ k = Keeper.machine ∨ k = Keeper.boundFrame) ∧ Looks (MM C) h (keeperOf cf) k := by
  cases f with
  | fn a => cases hv; exact keeps_K hc h X
  | cls a => cases hv; exact keeps_K hc h X
  | bi b => cases hv; cases b <;> exact ⟨_, .inr (.inl rfl), .now⟩
  | _ => exact hc.elim

theorem callWith_sound (H : Sound C N R n) (O : c.Ok C A n) (hk : k ≤ N) {xs : List X} {es : List Expr} {vs : List AV} {cf : Value} {first : List Value} {Q Er : Value → Shared → Prop}
    (hkeep : ∀ h, C.K.In h → ∃ k, (k = Keeper.frame ∨ k = Keeper.machine ∨ k = Keeper.boundFrame) ∧ Looks (MM C) h (keeperOf cf) k) (h1 : allFit (fitE C.K c.sc k) xs es = true)
    (e : evs R.E xs σ = some (vs, σ')) (S : SR C c ρ σ s.heap)
    (q : ∀ ρ' cvs h' tk, Ext ρ σ.next ρ' σ'.next → SR C c ρ' σ' h' → F2 (VR C.V ρ' σ'.next) vs cvs → wpAny (MM C) A (call cf (first ++ cvs) []) Q Er { s with heap := h', toks := tk }) :
    wpAny (MM C) A (callWith pos cf first (backTo pos (starEach es c.env)) []) Q Er s := by
  cases es with
  | nil =>
    cases xs with
    | nil =>
      cases e
      exact callWith_of (P := C.K.In) rfl hkeep (evalArgs_nil3 ⟨O.keeps S, q ρ [] s.heap s.toks Ext.refl S .nil⟩)
    | cons => exact no h1
  | cons e₀ rest =>
    cases xs with
    | nil => exact no h1
    | cons x₀ xs =>
      have hp := args_plain (pos := pos) (env := c.env) h1
      have A0 := args_sound (pos := pos) H O hk h1 e S
      rw [star_plain (ar (al h1))] at A0 hp ⊢
      exact callWith_of (P := C.K.In) (by rw [hp]; rfl) hkeep (evalArgs_plain (A0 _ _ fun ρ' cvs h' tk x' S' v' => ⟨O.keeps S', q ρ' cvs h' tk x' S' v'⟩))

theorem call_eq {g : Expr} {es : List Expr} {env : Env} (h : notAttr g = true) : eval (.Call g es [] pos) env = (do callWith pos (← eval g env) [] (backTo pos (starEach es env)) (backToKw pos (keywordEach [] env))) := by cases g <;> first | rfl | exact no h
theorem e_call (H : Sound C N R n) (O : c.Ok C A n) (hk : k ≤ N) {f : X} {g : Expr} {xs : List X} {es : List Expr} (hg : notAttr g = true) (h0 : fitE C.K c.sc k f g = true) (h1 : allFit (fitE C.K c.sc k) xs es = true)
    (e : evalA C.G R σ (.call f xs) = some (v, σ')) (S : SR C c ρ σ s.heap) : Gives C c A (eval (.Call g es [] pos) c.env) ρ σ σ' v s := fun Q Er q => bd_inv e fun fv σ₁ e0 e => ob_inv e fun p e1 e =>
  Call_ (H.E _ _ _ _ _ _ _ _ _ _ O hk h0 e0 S _ _ fun ρ₁ cf g₁ t₁ x₁ S₁ v₁ => callWith_sound H O hk (keeper_of (H.keep _ _ _ _ e) v₁) h1 e1 S₁ fun ρ₂ cvs g₂ t₂ x₂ S₂ v₂ =>
    Gives.done (σ := σ) (x₁.trans x₂) (H.C c A fv p.1 p.2 σ' v ρ₂ { s with heap := g₂, toks := t₂ } cf cvs O (v₁.mono x₂) v₂ e S₂) rfl q) (call_eq hg)
end
end Mine

-- D11
namespace Mine
open PySem PySem.W PySem.Calls PyProof.Rows PySem.SeqAt PySem.MeetsSeq

section
variable {C : Cx} {c : Fm} {A : Around} {ρ : Nat → Addr} {σ σ' : St} {s : Shared} {N : Nat} {NT : List Str} {R : Rec} {n k : Nat} {v : AV} {pos : Pos}

theorem SR.change {h h' : Heap} {j : Nat} {ao ao' : AO} {o' : Obj} (S : SR C c ρ σ h) (hj : σ.obj j = some ao) (hs : Heap.SameBut (ρ j) h h') (ho : h'.get? (ρ j) = some o') (z : OR C.V ρ σ.next C.prog C.w ao' o')
    (zi : isI ao' = true → isI ao = true) : SR C c ρ (σ.put j ao') h' := S.elim fun m news F N' l Ob nd => by
  obtain ⟨o, mm, _, up⟩ := Ob.upd nd hj
  obtain ⟨own, U, Ob', ea⟩ := up ao' o' z zi
  obtain ⟨pre, post, hl, hr, a, b⟩ := U.split
  have q := N' _ mm
  refine ⟨m, _, F.change hs q.2.1 q.2.2, ?_, l, ⟨own, rfl, Ob'⟩, ea ▸ nd⟩
  rw [hr]
  exact news_set (hl ▸ N') a b hs ho

theorem append_sound {j : Nat} {l : List AV} {u : AV} {cu : Value} (S : SR C c ρ σ s.heap) (hj : σ.obj j = some (.list l)) (hu : VR C.V ρ σ.next u cu) (hz : l.length < 10000) :
    Gives C c A (call (.builtin "list.append") [.ref (ρ j), cu] []) ρ σ (σ.put j (.list (l ++ [u]))) .none s := fun Q Er q => S.elim fun m news F N' l' Ob nd => Ob.lst N' hj fun its k1 m1 _ r1 hl =>
  append_at (N' _ m1).1 (fun h' hs ho => q ρ _ _ s.toks Ext.refl (S.change hj hs ho ⟨its ++ [cu], k1 + 1, by simp, r1.append (.cons hu .nil)⟩ (fun z => nomatch z)) rfl) (by rw [List.size_toArray, ← hl, sizeLine_eq]; omega)

noncomputable def iv : Value → Int
  | .int i _ => i
  | _ => 0
theorem findI_cons {V : Nat → Int} {m : Nat} {kk : Int} {a : AV} {y : Value} {l : List AV} {j : Nat} (e : findI kk (a :: l) = some j) (r : VR V ρ m a y) : ∃ i t, y = .int i t ∧ cond (decide (i = kk)) (some 0) ((findI kk l).map (· + 1)) = some j := by
  refine int_inv e r fun x t e => onCst_inv e fun i e => ⟨i, t, rfl, e⟩
theorem findI_sound {V : Nat → Int} {m : Nat} {kk : Int} {l : List AV} {its : List Value} (h : F2 (VR V ρ m) l its) : ∀ {j : Nat}, findI kk l = some j → ∃ h : j < its.length, (iv its[j] == kk) = true ∧ ∀ i (hi : i < its.length), i < j → (iv its[i] == kk) = false := by
  induction h with
  | nil => exact fun e => nomatch e
  | @cons a y _ its r rs ih =>
    intro j e
    obtain ⟨i, t, rfl, e⟩ := findI_cons e r
    by_cases q : i = kk
    · rw [decide_eq_true q] at e
      cases so e
      exact ⟨Nat.succ_pos _, beq_iff_eq.mpr q, fun i _ hi => absurd hi (Nat.not_lt_zero _)⟩
    · rw [decide_eq_false q] at e
      obtain ⟨j', e', rfl⟩ := Option.map_eq_some_iff.mp e
      obtain ⟨h1, h2, h3⟩ := ih e'
      refine ⟨Nat.succ_lt_succ h1, h2, fun i' hi' hlt => ?_⟩
      cases i' with
      | zero => exact beq_false_of_ne q
      | succ i' => exact h3 i' (Nat.lt_of_succ_lt_succ hi') (Nat.lt_of_succ_lt_succ hlt)
theorem allC_gives {V : Nat → Int} {m : Nat} {kk : Int} {t : Tok} {l : List AV} {its : List Value} (h : F2 (VR V ρ m) l its) (e : l.all isC = true) : ∀ y, y ∈ its → EqGives y (.int kk t) (iv y == kk) := by
  induction h with
  | nil => exact fun _ h => nomatch h
  | @cons a _ _ _ r _ ih =>
    intro z hz
    rw [List.all_cons] at e
    rcases List.mem_cons.mp hz with rfl | hz
    · cases a with
      | int x =>
        obtain ⟨u, rfl⟩ := r
        exact EqGives.int _ _ _ _
      | _ => exact no (al e)
    · exact ih (ar e) z hz

theorem remove_sound {j i : Nat} {l : List AV} {kk : Int} {t : Tok} (S : SR C c ρ σ s.heap) (hj : σ.obj j = some (.list l)) (hz : l.length < 10000) (ha : l.all isC = true) (hf : findI kk l = some i) :
    Gives C c A (call (.builtin "list.remove") [.ref (ρ j), .int kk t] []) ρ σ (σ.put j (.list (l.eraseIdx i))) .none s := fun Q Er q => S.elim fun m news F N' l' Ob nd => Ob.lst N' hj fun its k1 m1 il r1 hl => by
  obtain ⟨h1, h2, h3⟩ := findI_sound r1 hf
  have e1 := mapSeq_erase its.toArray k1 i h1
  refine call_meets PySem.F.slot_list_remove il.typeIs PySem.F.entry_list_remove (PySem.F.args_list_remove_2 _ _)
    (list_remove (ρ j) its.toArray k1 (.int kk t) (fun y => iv y == kk) (fun y hy => allC_gives r1 ha y (List.mem_toArray.mp hy)) i h1 h2 h3 (by rw [List.size_toArray, ← hl, sizeLine_eq]; omega)) ⟨(N' _ m1).1, ?_⟩
  refine q ρ _ _ s.toks Ext.refl (S.change hj (Heap.SameBut.update ..) (Heap.get?_update_self _ (N' _ m1).1 ?_) ?_ (fun z => nomatch z)) rfl
  · rw [e1]; rfl
  · rw [e1]; exact ⟨its.eraseIdx i, k1 + 1, rfl, r1.erase⟩

theorem pop_sound {j : Nat} {es : List (Int × AV)} {kk : Int} {t : Tok} {u : AV} (S : SR C c ρ σ s.heap) (hj : σ.obj j = some (.idict es)) (hz : es.length < 900) (hf : es.lookup kk = some u) :
    Gives C c A (call (.builtin "dict.pop") [.ref (ρ j), .int kk t] []) ρ σ (σ.put j (.idict (es.filter (fun p => decide (p.1 ≠ kk))))) u s := fun Q Er q => S.elim fun m news F N' l' Ob nd => Ob.idc N' hj fun o1 kvs m1 hd hD r1 => by
  rcases idict_find r1 kk with ⟨z, _⟩ | ⟨av, v', z1, z2, z3⟩
  · exact nomatch z.symm.trans hf
  · cases hf.symm.trans z1
    refine call_meetsIn PySem.F.slot_dict_pop hD.typeIs PySem.F.entry_dict_pop (PySem.F.args_dict_pop_2 _ _) (meets_dict_pop_there (intKind C.prog C.w) (ρ j) (intKind_is _ _ _ _) [] (.inl rfl) rfl)
      ⟨kvs, v', hD, by rw [← r1.len, sizeLine_eq]; omega, z2, fun h' hmm hs => ?_⟩
    obtain ⟨o', ho', hd'⟩ := Heap.dictOf_iff.mp hmm
    exact q ρ _ _ _ Ext.refl (S.change hj hs ho' ⟨(Heap.get?_some_iff.mp ho').2, _, hd', idict_without r1 kk⟩ (fun _ => rfl)) z3

theorem enc_append : enc "append" = some 108239373365093 := by decide +kernel
theorem enc_remove : enc "remove" = some 126883776722790 := by decide +kernel
theorem enc_pop : enc "pop" = some 7434353 := by decide +kernel

theorem arm_meth {M : Model} {o : Expr} {name : Str} {apos : Pos} {es : List Expr} {env : Env} {Q Er : Value → Shared → Prop} {few : methodCallForm (es.length + ([] : List Keyword).length) (backTo pos (starEach es env)) (backToKw pos (keywordEach [] env)) = true} (hp : plainBase o = true) (hl : apos.endLine = pos.line)
    (h : wpAny M A (eval o env) (fun ov s₁ => ∀ pl, wpAny M A (getMethod ov name pl) (fun fx s₂ => wpAny M A (callWith pos fx.1 fx.2 (backTo pos (starEach es env)) []) Q Er s₂) Er s₁) Er s) :
    wpAny M A (eval (.Call (.Attribute o name apos) es [] pos) env) Q Er s := by
  rw [arm_eval_Call]
  refine wpAny_bind (attr_base hp (wpAny_mono h (fun ov s₁ h₁ => wpAny_bind (wpAny_standAt ?_)) fun _ _ z => z))
  have hpos : methodCallPos true o env apos pos = pure pos := by unfold methodCallPos; simp [hl]
  unfold methodCall
  rw [few]
  refine wpAny_bind (wpAny_holding ?_)
  show wpAny _ _ (getMethod ov name _) _ _ _
  refine wpAny_mono (h₁ _) (fun fx s₂ h₂ => ?_) fun _ _ z => z
  obtain ⟨f, first⟩ := fx
  exact wpAny_bind (wpAny_of_eq hpos h₂)

theorem few_plain {f : X → Expr → Bool} {xs : List X} {es : List Expr} {env : Env} (h1 : allFit f xs es = true) (hlen : es.length < 30) : methodCallForm (es.length + ([] : List Keyword).length) (backTo pos (starEach es env)) (backToKw pos (keywordEach [] env)) = true := by
  unfold methodCallForm
  have hp := args_plain (pos := pos) (env := env) h1
  simp only [Bool.and_eq_true, decide_eq_true_eq]
  refine ⟨⟨?_, rfl⟩, hlen⟩
  rw [List.all_eq_true]
  intro x hx
  rw [List.any_eq_false] at hp
  simpa using hp x hx
theorem fn_keeps {K : Frag} {f : Addr} (h : fnIn K f = true) : keepIn K (.ref f) = true := by
  unfold fnIn at h
  unfold keepIn
  dsimp only
  generalize K.lookup f = o at h ⊢
  cases o with
  | none => exact no h
  | some o =>
    obtain ⟨c, d, data, sl⟩ := o
    cases data <;> first | exact no h | rfl
/-- what is called -/
noncomputable def calleeV (k : MK) : Value := match k with
  | .fn f => .ref f
  | .append => .builtin "list.append"
  | .remove => .builtin "list.remove"
  | .pop => .builtin "dict.pop"
noncomputable def KeepsV (C : Cx) (cf : Value) : Prop := ∀ h, C.K.In h → ∃ k, (k = Keeper.frame ∨ k = Keeper.machine ∨ k = Keeper.boundFrame) ∧ Looks (MM C) h (keeperOf cf) k
theorem meth_fn (G : C.Ok N NT) (O : c.Ok C A n) {ov : AV} {co : Value} {nm : Str} {j f : Nat} (hj : enc nm = some j) (hv : VR C.V ρ σ.next ov co) (e : methOf C.G σ ov j = some f) (S : SR C c ρ σ s.heap) {Q : Value × List Value → Shared → Prop} {Er : Value → Shared → Prop} {pl : Sem Bool}
    (q : keepIn C.K (.ref f) = true → Q (.ref f, [co]) s) : wpAny (MM C) A (getMethod co nm pl) Q Er s := by
  revert q
  refine obj_inv e G hv fun jo d Ca fs cc hx lt ej ed K e q => ob_inv e fun f' ef e => S.elim fun m news F N' l' Ob nd => ?_
  cases so (gr e)
  obtain ⟨es', kk, fr, _, I⟩ := inst_of N' Ob ej ed
  obtain ⟨b1, b2, b3⟩ := K.meth nm j f hj ef
  exact method_inst F O.X I (K.plain _) b1 b2 (fr_none hj fr (Option.isNone_iff_eq_none.mp (gl e))) (q (fn_keeps b3))
theorem pick_sound (G : C.Ok N NT) (O : c.Ok C A n) {ov : AV} {co : Value} {nm : Str} {j : Nat} {mk : MK} (hj : enc nm = some j) (hv : VR C.V ρ σ.next ov co) (e : getMethA C.G σ ov j = some mk) (S : SR C c ρ σ s.heap) {Q : Value × List Value → Shared → Prop} {Er : Value → Shared → Prop} {pl : Sem Bool}
    (q : KeepsV C (calleeV mk) → Q (calleeV mk, [co]) s) : wpAny (MM C) A (getMethod co nm pl) Q Er s := by
  have fn : (methOf C.G σ ov j).map .fn = some mk → wpAny (MM C) A (getMethod co nm pl) Q Er s := fun e => by
    obtain ⟨f, ef, rfl⟩ := Option.map_eq_some_iff.mp e
    exact meth_fn G O hj hv ef S fun hk => q fun h X => keeps_K hk h X
  have bk : ∀ {b : String}, keeperOf (.builtin b) = keeperOf (.builtin b) → KeepsV C (.builtin b) := fun _ h X => ⟨_, .inr (.inl rfl), .now⟩
  revert q fn
  refine own_inv e hv fun jo _ lt e q fn => ob_inv e fun ao ej e => S.elim fun m news F N' l' Ob nd => ?_
  cases ao with
  | list vs₀ =>
    refine Ob.lst N' ej fun its k1 m1 il _ _ => ?_
    by_cases hz : j = 108239373365093
    · have e : cond (decide (j = 108239373365093)) (some MK.append) _ = some mk := e
      rw [decide_eq_true hz] at e
      cases so e
      cases enc_inj hj (hz ▸ enc_append)
      exact getMethod_builtin il.typeIs PySem.F.plainAttrs_list PySem.F.slot_list_append PySem.F.type_list_append (fun a' ha => by cases ha; exact ⟨_, (N' _ m1).1, rfl⟩) (q (bk rfl))
    · have e : cond (decide (j = 108239373365093)) (some MK.append) (gd (decide (j = 126883776722790)) (some .remove)) = some mk := e
      rw [decide_eq_false hz] at e
      cases so (gr e)
      cases enc_inj hj (of_decide_eq_true (gl e) ▸ enc_remove)
      exact getMethod_builtin il.typeIs PySem.F.plainAttrs_list PySem.F.slot_list_remove PySem.F.type_list_remove (fun a' ha => by cases ha; exact ⟨_, (N' _ m1).1, rfl⟩) (q (bk rfl))
  | idict es₀ =>
    refine Ob.idc N' ej fun o1 kvs m1 hd hD r1 => ?_
    cases so (gr e)
    cases enc_inj hj (of_decide_eq_true (gl e) ▸ enc_pop)
    exact getMethod_builtin hD.typeIs PySem.F.plainAttrs_dict PySem.F.slot_dict_pop PySem.F.type_dict_pop hD.mapOf.noDict (q (bk rfl))
  | _ => exact fn e
theorem run_sound (H : Sound C N R n) (O : c.Ok C A n) {ov : AV} {co : Value} {vs : List AV} {cvs : List Value} {mk : MK} (hv : VR C.V ρ σ.next ov co) (hvs : F2 (VR C.V ρ σ.next) vs cvs) (e : runMeth R σ mk ov vs = some (v, σ')) (S : SR C c ρ σ s.heap) :
    Gives C c A (call (calleeV mk) (co :: cvs) []) ρ σ σ' v s := by
  cases mk with
  | fn f => exact H.C c A (.fn f) (ov :: vs) σ σ' v ρ s (.ref f) _ O rfl (.cons hv hvs) e S
  | append =>
    refine own_inv e hv fun jo _ _ e => on1_inv e hvs fun u cu _ e hu => list_inv e fun l ej e => ?_
    cases so (gr e)
    exact append_sound S ej hu (of_decide_eq_true (gl e))
  | remove =>
    refine own_inv e hv fun jo _ _ e => on1_inv e hvs fun u cu _ e hu => int_inv e hu fun x t e => onCst_inv e fun i e => list_inv e fun l ej e => ob_inv e fun k ef e => ?_
    cases so (gr e)
    exact remove_sound S ej (of_decide_eq_true (al (gl e))) (ar (gl e)) ef
  | pop =>
    refine own_inv e hv fun jo _ _ e => on1_inv e hvs fun u cu _ e hu => int_inv e hu fun x t e => onCst_inv e fun i e => ob_inv e fun o ej e => ?_
    cases o with
    | idict es =>
      refine ob_inv e fun w ew e => ?_
      cases so (gr e)
      exact pop_sound S ej (of_decide_eq_true (gl e)) ew
    | _ => exact nso e

theorem e_meth (H : Sound C N R n) (G : C.Ok N NT) (O : c.Ok C A (n + 1)) (hk : k ≤ N) {a : X} {l : Expr} {nm : Str} {j : Nat} {apos : Pos} {xs : List X} {es : List Expr} (h0 : fitE C.K c.sc k a l = true) (hj : enc nm = some j) (hp : plainBase l = true)
    (hlen : es.length < 30) (h1 : allFit (fitE C.K c.sc k) xs es = true) (hl : apos.endLine = pos.line)
    (e : evalA C.G R σ (.meth a j xs) = some (v, σ')) (S : SR C c ρ σ s.heap) : Gives C c A (eval (.Call (.Attribute l nm apos) es [] pos) c.env) ρ σ σ' v s := fun Q Er q => bd_inv e fun ov σ₁ e0 e => ob_inv e fun mk em e => ob_inv e fun p e1 e =>
  have O' := O.less (Nat.le_succ n)
  arm_meth (few := few_plain h1 hlen) hp hl (H.E _ _ _ _ _ _ _ _ _ _ O' hk h0 e0 S _ _ fun ρ₁ co g₁ t₁ x₁ S₁ v₁ pl => pick_sound (s := { s with heap := g₁, toks := t₁ }) G O' hj v₁ em S₁ fun hkp =>
    callWith_sound (first := [co]) H O' hk hkp h1 e1 S₁ fun ρ₂ cvs g₂ t₂ x₂ S₂ v₂ => Gives.done (σ := σ) (x₁.trans x₂) (run_sound (s := { s with heap := g₂, toks := t₂ }) H O' (v₁.mono x₂) v₂ e S₂) rfl q)
end
end Mine

-- D12
namespace Mine
open PySem PySem.W PySem.Calls PyProof.Rows PySem.SeqAt PySem.MeetsSeq

section
variable {β : Type}
noncomputable def bstep (a : List (Str × β)) (x : Str × β) : List (Str × β) := if (a.lookup x.1).isNone = true then a ++ [(x.1, x.2)] else a
theorem lk_some {n : Str} {l : List (Str × β)} : (l.lookup n).isNone = decide (n ∉ l.map (·.1)) := by
  induction l with
  | nil => rfl
  | cons p r ih =>
    rw [List.lookup_cons]
    by_cases q : n = p.1
    · rw [q, beq_self_eq_true]
      exact (decide_eq_false fun z => z (.head _)).symm
    · rw [beq_false_of_ne q]
      refine ih.trans (decide_eq_decide.mpr ⟨fun h z => ?_, fun h z => h (.tail _ z)⟩)
      rcases List.mem_cons.mp z with z | z
      · exact q z
      · exact h z
theorem zip_fst (ns : List Str) : ∀ vs : List β, (ns.zip vs).map (·.1) = ns.take vs.length := by
  induction ns with
  | nil => intro vs; exact (List.take_nil).symm
  | cons n ns ih =>
    intro vs
    cases vs with
    | nil => rfl
    | cons v vs => exact congrArg (n :: ·) (ih vs)
theorem bstep_in {a : List (Str × β)} {x : Str × β} (h : x.1 ∈ a.map (·.1)) : bstep a x = a := by
  unfold bstep
  rw [lk_some, decide_eq_false (fun z => z h)]
  exact if_neg Bool.false_ne_true
theorem bstep_out {a : List (Str × β)} {x : Str × β} (h : x.1 ∉ a.map (·.1)) : bstep a x = a ++ [x] := by
  unfold bstep
  rw [lk_some, decide_eq_true h]
  exact if_pos rfl
theorem fold_skip {a : List (Str × β)} {l : List (Str × β)} (h : ∀ x ∈ l, x.1 ∈ a.map (·.1)) : l.foldl bstep a = a := by
  induction l with
  | nil => rfl
  | cons x l ih =>
    rw [List.foldl_cons, bstep_in (h x (.head _))]
    exact ih fun y hy => h y (.tail _ hy)
theorem fold_app {l : List (Str × β)} : ∀ {a : List (Str × β)}, ((a ++ l).map (·.1)).Nodup → l.foldl bstep a = a ++ l := by
  induction l with
  | nil => intro a _; exact (List.append_nil a).symm
  | cons x l ih =>
    intro a h
    have e : a ++ x :: l = (a ++ [x]) ++ l := by rw [List.append_assoc]; rfl
    have hx : x.1 ∉ a.map (·.1) := fun z => by
      rw [List.map_append, List.nodup_append] at h
      exact h.2.2 _ z x.1 (.head _) rfl
    rw [List.foldl_cons, bstep_out hx, e]
    rw [e] at h
    exact ih h
theorem lk_last {pre r : List (Str × β)} {n : Str} {w : β} (h : n ∉ pre.map (·.1)) : (pre ++ (n, w) :: r).lookup n = some w := by
  induction pre with
  | nil => rw [List.nil_append, List.lookup_cons, beq_self_eq_true]
  | cons p l ih =>
    rw [List.cons_append, List.lookup_cons, beq_false_of_ne fun z : n = p.1 => h (z.symm ▸ List.Mem.head _)]
    exact ih fun z => h (.tail _ z)
theorem fm_all {ns : List Str} : ∀ {ws : List β} {pre : List (Str × β)}, ns.length = ws.length → ((pre.map (·.1)) ++ ns).Nodup → ns.filterMap (fun n => ((pre ++ ns.zip ws).lookup n).map (fun x => (n, x))) = ns.zip ws := by
  induction ns with
  | nil => intro ws pre _ _; rfl
  | cons n ns ih =>
    intro ws pre h nd
    cases ws with
    | nil => cases h
    | cons w ws =>
      have hn : n ∉ pre.map (·.1) := fun z => (List.nodup_append.mp nd).2.2 _ z n (.head _) rfl
      have e : pre ++ (n :: ns).zip (w :: ws) = (pre ++ [(n, w)]) ++ ns.zip ws := by rw [List.append_assoc]; rfl
      have hl : (pre ++ (n :: ns).zip (w :: ws)).lookup n = some w := lk_last hn
      rw [List.filterMap_cons, hl, e]
      exact congrArg ((n, w) :: ·) (ih (Nat.succ.inj h) (by rw [List.map_append, List.append_assoc]; exact nd))
/-- names and values fall apart as the binding takes them -/
theorem bind_lists {a b n2 : List Str} {vs d1 d2 : List β} (nd : (a ++ b ++ n2).Nodup) (hv : (a ++ b).length = vs.length) (hb : b.length = d1.length) (h2 : n2.length = d2.length) :
    ((a ++ b ++ n2).take a.length).filter (fun n => (((a ++ b ++ n2).zip vs).lookup n).isNone) = [] ∧
    (((a ++ b ++ n2).drop a.length).zip (d1 ++ d2)).foldl bstep ((a ++ b ++ n2).zip vs) = (a ++ b ++ n2).zip (vs ++ d2) := by
  have z0 : (a ++ b ++ n2).zip vs = (a ++ b).zip vs := by
    have := List.zip_append (l₁ := a ++ b) (r₁ := n2) (l₂ := vs) (r₂ := []) hv
    rw [List.append_nil, List.zip_nil_right, List.append_nil] at this
    exact this
  have nm : ((a ++ b).zip vs).map (·.1) = a ++ b := by rw [zip_fst, ← hv, List.take_length]
  have z1 : (a ++ b ++ n2).zip (vs ++ d2) = (a ++ b).zip vs ++ n2.zip d2 := List.zip_append hv
  have z2 : (b ++ n2).zip (d1 ++ d2) = b.zip d1 ++ n2.zip d2 := List.zip_append hb
  have nm2 : (n2.zip d2).map (·.1) = n2 := by rw [zip_fst, ← h2, List.take_length]
  have sk : (b.zip d1).foldl bstep ((a ++ b).zip vs) = (a ++ b).zip vs := fold_skip fun x hx => by
    rw [nm]
    have h1 : x.1 ∈ (b.zip d1).map (·.1) := List.mem_map_of_mem hx
    rw [zip_fst] at h1
    exact List.mem_append_right _ (List.mem_of_mem_take h1)
  rw [z0, z1, List.append_assoc a b n2, List.take_left, List.drop_left, z2, List.foldl_append, sk]
  refine ⟨List.filter_eq_nil_iff.mpr fun n hn => ?_, fold_app ?_⟩
  · rw [lk_some, nm, decide_eq_false fun z => z (List.mem_append_left _ hn)]
    exact Bool.false_ne_true
  · rw [List.map_append, nm, nm2]; exact nd
theorem bind_split {ns : List Str} {vs ds : List β} (hl : vs.length ≤ ns.length) (hm : ns.length - vs.length ≤ ds.length) (hz : ds.length ≤ ns.length) :
    ∃ a b n2 d1 d2, ns = a ++ b ++ n2 ∧ ds = d1 ++ d2 ∧ d2 = ds.drop (ds.length - (ns.length - vs.length)) ∧ ns.length - ds.length = a.length ∧ (a ++ b).length = vs.length ∧ b.length = d1.length ∧ n2.length = d2.length := by
  have h1 : ns.length - ds.length ≤ vs.length := Nat.sub_le_iff_le_add.mpr (Nat.sub_le_iff_le_add'.mp hm)
  have e : ns.take vs.length = ns.take (ns.length - ds.length) ++ (ns.take vs.length).drop (ns.length - ds.length) := by
    have := List.take_append_drop (ns.length - ds.length) (ns.take vs.length)
    rw [List.take_take, Nat.min_eq_left h1] at this
    exact this.symm
  refine ⟨ns.take (ns.length - ds.length), (ns.take vs.length).drop (ns.length - ds.length), ns.drop vs.length, ds.take (ds.length - (ns.length - vs.length)), _, ?_, (List.take_append_drop _ _).symm, rfl, (List.length_take_of_le (Nat.sub_le _ _)).symm, ?_, ?_, ?_⟩
  · rw [← e, List.take_append_drop]
  · rw [← e, List.length_take_of_le hl]
  · rw [List.length_drop, List.length_take_of_le hl, List.length_take_of_le (Nat.sub_le _ _), Nat.sub_sub_right _ hz, Nat.sub_sub_right _ hl, Nat.add_comm]
  · rw [List.length_drop, List.length_drop, Nat.sub_sub_self hm]
end

theorem forIn_bstep {l : List (Str × Value)} : ∀ {a : List (Str × Value)},
    (forIn (m := Sem) l a fun x s => if (List.lookup x.1 s).isNone = true then pure (ForInStep.yield (s ++ [(x.1, x.2)])) else pure (ForInStep.yield s)) = pure (l.foldl bstep a) := by
  induction l with
  | nil => intro a; rfl
  | cons x l ih =>
    intro a
    rw [List.forIn_cons, List.foldl_cons]
    unfold bstep
    by_cases h : (List.lookup x.1 a).isNone = true
    · rw [if_pos h, if_pos h]
      exact ih
    · rw [if_neg h, if_neg h]
      exact ih

/-- what the binder asks for, and what it gives -/
theorem bind_raw {ns : List Str} {vs ds : List Value} (nd : ns.Nodup) (hl : vs.length ≤ ns.length) (hm : ns.length - vs.length ≤ ds.length) (hz : ds.length ≤ ns.length) :
    (ns.take (ns.length - (ds.drop (ds.length - ns.length)).length)).filter (fun n => ((ns.zip vs).lookup n).isNone) = [] ∧
    (ns ++ []).filterMap (fun n => ((((ns.drop (ns.length - (ds.drop (ds.length - ns.length)).length)).zip (ds.drop (ds.length - ns.length))).foldl bstep (ns.zip vs)).lookup n).map (fun x => (n, x))) = ns.zip (vs ++ ds.drop (ds.length - (ns.length - vs.length))) := by
  rw [Nat.sub_eq_zero_of_le hz, List.drop_zero, List.append_nil]
  obtain ⟨a, b, n2, d1, d2, hns, hds, hd2, ha, hv, hb, hl2⟩ := bind_split hl hm hz
  have hwl : ns.length = (vs ++ d2).length := by rw [hns, List.length_append (as := a ++ b), hv, List.length_append (as := vs), hl2]
  rw [ha, ← hd2]
  clear hd2 ha hl hm hz
  subst hns hds
  obtain ⟨e1, e2⟩ := bind_lists nd hv hb hl2
  rw [e1, e2]
  exact ⟨rfl, fm_all (pre := []) hwl nd⟩
section
variable {α : Type} {M : Model} {A : Around} {Q : α → Shared → Prop} {E : Value → Shared → Prop} {s : Shared}
theorem wp_else {c : Prop} [Decidable c] {t e : Sem α} (h : ¬ c) (k : wpAny M A e Q E s) : wpAny M A (if c then t else e) Q E s := by rw [if_neg h]; exact k
theorem wp_fold {l a : List (Str × Value)} {f : List (Str × Value) → Sem α} (k : ∀ r, r = l.foldl bstep a → wpAny M A (f r) Q E s) : wpAny M A ((forIn (m := Sem) l a fun x s => if (List.lookup x.1 s).isNone = true then pure (ForInStep.yield (s ++ [(x.1, x.2)])) else pure (ForInStep.yield s)) >>= f) Q E s := by
  rw [forIn_bstep]
  exact wpAny_bind (wpAny_pure (k _ rfl))
end
theorem not_miss {α : Type} {l : List α} (h : l = []) : ¬ (!l.isEmpty) = true := by subst h; exact Bool.false_ne_true
theorem not_more {m n : Nat} {b : Bool} (h : m ≤ n) : ¬ (decide (m > n) && b) = true := fun z => absurd (of_decide_eq_true (al z)) (Nat.not_lt.mpr h)
theorem bindArgs_plain {fd : FuncData} {vs ds : List Value} {s : Shared} {M : Model} {A : Around} {Er : Value → Shared → Prop} {Q : List (Str × Value) → Shared → Prop} (h1 : fd.params.posonlyargs = []) (h2 : fd.params.vararg = none) (h3 : fd.params.kwonlyargs = []) (h4 : fd.params.kwarg = none)
    (hd : ∀ (Q : Option (Array Value) → Shared → Prop), (∀ o, (o.getD #[]).toList = ds → Q o s) → wpAny M A (seqItems? fd.defaults) Q Er s) (hn : (fd.params.args.map (·.arg)).Nodup)
    (hl : vs.length ≤ fd.params.args.length) (hm : fd.params.args.length - vs.length ≤ ds.length) (hz : ds.length ≤ fd.params.args.length)
    (q : Q ((fd.params.args.map (·.arg)).zip (vs ++ ds.drop (ds.length - (fd.params.args.length - vs.length)))) s) : wpAny M A (bindArgs fd ⟨vs, []⟩) Q Er s := by
  obtain ⟨name, qual, ⟨po, args, va, kwo, kwd, kwa, dfs⟩, body, scope, gl, cl, dV, kV, doc, pm, an, cdv, ct, bi⟩ := fd
  dsimp only at *
  subst h1 h2 h3 h4
  rw [← List.length_map (f := (·.arg)) (as := args)] at hl hm hz q
  delta bindArgs
  dsimp only [List.map_nil, List.nil_append, List.append_nil, List.forIn_nil]
  generalize args.map (·.arg) = ns at hn hl hm hz q ⊢
  refine wpAny_bind (wpAny_pure (wpAny_bind (hd _ fun o ho => ?_)))
  dsimp only [List.map_nil, List.nil_append, List.append_nil, List.forIn_nil]
  generalize (o.getD #[]).toList = l at ho ⊢
  subst ho
  have raw := bind_raw hn hl hm hz
  refine wp_else (not_more hl) (wp_else (not_miss raw.1) (wp_fold fun r hr => wpAny_bind (wpAny_pure (wp_else Bool.false_ne_true (wpAny_pure ?_)))))
  subst hr
  exact Eq.mp (congrArg (Q · s) raw.2.symm) q
end Mine

-- D13
namespace Mine
open PySem PySem.W PySem.Calls PyProof.Rows PySem.SeqAt PySem.MeetsSeq

theorem slot_ba_len : Slot "bytearray" "__len__" "bytearray.__len__" :=
  .of (owner := "bytearray") (n := "__len__") (by rw [typeLookup_type, builtinLookup_eq_fast]; kernel_rfl) (by decide +kernel) (by decide +kernel) (by decide +kernel)
    (by first | exact .inl (by decide +kernel) | exact .inr (by decide +kernel)) (by rw [isSubtype_type]; kernel_rfl)
theorem entry_ba_len : entryFor table "bytearray.__len__" = some Builtin.«bytearray.__len__» := by first | exact entryFor_of_fast (by kernel_rfl) | exact entryFor_of_tree (by kernel_rfl)
theorem args_ba_len (a : Value) : argsOk "bytearray.__len__" ⟨[a], []⟩ := by unfold argsOk; kernel_rfl
theorem entry_bytes_new : entryFor table "bytes.__new__" = some Builtin.«bytes.__new__» := by first | exact entryFor_of_fast (by kernel_rfl) | exact entryFor_of_tree (by kernel_rfl)
theorem look_bytes_bytes : typeLookup (.type "bytes") "__bytes__" = pure (some (.builtin "bytes.__bytes__")) := by rw [typeLookup_type, builtinLookup_eq_fast]; kernel_rfl

section
variable {prog : Program} {w : World} {A : Around} {E : Value → Shared → Prop} {s : Shared}
theorem len_barr {a : Addr} {Q : Value → Shared → Prop} (ho : s.heap.get? a = some barrOf) (h : Q (.int 0 (s.toks + 1)) { s with toks := s.toks + 1 + 1 }) : wpAny (model prog w) A (call (.builtin "len") [.ref a]) Q E s := by
  have hT : s.TypeIs (.ref a) "bytearray" := ⟨_, ho, rfl⟩
  refine call_function_entry kind_len plain_len entry_len (args_len1 _) ?_
  unfold Builtin.«len»
  refine wpAny_bind (m := oneArg "len" _) (wpAny_pure ?_)
  refine wpAny_bind (m := callSpecial? (.ref a) (Str.ofString "__len__")) (wpAny_callSpecial?_slot (name := Str.ofString "__len__") hT slot_ba_len
    (wpAny_call_entry slot_ba_len hT entry_ba_len ?_ (args_ba_len _)))
  show wpAny _ _ (Builtin.Bytes.payload (.ref a) >>= fun r => retInt r.size) _ _ s
  unfold Builtin.Bytes.payload Builtin.Bytes.payload?
  refine wpAny_bind (wpAny_bind (wpAny_bind (wpAny_load ho ?_)))
  refine wpAny_pure (wpAny_pure ?_)
  refine wpAny_bind (wpAny_mkInt (wpAny_pure ⟨_, rfl, ?_⟩))
  refine wpAny_bind (wpAny_holding (wpAny_pure ?_))
  refine wpAny_bind (wpAny_letGo ?_)
  show wpAny _ _ (if ((0 : Nat) : Int) < 0 then _ else _) _ _ _
  rw [if_neg (by omega)]
  show wpAny _ _ (if ((0 : Nat) : Int) ≥ 2 ^ 63 then _ else _) _ _ _
  rw [if_neg (by omega)]
  exact wpAny_bind (wpAny_mkInt (wpAny_pure ⟨_, rfl, h⟩))

theorem bytes_bytes {b : Array UInt8} {t : Tok} {Q : Value → Shared → Prop} (h : Q (.bytes b t) s) : wpAny (model prog w) A (call (.type "bytes") [.bytes b t]) Q E s := by
  refine callType_codes (Q₁ := fun obj s₁ => s₁.TypeIs obj "bytes" ∧ Q obj s₁) PySem.F.bm_called (PySem.F.bm_typeCall _) PySem.F.entry_object_init ?_ fun obj s₁ h₁ =>
    ⟨h₁.1, PySem.F.args_object_init_2 obj _, object_init_meets PySem.F.bm_called.init.lookup PySem.F.bm_called.made (by decide) prog w A.in1 _ s₁ ⟨h₁.1, rfl, h₁.2⟩⟩
  have hT : s.TypeIs (.bytes b t) "bytes" := PySem.W.typeIs_bytes _ _ _
  refine codeAny_call_builtin PySem.F.bm_plain entry_bytes_new (wpAny_of_eq (PySem.F.bm_newCall _) ?_)
  unfold Builtin.«bytes.__new__»
  refine wpAny_bind (wpAny_of_eq (a := true) rfl ?_)
  refine bm_if_false rfl ?_
  refine wpAny_bind (wpAny_of_eq PySem.F.bm_sub ?_)
  refine bm_if_false rfl ?_
  refine wpAny_bind (wpAny_of_eq (PySem.F.bm_bind _) ?_)
  refine wpAny_bind (wpAny_of_eq (a := ()) rfl ?_)
  refine wpAny_bind (wpAny_of_eq (a := ()) rfl ?_)
  refine bm_if_false rfl ?_
  refine wpAny_bind (wpAny_specialOf hT look_bytes_bytes ?_)
  refine wpAny_bind (wpAny_rule ?_)
  refine wpAny_bind (wpAny_typeOf hT ?_)
  refine bm_if_true rfl ?_
  exact wpAny_pure ⟨hT, h⟩
end
end Mine

-- D14
namespace Mine
open PySem PySem.W PySem.Calls PyProof.Rows PySem.SeqAt PySem.MeetsSeq

/-! what a def of the text is -/
structure FnOk (K : Frag) (N : Nat) (a : Nat) (f : CFn) (name qual : Str) (params : Arguments) (body : List Stmt) (scope : Scope) (dV kV doc pm cdv ct : Value) (o : Obj) (an : Option Addr) : Prop where
  at_ : K.lookup a = some o
  data : o.data = .func (fnOf name qual params body scope dV kV doc pm an cdv ct)
  keep : keepIn K (.ref a) = true
  code : codeIn K cdv qual = true
  par : parFit f.ps params.args = true
  pos : params.posonlyargs = []
  var : params.vararg = none
  kwo : params.kwonlyargs = []
  kwa : params.kwarg = none
  dfl : dfltFit K f.ds dV = true
  co : scope.isCoroutine = false
  gen : scope.isGenerator = false
  kind : scope.kind = .function
  cell : ∀ x ∈ scope.names, x.2 ≠ .cell
  loc : ∀ x ∈ params.args, scope.names.lookup x.arg = some .local
  body : bodyFit (fitS K scope N) f.body body = true
  nd : f.ps.Nodup
  len : f.ds.length ≤ f.ps.length

theorem keep_func {K : Frag} {a : Addr} {c : Value} {d : Option Addr} {fd : FuncData} {sl : Array (Option Value)} (h : K.lookup a = some ⟨c, d, .func fd, sl⟩) : keepIn K (.ref a) = true := by
  unfold keepIn
  dsimp only
  rw [h]
theorem not_true {b : Bool} (h : (!b) = true) : b = false := by
  cases b with
  | false => rfl
  | true => exact no h
theorem all_dec {α : Type} {l : List α} {p : α → Prop} [DecidablePred p] (h : l.all (fun x => decide (p x)) = true) : ∀ x ∈ l, p x := fun x hx => of_decide_eq_true (List.all_eq_true.mp h x hx)
theorem opt_none {α : Type} {o : Option α} (h : o.isNone = true) : o = none := by
  cases o with
  | none => rfl
  | some _ => exact no h
theorem fn_inv {K : Frag} {N a : Nat} {f : CFn} {P : Prop} (h : fnFit K N a f = true) (k : ∀ name qual params body scope dV kV doc pm cdv ct o an, FnOk K N a f name qual params body scope dV kV doc pm cdv ct o an → P) : P :=
  oany_inv h fun o ho h => onFn_inv (P := fun o => K.lookup a = some o → P) h (fun c d fd sl h ho => by
    obtain ⟨name, qual, params, fb, scope, gl, cl, dV, kV, doc, pm, an, cdv, ct, bi⟩ := fd
    revert ho
    refine onBd_inv (P := fun fb => K.lookup a = some ⟨c, d, .func ⟨name, qual, params, fb, scope, gl, cl, dV, kV, doc, pm, an, cdv, ct, bi⟩, sl⟩ → P) h fun body h ho => ?_
    unfold fnFit1 at h
    dsimp only at h
    have h7 : cl = [] := isEmpty_eq (al (ar (ar (ar (ar (ar (ar h)))))))
    have h8 : gl = mainGlobals := of_decide_eq_true (al (ar (ar (ar (ar (ar (ar (ar h))))))))
    have h9 : bi = builtinsNs := of_decide_eq_true (al (ar (ar (ar (ar (ar (ar (ar (ar h)))))))))
    subst h7 h8 h9
    exact k name qual params body scope dV kV doc pm cdv ct _ an ⟨ho, rfl, keep_func ho, (al (ar (ar (ar (ar (ar (ar (ar (ar (ar h)))))))))), al h, isEmpty_eq (al (ar h)), opt_none (al (ar (ar h))), isEmpty_eq (al (ar (ar (ar h)))), opt_none (al (ar (ar (ar (ar h))))), (al (ar (ar (ar (ar (ar h)))))), not_true (al (ar (ar (ar (ar (ar (ar (ar (ar (ar (ar h))))))))))), not_true (al (ar (ar (ar (ar (ar (ar (ar (ar (ar (ar (ar h)))))))))))), of_decide_eq_true (al (ar (ar (ar (ar (ar (ar (ar (ar (ar (ar (ar (ar h))))))))))))), all_dec (al (ar (ar (ar (ar (ar (ar (ar (ar (ar (ar (ar (ar (ar h)))))))))))))), all_dec (al (ar (ar (ar (ar (ar (ar (ar (ar (ar (ar (ar (ar (ar (ar h))))))))))))))), (al (ar (ar (ar (ar (ar (ar (ar (ar (ar (ar (ar (ar (ar (ar (ar h)))))))))))))))), of_decide_eq_true (al (ar (ar (ar (ar (ar (ar (ar (ar (ar (ar (ar (ar (ar (ar (ar (ar h))))))))))))))))), of_decide_eq_true (ar (ar (ar (ar (ar (ar (ar (ar (ar (ar (ar (ar (ar (ar (ar (ar (ar h)))))))))))))))))⟩) ho

section
variable {V : Nat → Int} {ρ : Nat → Addr} {n : Nat}
theorem F2.mem {α β : Type} {R : α → β → Prop} {as : List α} {bs : List β} (h : F2 R as bs) {x : α} (m : x ∈ as) : ∃ y, y ∈ bs ∧ R x y := by
  induction h with
  | nil => cases m
  | cons r _ ih =>
    rcases List.mem_cons.mp m with e | m
    · exact ⟨_, .head _, e ▸ r⟩
    · exact (ih m).imp fun _ z => ⟨.tail _ z.1, z.2⟩
theorem F2.zip2 {α β γ δ : Type} {R : α → β → Prop} {T : γ → δ → Prop} {as : List α} {bs : List β} (h : F2 R as bs) : ∀ {cs : List γ} {ds : List δ}, F2 T cs ds → F2 (fun (x : α × γ) (y : β × δ) => R x.1 y.1 ∧ T x.2 y.2) (as.zip cs) (bs.zip ds) := by
  induction h with
  | nil => exact fun _ => .nil
  | cons r _ ih =>
    intro cs ds t
    cases t with
    | nil => exact .nil
    | cons t ts => exact .cons ⟨r, t⟩ (ih ts)
theorem par_names {ps : List Nat} : ∀ {as : List Arg}, parFit ps as = true → F2 (fun k s => enc s = some k) ps (as.map (·.arg)) := by
  induction ps with
  | nil =>
    intro as h
    cases as with
    | nil => exact .nil
    | cons => exact no h
  | cons k ks ih =>
    intro as h
    cases as with
    | nil => exact no h
    | cons a as => exact .cons (encIs_eq (al h)) (ih (ar h))
theorem names_nodup {ps : List Nat} {ns : List Str} (h : F2 (fun k s => enc s = some k) ps ns) (nd : ps.Nodup) : ns.Nodup := by
  induction h with
  | nil => exact List.nodup_nil
  | @cons k s ks ns h hs ih =>
    rw [List.nodup_cons] at nd ⊢
    refine ⟨fun hm => nd.1 ?_, ih nd.2⟩
    clear nd ih
    induction hs with
    | nil => cases hm
    | cons h' _ ih =>
      rcases List.mem_cons.mp hm with e | hm
      · exact Option.some.inj (h.symm.trans (e ▸ h')) ▸ .head _
      · exact .tail _ (ih hm)
theorem lk_mem {β : Type} {l : List (Str × β)} {y : Str} {v : β} (nd : (l.map (·.1)).Nodup) (h : (y, v) ∈ l) : l.lookup y = some v := by
  induction l with
  | nil => cases h
  | cons p l ih =>
    rw [List.map_cons, List.nodup_cons] at nd
    rw [List.lookup_cons]
    rcases List.mem_cons.mp h with h' | h'
    · subst h'; rw [beq_self_eq_true]
    · rw [beq_false_of_ne fun q : y = p.1 => nd.1 (List.mem_map.mpr ⟨(y, v), h', q⟩)]
      exact ih nd.2 h'
theorem loc_new {ps : List Nat} {ns : List Str} {avs : List AV} {vs : List Value} (hp : F2 (fun k s => enc s = some k) ps ns) (hn : ps.Nodup) (hv : F2 (VR V ρ n) avs vs) : LocR V ρ n (ps.zip avs) (fun y => (ns.zip vs).reverse.lookup y) := by
  intro s k av hs e
  obtain ⟨⟨s', v⟩, hm, h1, h2⟩ := (hp.zip2 hv).mem (mem_lookup e)
  cases enc_inj hs h1
  refine ⟨v, lk_mem ?_ (List.mem_reverse.mpr hm), h2⟩
  rw [List.map_reverse, zip_fst]
  exact List.pairwise_reverse.mpr (((names_nodup hp hn).sublist (List.take_sublist _ _)).imp Ne.symm)
theorem ds_fit {K : Frag} {ds : List AV} : ∀ {vs : List Value}, dsFit K ds vs = true → F2 (VR V ρ n) ds vs := by
  induction ds with
  | nil =>
    intro vs h
    cases vs with
    | nil => exact .nil
    | cons => exact no h
  | cons a as ih =>
    intro vs h
    cases vs with
    | nil => exact no h
    | cons v vs => exact .cons (valFits_VR (al h)) (ih (ar h))
/-- the defaults of a def, read -/
noncomputable def DfltIs (d : Value) (h : Heap) (vs : List Value) : Prop := ∀ (M : Model) (A : Around) (Er : Value → Shared → Prop) (s : Shared), s.heap = h → ∀ (Q : Option (Array Value) → Shared → Prop), (∀ o, (o.getD #[]).toList = vs → Q o s) → wpAny M A (seqItems? d) Q Er s
theorem dflt_of {K : Frag} {h : Heap} (X : K.In h) {ds : List AV} {d : Value} (e : dfltFit K ds d = true) : ∃ vs : List Value, F2 (VR V ρ n) ds vs ∧ DfltIs d h vs := by
  cases ds with
  | nil =>
    have hd : d = .none := of_decide_eq_true e
    subst hd
    exact ⟨[], .nil, fun M A Er s _ Q q => by
      show wpAny _ _ (pure () >>= fun _ => pure none) _ _ _
      exact wpAny_bind (wpAny_pure (wpAny_pure (q none rfl)))⟩
  | cons a ds =>
    have e : (onVR d fun t => oany (K.lookup t) fun o => onTp o fun items => dsFit K (a :: ds) items) = true := e
    refine onVR_inv e fun t e => oany_inv e fun o ho e => ?_
    revert ho
    exact onTp_inv (P := fun o => K.lookup t = some o → _) e fun d items nn sl e ho => ⟨items.toList, ds_fit e, fun M A Er s hs Q q => wpAny_seqItems (hs ▸ X _ _ ho) rfl (q (some items) rfl)⟩
end

section
variable {C : Cx} {c : Fm} {A : Around} {ρ : Nat → Addr} {σ σ' : St} {s : Shared} {N : Nat} {NT : List Str} {R : Rec} {n k : Nat} {v : AV}

/-- the frame of a called def -/
noncomputable def Fm.sub (c : Fm) (A : Around) (qual : Str) (scope : Scope) (L' a : Addr) (cdv : Value) (g : Heap) (X : List (Addr × Obj)) : Fm := { nm := qual, sc := scope, L := L', a := a, cd := cdv, h₀ := g, base := c.base, outer := c.env :: c.outer, A₀ := A, X := X }
theorem ScrOk.keeps {V : Nat → Int} {h h' : Heap} (q : ScrOk V h) (st : h.StaysIn h') : ScrOk V h' := by
  obtain ⟨vs, ns, il, r⟩ := q
  exact ⟨vs, ns, il.at fun o e => st _ o e, r⟩
theorem Fm.Ok.sub (O : c.Ok C A (n + 1)) {qual : Str} {scope : Scope} {L' a : Addr} {cdv : Value} {g : Heap} {X : List (Addr × Obj)} (B : Below A c.base (c.env :: c.outer) g) (st : c.h₀.StaysIn g) (hk : scope.kind = .function) : (c.sub A qual scope L' a cdv g X).Ok C (A.deeper (envOf qual scope L' a cdv)) n :=
  { B := B, fr := Around.frames_deeper O.fr, hd := O.hd, X := O.X.keeps st, T := O.T.keeps st, kind := hk, scr := O.scr.keeps st
    room := by have := O.room; show A.depth + 1 + 2 * n + 2 < recursionLimit; omega
    units := by have := O.units; show A.units + 3 + 10 * n + 20 < cLine; omega }
theorem Fm.Ok.deep (O : c.Ok C A n) : A.depth < recursionLimit := by have := O.room; omega

/-- what a call binds -/
theorem enter {K : Frag} {a : Nat} {fd : CFn} {name qual : Str} {params : Arguments} {body : List Stmt} {scope : Scope} {dV kV doc pm cdv ct : Value} {o : Obj} {an : Option Addr} {V : Nat → Int} {m : Nat} {vs : List AV} {cvs : List Value} {P : Prop}
    (W : FnOk K N a fd name qual params body scope dV kV doc pm cdv ct o an) (X : K.In s.heap) (hv : F2 (VR V ρ m) vs cvs) (hg : fitsN fd vs = true)
    (k : ∀ binds, BindsTo s (fnOf name qual params body scope dV kV doc pm an cdv ct) ⟨cvs, []⟩ binds → (∀ y ∈ binds, scope.names.lookup y.1 = some .local) → LocR V ρ m (fd.ps.zip (vs ++ fd.ds.drop (fd.ds.length - (fd.ps.length - vs.length)))) (fun y => binds.reverse.lookup y) → P) (hz : fd.ds.length ≤ fd.ps.length) : P := by
  have hp := par_names W.par
  have hpl : fd.ps.length = params.args.length := by rw [hp.len, List.length_map]
  obtain ⟨dvs, hd, hrun⟩ := dflt_of (V := V) (ρ := ρ) (n := m) X W.dfl
  have hb := hv.append (hd.drop (k := fd.ds.length - (fd.ps.length - vs.length)))
  have h1 : vs.length ≤ fd.ps.length := of_decide_eq_true (al hg)
  have h2 : fd.ps.length - vs.length ≤ fd.ds.length := of_decide_eq_true (ar hg)
  have hl := loc_new hp W.nd hb
  rw [hv.len, hpl] at h1 h2
  rw [hd.len] at h2 hz hl
  rw [hpl] at hz
  rw [hv.len, hpl] at hl
  refine k ((params.args.map (·.arg)).zip (cvs ++ dvs.drop (dvs.length - (params.args.length - cvs.length)))) (fun M A' E' Q' hq => bindArgs_plain (fd := fnOf name qual params body scope dV kV doc pm an cdv ct) W.pos W.var W.kwo W.kwa (hrun M A' E' s rfl) (names_nodup hp W.nd) h1 h2 hz hq) (fun y hy => ?_) ?_
  · have h1 := List.mem_map_of_mem (f := (·.1)) hy
    rw [zip_fst] at h1
    obtain ⟨x, hx, hx'⟩ := List.mem_map.mp (List.mem_of_mem_take h1)
    exact hx' ▸ W.loc x hx
  · rw [hd.len, hv.len, hpl]; exact hl
theorem flow_back {V : Nat → Int} {m : Nat} {fl : AFlow} {f : Flow} {loc : List (Nat × AV)} {σ : St} (h : FlowR V ρ m fl f) : VR V ρ m (back loc (fl, σ)).1 (match (generalizing := false) f with | .ret v => v | _ => .none) := by
  cases fl with
  | next => cases h; rfl
  | ret v => obtain ⟨cv, rfl, h⟩ := h; exact h

theorem callDef_sound (H : Sound C N R n) (G : C.Ok N NT) (O : c.Ok C A (n + 1)) {a : Nat} {fd : CFn} {vs : List AV} {cvs : List Value} (ef : C.G.fns.lookup a = some fd) (hv : F2 (VR C.V ρ σ.next) vs cvs)
    (e : callDef R σ fd vs = some (v, σ')) (S : SR C c ρ σ s.heap) : GivesC C c A (.ref a) cvs ρ σ σ' v s := fun Rr q => fn_inv (G.fns _ _ ef) fun name qual params body scope dV kV doc pm cdv ct o an W => S.elim fun m news F N' l Ob nd =>
  ob_inv (gr e) fun p eb e' => enter W (O.X.keeps F.keep) hv (gl e) (fun binds hb hloc hl => by
    cases so e'
    exact callX_plain (cl := []) (binds := binds) O.B F N' O.T.nolimit O.fr rfl O.kind (O.X.keeps F.keep _ _ W.at_) W.data (codeRec_of (O.X.keeps F.keep) W.code) O.deep hb hloc (fun g L' h₁ Fg F' N'' B' st _ =>
      H.B (c.sub A qual scope L' a cdv g c.X) _ fd.body body (inOf σ fd vs) p.2 p.1 ρ { s with heap := h₁, toks := s.toks + binds.length } N (O.sub B' st W.kind) (Nat.le_refl _) W.body eb ⟨_, news, F', N'', hl, Ob, nd⟩ _ _ fun ρ' f h' tk x' S' fl =>
        S'.elim fun m' news' F₂ N₂ _ Ob' nd' => leaveK_ F₂ N₂ fun F₃ N₃ => q ρ' _ h' tk x' ⟨m, news', F₃, N₃, l.mono x', Ob', nd'⟩ (flow_back (loc := σ.loc) fl)) W.cell W.co W.gen W.kind) W.len
end
end Mine

-- D15
namespace Mine
open PySem PySem.W PySem.Calls PyProof.Rows PySem.SeqAt PySem.MeetsSeq

section
variable {C : Cx} {c : Fm} {A : Around} {ρ : Nat → Addr} {σ σ' : St} {s : Shared} {N : Nat} {NT : List Str} {R : Rec} {n k : Nat} {v : AV}

theorem ct_hit {a : Nat} {vs : List AV} {t : Nat × List AV × AV} (h : ctOf C.G a vs = some t) : t ∈ C.G.CT ∧ t.1 = a ∧ t.2.1 = vs :=
  have h1 := List.find?_some h
  ⟨List.mem_of_find?_eq_some h, beq_iff_eq.mp (al h1), of_decide_eq_true (ar h1)⟩
theorem ct_sound (h12 : 12 ≤ n ∨ C.G.CT = []) (G : C.Ok N NT) (O : c.Ok C A (n + 1)) {a : Nat} {vs : List AV} {cvs : List Value} {t : Nat × List AV × AV} (et : ctOf C.G a vs = some t) (hv : F2 (VR C.V ρ σ.next) vs cvs) (e : some (t.2.2, σ) = some (v, σ')) (S : SR C c ρ σ s.heap) : GivesC C c A (.ref a) cvs ρ σ σ' v s := by
  cases so e
  obtain ⟨hm, rfl, rfl⟩ := ct_hit et
  exact G.ct t hm c A σ ρ s cvs (O.less (h12.elim (fun q => Nat.le_succ_of_le q) fun q => by rw [q] at hm; cases hm)) hv S

theorem callF_sound (h12 : 12 ≤ n ∨ C.G.CT = []) (H : Sound C N R n) (G : C.Ok N NT) : SoundF C (fun σ f vs => callA C.G R σ f vs) (n + 1) := by
  intro c A a vs σ σ' v ρ s cvs O hv e S
  have e : (match ctOf C.G a vs with | some t => some (t.2.2, σ) | none => ob (C.G.fns.lookup a) fun fd => callDef R σ fd vs) = some (v, σ') := e
  cases et : ctOf C.G a vs with
  | some t => rw [et] at e; exact ct_sound h12 G O et hv e S
  | none => rw [et] at e; exact fun Rr q => ob_inv e fun fd ef e => callDef_sound H G O ef hv e S Rr q

theorem under_tc (O : c.Ok C A (n + 1)) {a : Addr} {pos : List Value} : c.Ok C (A.under (.builtin "type.__call__" ⟨.ref a :: pos, []⟩)) n :=
  { O with fr := O.fr, hd := O.hd
           room := by have := O.room; show A.depth + 1 + 2 * n + 2 < recursionLimit; omega
           units := by have := O.units; show A.units + 1 + 10 * n + 20 < cLine; omega }

/-- a new object and its dict -/
theorem SR.born {m : Str → Option Value} {news : List (Addr × Obj)} {h' : Heap} {x dx : Addr} {a : Nat} {P : Prop} (F' : Fr c.h₀ c.L h' m) (N' : News c.h₀ c.L h' ((x, instObj a dx) :: (dx, dictOf [] 0) :: news)) (l : LocR C.V ρ σ.next σ.loc m)
    (Ob : Objs c.X C.V ρ σ.next C.prog C.w σ.objs news) (nd : Nd (news.map (·.1))) (lt : ∀ p ∈ news, p.1 < dx) (lx : dx < x)
    (k : ∀ ρ', Ext ρ σ.next ρ' (born σ a).next → SR C c ρ' (born σ a) h' → VR C.V ρ' (born σ a).next (.own (σ.next + 1)) (.ref x) → P) : P := by
  obtain ⟨e1, Ob1, nd1⟩ := Ob.push (ao := .adict []) (o := dictOf [] 0) (a := dx) lt nd ⟨[], 0, rfl, .nil⟩ (fun z => nomatch z)
  obtain ⟨e2, Ob2, nd2⟩ := Ob1.push (ao := .inst a σ.next) (o := instObj a dx) (a := x) (fun p hp => (List.mem_cons.mp hp).elim (fun e => e ▸ lx) fun hp => Nat.lt_trans (lt p hp) lx) nd1 ⟨by omega, by simp⟩ (fun z => nomatch z)
  exact k _ (e1.trans e2) ⟨m, _, F', N', l.mono (e1.trans e2), Ob2, nd2⟩ ⟨Nat.lt_succ_self _, by simp⟩
theorem own_kept {ρ' : Nat → Addr} {m m' j : Nat} {V : Nat → Int} {u : Value} (x : Ext ρ m ρ' m') (h : VR V ρ m (.own j) u) : VR V ρ' m' (.own j) u := VR.mono x (av := .own j) h
theorem cls_sound (H : Sound C N R n) (G : C.Ok N NT) (O : c.Ok C A (n + 1)) {a : Nat} {k : CCls} {vs : List AV} {cvs : List Value} (ek : C.G.cls.lookup a = some k) (hv : F2 (VR C.V ρ σ.next) vs cvs)
    (e : R.C (born σ a) (.fn k.init) (.own (σ.next + 1) :: vs) = some (.none, σ')) (S : SR C c ρ σ s.heap) : Gives C c A (call (.ref a) cvs []) ρ σ σ' (.own (σ.next + 1)) s := fun Q Er q => S.elim fun m news F N' l Ob nd =>
  have K := clsOk_of (G.cls _ _ ek)
  call_cls F O.X N' K.makes K.init K.initF fun x dx h' F' N'' lt lx => SR.born F' N'' l Ob nd lt lx fun ρ₁ x₁ S₁ v₁ =>
    H.F c _ k.init (.own (σ.next + 1) :: vs) (born σ a) σ' .none ρ₁ { s with heap := h' } (.ref x :: cvs) (under_tc O) (.cons v₁ (VRs.mono x₁ hv)) e S₁ _ fun ρ' cv h'' tk x' S' v' => by
      cases v'
      exact ⟨rfl, q ρ' (.ref x) h'' tk (x₁.trans x') S' (own_kept x' v₁)⟩

theorem bytesOf_sound {V : Nat → Int} {m : Nat} {l : List AV} {its : List Value} (h : F2 (VR V ρ m) l its) : ∀ {b : List Nat}, bytesOf l = some b → IntsAre its (b.map Int.ofNat) ∧ ∀ x ∈ b, x < 256 := by
  induction h with
  | nil => intro b e; cases e; exact ⟨.nil, fun _ h => nomatch h⟩
  | @cons a y _ _ h hs ih =>
    intro b e
    refine int_inv e h fun x t e => onCst_inv e fun i e => onNat_inv e fun k e => ?_
    obtain ⟨b', eb, rfl⟩ := Option.map_eq_some_iff.mp (gr e)
    obtain ⟨h1, h2⟩ := ih eb
    exact ⟨.cons _ _ h1, fun x hx => (List.mem_cons.mp hx).elim (fun z => z ▸ of_decide_eq_true (gl e)) (h2 x)⟩

theorem maxS_den {V : Nat → Int} {x y : SI} : (maxS x y).den V = if x.den V < y.den V then y.den V else x.den V := cst2 (P := fun z : SI => z.den V = if x.den V < y.den V then y.den V else x.den V) (fun i j a b => by subst a b; rfl) rfl
theorem byte_back {b : List Nat} (h : ∀ x ∈ b, x < 256) : (byteArr (b.map Int.ofNat)).toList.map UInt8.toNat = b := by
  unfold byteArr
  simp only [List.map_map]
  conv => rhs; rw [← List.map_id b]
  refine List.map_congr_left fun y hy => ?_
  show (UInt8.ofNat (Int.toNat (Int.ofNat y))).toNat = y
  rw [UInt8.toNat_ofNat']
  exact Nat.mod_eq_of_lt (h y hy)
theorem byte_range {b : List Nat} (h : ∀ x ∈ b, x < 256) : ∀ x ∈ b.map Int.ofNat, 0 ≤ x ∧ x < 256 := fun x hx => by
  obtain ⟨y, hy, rfl⟩ := List.mem_map.mp hx
  exact ⟨Int.natCast_nonneg _, Int.ofNat_lt.mpr (h y hy)⟩

theorem len_sound (O : c.Ok C A n) {x : AV} {cx : Value} (hx : VR C.V ρ σ.next x cx) (e : lenA σ x = some (v, σ')) (S : SR C c ρ σ s.heap) : Gives C c A (call (.builtin "len") [cx] []) ρ σ σ' v s := fun Q Er q => by
  cases x with
  | bytes b =>
    obtain ⟨a, t, rfl, rfl⟩ := hx
    have hz := of_decide_eq_true (gl e)
    cases so (gr e)
    refine PySem.W.len_bytes (by simp at hz; omega) ?_
    exact q ρ _ s.heap _ Ext.refl S ⟨s.toks + 1, by rw [List.length_map, Array.length_toList]; rfl⟩
  | own j =>
    obtain ⟨_, rfl⟩ := hx
    refine ob_inv e fun o ej e => ob_inv e fun k ek e => S.elim fun m news F N' l Ob nd => ?_
    cases so e
    cases o with
    | list l₀ =>
      have hz := of_decide_eq_true (gl ek)
      cases so (gr ek)
      exact Ob.lst N' ej fun its _ _ il _ hl => Calls.call_len_list il (by rw [List.size_toArray, ← hl]; omega) (q ρ _ s.heap _ Ext.refl S ⟨s.toks + 1, by rw [List.size_toArray, ← hl]; rfl⟩)
    | barr =>
      cases so ek
      obtain ⟨_, o1, m1, rfl⟩ := Ob.get ej
      exact len_barr (N' _ m1).1 (q ρ _ s.heap _ Ext.refl S ⟨_, rfl⟩)
    | _ => exact nso ek
  | scr =>
    cases hx
    cases so e
    obtain ⟨vs, ns, il0, hi, h1, h2, h3⟩ := O.scr
    refine S.elim fun m news F N' l Ob nd => ?_
    have il : s.heap.IsList (C.V 102).toNat vs.toArray := il0.at fun o e => F.keep _ o e
    have hl : vs.length = ns.length := hi.length
    refine Calls.call_len_list il (by rw [List.size_toArray, hl]; omega) (q ρ _ s.heap _ Ext.refl S ⟨s.toks + 1, ?_⟩)
    show Value.int _ _ = Value.int (C.V 100) _
    rw [h1, List.size_toArray, hl]
  | _ => exact nso e
theorem bytesA_sound (O : c.Ok C A n) {x : AV} {cx : Value} (hx : VR C.V ρ σ.next x cx) (e : bytesA σ x = some (v, σ')) (S : SR C c ρ σ s.heap) : Gives C c A (call (.type "bytes") [cx] []) ρ σ σ' v s := fun Q Er q => by
  cases x with
  | bytes b =>
    cases so e
    obtain ⟨a, t, rfl, rfl⟩ := hx
    exact bytes_bytes (q ρ _ s.heap s.toks Ext.refl S ⟨_, _, rfl, rfl⟩)
  | own j =>
    obtain ⟨_, rfl⟩ := hx
    refine list_inv e fun l₀ ej e => ob_inv (gr e) fun b eb e' => S.elim fun m news F N' l Ob nd => Ob.lst N' ej fun its _ _ il r1 hl => ?_
    have hz := of_decide_eq_true (gl e)
    cases so e'
    obtain ⟨hi, hb⟩ := bytesOf_sound r1 eb
    have hlen := hi.length
    exact KBa.make_K F N' O.hd il hi (byte_range hb) (by omega) fun h' t' k F' N'' _ => q ρ _ h' k Ext.refl ⟨m, news, F', N'', l, Ob, nd⟩ ⟨_, _, rfl, byte_back hb⟩
  | _ => exact nso e
theorem bi_sound (G : C.Ok N NT) (O : c.Ok C A n) {b : Bi} {vs : List AV} {cvs : List Value} (hv : F2 (VR C.V ρ σ.next) vs cvs) (e : callBi C.G b vs σ = some (v, σ')) (S : SR C c ρ σ s.heap) :
    Gives C c A (call (biV b) cvs []) ρ σ σ' v s := by
  cases b with
  | len => exact on1_inv e hv fun x cx _ e hx => len_sound O hx e S
  | max =>
    refine on2_inv e hv fun a b ca cb e ha hb => int_inv e ha fun x t e => int_inv e hb fun y u e => ?_
    cases so e
    exact fun Q Er q => S.elim fun m news F N' l Ob nd => max_two_N O.hd F N' fun h' tk F' N'' => q ρ _ h' tk Ext.refl ⟨m, news, F', N'', l, Ob, nd⟩ ⟨_, by rw [maxS_den]⟩
  | min =>
    refine on2_inv e hv fun a b ca cb e ha hb => int_inv e ha fun x t e => int_inv e hb fun y u e => ob_inv e fun r ea e => ?_
    cases so e
    refine fun Q Er q => S.elim fun m news F N' l Ob nd => min_two_N O.hd F N' fun h' tk F' N'' => ?_
    have S' : SR C c ρ σ h' := ⟨m, news, F', N'', l, Ob, nd⟩
    have hr := askLt_sound G.F ea
    cases r with
    | true => rw [if_pos (of_decide_eq_true hr)]; exact q ρ _ h' tk Ext.refl S' ⟨_, rfl⟩
    | false => rw [if_neg (of_decide_eq_false hr)]; exact q ρ _ h' tk Ext.refl S' ⟨_, rfl⟩
  | int =>
    refine on1_inv e hv fun x cx _ e hx => bool_inv e hx fun b e => ?_
    cases so e
    refine fun Q Er q => call_int_bool ?_
    cases b <;> exact q ρ _ s.heap _ Ext.refl S ⟨_, rfl⟩
  | bytes => exact on1_inv e hv fun x cx _ e hx => bytesA_sound O hx e S
  | bytearray => exact nso e

theorem callC_sound (h12 : 12 ≤ n ∨ C.G.CT = []) (H : Sound C N R n) (G : C.Ok N NT) : SoundC C (fun σ f vs => callA C.G R σ f vs) (n + 1) := by
  intro c A f vs σ σ' v ρ s cf cvs O hf hv e S
  cases f with
  | fn a =>
    cases hf
    exact fun Q Er q => wpAny_call (callF_sound h12 H G c A a vs σ σ' v ρ s cvs O hv e S _ q)
  | cls a =>
    cases hf
    refine ob_inv e fun k ek e => bd_inv e fun u σ₂ ei e => ?_
    cases u with
    | none => cases so e; exact cls_sound H G O ek hv ei S
    | _ => exact nso e
  | bi b => cases hf; exact bi_sound G O hv e S
  | _ => exact nso e

theorem cls_keeps {K : Frag} {a : Addr} (h : makesIn K a = true) : keepIn K (.ref a) = true := by
  unfold makesIn at h
  unfold keepIn
  dsimp only
  generalize K.lookup a = o at h ⊢
  cases o with
  | none => exact no h
  | some o =>
    obtain ⟨c, d, data, sl⟩ := o
    cases data <;> first | exact no h | exact ar (al h)
theorem fn_callable (G : C.Ok N NT) {a : Nat} {vs : List AV} {r : AV × St} {f : CFn → Option (AV × St)} (e : (match ctOf C.G a vs with | some t => some (t.2.2, σ) | none => ob (C.G.fns.lookup a) f) = some r) : Callable C (.fn a) := by
  cases et : ctOf C.G a vs with
  | some t =>
    obtain ⟨hm, rfl, _⟩ := ct_hit et
    exact G.ctk t hm
  | none =>
    rw [et] at e
    exact ob_inv e fun fd ef _ => fn_inv (G.fns _ _ ef) fun _ _ _ _ _ _ _ _ _ _ _ _ _ W => W.keep
theorem cls_callable (G : C.Ok N NT) {a : Nat} {k : CCls} (ek : C.G.cls.lookup a = some k) : Callable C (.cls a) := cls_keeps (clsOk_of (G.cls _ _ ek)).makes
theorem keep_sound (R : Rec) (G : C.Ok N NT) : ∀ σ f vs r, callA C.G R σ f vs = some r → Callable C f := by
  intro σ f vs r e
  cases f with
  | fn a => exact fn_callable (σ := σ) (f := fun fd => callDef R σ fd vs) G e
  | cls a => exact ob_inv e fun k ek _ => cls_callable G ek
  | bi b => trivial
  | _ => exact nso e
end
end Mine

-- D16
namespace Mine
open PySem PySem.W PySem.Calls PyProof.Rows PySem.SeqAt PySem.MeetsSeq

section
variable {C : Cx} {c : Fm} {A : Around} {ρ : Nat → Addr} {σ σ' : St} {s : Shared} {N : Nat} {NT : List Str} {R : Rec} {n k : Nat} {v : AV} {X Y : List (Addr × Obj)} {h h' : Heap} {a : Addr} {o o' : Obj}

noncomputable def Fm.at (c : Fm) (X : List (Addr × Obj)) : Fm := { c with X := X }
theorem Fm.Ok.at (O : c.Ok C A n) (X : List (Addr × Obj)) : (c.at X).Ok C A n := { O with }

theorem SR.own {P : Prop} (S : SR C (c.at X) ρ σ h) (k : ∀ m own, Fr c.h₀ c.L h m → News c.h₀ c.L h (own ++ X) → LocR C.V ρ σ.next σ.loc m → Objs0 C.V ρ σ.next C.prog C.w σ.objs own → ((own ++ X).map (·.1)).Nodup → P) : P :=
  S.elim fun m _ F N' l Ob nd => by
    obtain ⟨own, rfl, Ob'⟩ := Ob
    exact k m own F N' l Ob' nd
theorem SR.kept (S : SR C (c.at X) ρ σ h) {p : Addr × Obj} (hp : p ∈ X) : h.get? p.1 = some p.2 := S.own fun _ _ _ N' _ _ _ => (N' p (List.mem_append_right _ hp)).1
theorem SR.ne_L (S : SR C (c.at X) ρ σ h) {p : Addr × Obj} (hp : p ∈ X) : p.1 ≠ c.L := S.own fun _ _ _ N' _ _ _ => (N' p (List.mem_append_right _ hp)).2.1
theorem SR.ne_own (S : SR C (c.at X) ρ σ h) {p : Addr × Obj} (hp : p ∈ X) {j : Nat} {ao : AO} (hj : σ.obj j = some ao) : ρ j ≠ p.1 := S.own fun _ _ _ _ _ Ob nd => (Ob.get hj).2.elim fun _ z => (nd_right nd z.1 hp).symm
theorem SR.nodup (S : SR C (c.at X) ρ σ h) : (X.map (·.1)).Nodup := S.own fun _ _ _ _ _ _ nd => by
  rw [List.map_append, List.nodup_append] at nd
  exact nd.2.1
/-- what is kept may be seen in another way -/
theorem SR.perm (S : SR C (c.at X) ρ σ h) (p : X.Perm Y) : SR C (c.at Y) ρ σ h := S.own fun m own F N' l Ob nd =>
  have q : (own ++ X).Perm (own ++ Y) := p.append_left own
  ⟨m, own ++ Y, F, fun x hx => N' x (q.mem_iff.mpr hx), l, ⟨own, rfl, Ob⟩, ((q.map (·.1)).nodup_iff).mp nd⟩
theorem SR.sub (S : SR C (c.at X) ρ σ h) (hs : Y.Sublist X) : SR C (c.at Y) ρ σ h := S.own fun m own F N' l Ob nd =>
  have q : (own ++ Y).Sublist (own ++ X) := (List.Sublist.refl own).append hs
  ⟨m, own ++ Y, F, fun x hx => N' x (q.subset hx), l, ⟨own, rfl, Ob⟩, nd.sublist (q.map _)⟩
/-- a new object is kept -/
theorem SR.keepNew (S : SR C (c.at X) ρ σ h) (o : Obj) (live : o.isFreed = false) : SR C (c.at ((h.objs.size, o) :: X)) ρ σ (h.push o) := S.own fun m own F N' l Ob nd =>
  have q : (own ++ (h.objs.size, o) :: X).Perm ((h.objs.size, o) :: (own ++ X)) := List.perm_middle
  ⟨m, own ++ (h.objs.size, o) :: X, F.push _, fun p hp => N'.push F o live p (q.mem_iff.mp hp), l, ⟨own, rfl, Ob⟩, ((q.map (·.1)).nodup_iff).mpr (List.nodup_cons.mpr ⟨fun hm => (List.mem_map.mp hm).elim fun p z => Nat.ne_of_lt (Heap.lt_size (N' p z.1).1) z.2, nd⟩)⟩
/-- a kept object changes, or goes -/
theorem SR.move (S : SR C (c.at X) ρ σ h) (hk : ∀ b o, b ≠ a → h.get? b = some o → h'.get? b = some o) (ha : (a, o) ∈ X) (hY : ∀ p ∈ Y, (p ∈ X ∧ p.1 ≠ a) ∨ (p.1 = a ∧ h'.get? a = some p.2)) (hs : (Y.map (·.1)).Sublist (X.map (·.1))) : SR C (c.at Y) ρ σ h' := S.own fun m own F N' l Ob nd => by
  have A0 := N' (a, o) (List.mem_append_right _ ha)
  have far : ∀ p ∈ own ++ X, p.1 ≠ a → h'.get? p.1 = some p.2 ∧ p.1 ≠ c.L ∧ c.h₀.get? p.1 = none := fun p hp ne => ⟨hk _ _ ne (N' p hp).1, (N' p hp).2⟩
  refine ⟨m, own ++ Y, ⟨?_, fun b x e => hk b x (fun q => ?_) (F.keep b x e), F.above⟩, fun p hp => ?_, l, ⟨own, rfl, Ob⟩, ?_⟩
  · obtain ⟨oL, es, ep, hL, r⟩ := F.ns
    exact ⟨oL, es, ep, hk _ _ (Ne.symm A0.2.1) hL, r⟩
  · subst q
    exact nomatch A0.2.2.symm.trans e
  · rcases List.mem_append.mp hp with hp | hp
    · exact far p (List.mem_append_left _ hp) (nd_right nd hp ha).symm
    · rcases hY p hp with ⟨hx, ne⟩ | ⟨rfl, e⟩
      · exact far p (List.mem_append_right _ hx) ne
      · exact ⟨e, A0.2⟩
  · rw [List.map_append] at nd
    show ((own ++ Y).map (·.1)).Nodup
    rw [List.map_append]
    exact nd.sublist ((List.Sublist.refl _).append hs)
theorem SR.chg {pre post : List (Addr × Obj)} (S : SR C (c.at (pre ++ (a, o) :: post)) ρ σ h) (hk : ∀ b o, b ≠ a → h.get? b = some o → h'.get? b = some o) (ho : h'.get? a = some o') : SR C (c.at (pre ++ (a, o') :: post)) ρ σ h' := by
  have nd := S.nodup
  rw [List.map_append, List.nodup_append] at nd
  refine S.move hk (List.mem_append_right _ (.head _)) (fun p hp => ?_) (by rw [List.map_append, List.map_append]; exact List.Sublist.refl _)
  rcases List.mem_append.mp hp with hp | hp
  · exact .inl ⟨List.mem_append_left _ hp, nd.2.2 p.1 (List.mem_map_of_mem hp) a (.head _)⟩
  · rcases List.mem_cons.mp hp with rfl | hp
    · exact .inr ⟨rfl, ho⟩
    · exact .inl ⟨List.mem_append_right _ (.tail _ hp), fun e => (List.nodup_cons.mp nd.2.1).1 (List.mem_map.mpr ⟨p, hp, e⟩)⟩
/-- what is kept goes and the heap may change there -/
theorem SR.gone {post : List (Addr × Obj)} (S : SR C (c.at ((a, o) :: post)) ρ σ h) (hk : ∀ b o, b ≠ a → h.get? b = some o → h'.get? b = some o) : SR C (c.at post) ρ σ h' :=
  S.move hk (.head _) (fun p hp => .inl ⟨.tail _ hp, fun e => (List.nodup_cons.mp S.nodup).1 (List.mem_map.mpr ⟨p, hp, e⟩)⟩) (List.sublist_cons_self _ _)
/-- a kept object becomes one of the ledger's -/
theorem SR.take {post : List (Addr × Obj)} {ao : AO} {P : Prop} (S : SR C (c.at ((a, o) :: post)) ρ σ h) (z : OR C.V ρ σ.next C.prog C.w ao o) (zi : isI ao = false)
    (k : ∀ ρ', Ext ρ σ.next ρ' (σ.new ao).next → SR C (c.at post) ρ' (σ.new ao) h → VR C.V ρ' (σ.new ao).next (.own σ.next) (.ref a) → P) : P := S.own fun m own F N' l Ob nd =>
  have e : Ext ρ σ.next (ρ_new ρ σ.next a) (σ.next + 1) := ⟨Nat.le_succ _, fun j q => if_neg (Nat.ne_of_lt q)⟩
  have perm : (own ++ (a, o) :: post).Perm ((a, o) :: own ++ post) := List.perm_middle
  k _ e ⟨m, ((a, o) :: own) ++ post, F, fun p hp => N' p (perm.mem_iff.mpr hp), l.mono e, ⟨(a, o) :: own, rfl, .cons ⟨Nat.lt_succ_self _, (if_pos rfl).symm, z.mono e, fun q => nomatch zi.symm.trans q⟩ (Ob.imp fun _ _ => ObjP.mono e)⟩, ((perm.map (·.1)).nodup_iff).mp nd⟩
    ⟨Nat.lt_succ_self _, by unfold ρ_new; rw [if_pos rfl]⟩
end
end Mine

-- D17
namespace Mine
open PySem PySem.W PySem.Calls PyProof.Rows PySem.SeqAt PySem.MeetsSeq

abbrev NoE : Value → Shared → Prop := fun _ _ => False
section
variable {prog : Program} {w : World} {A : Around} {s : Shared} {Rr : Result → Shared → Prop} {env : Env}
theorem wpAny_noRaise {α : Type} {M : Model} {m : Sem α} {k : Value → Sem Unit} {Q : α → Shared → Prop} {E : Value → Shared → Prop} (h : wpAny M A m Q NoE s) : wpAny M A (m.onRaise k) Q E s := wpAny_onRaise (wpAny_mono h (fun _ _ x => x) fun _ _ f => f.elim)
/-- what stands behind a turn's body -/
noncomputable def TurnR (K : Shared → Prop) (Rr : Result → Shared → Prop) (f : Flow) (s : Shared) : Prop := match f with
  | .next => K s
  | .cont => K s
  | .brk => Rr (.ok .next) s
  | .ret v => Rr (.ok (.ret v)) s
theorem codeAny_forTurn {x : Str} {px : Pos} {itv : Value} {body : List Stmt}
    (h : wpAny (model prog w) A (pyNext itv) (fun r s₁ => match r with
      | none => Rr (.ok .next) s₁
      | some v => wpAny (model prog w) A (storeName env x v) (fun _ s₂ => wpAny (model prog w) A (execs body env) (TurnR (codeAny (model prog w) A (.forLoop (.Name x px) itv body [] env) Rr) Rr) NoE s₂) NoE s₁) NoE s) :
    codeAny (model prog w) A (.forLoop (.Name x px) itv body [] env) Rr s := by
  refine codeAny_of_tree ?_
  show wpAny _ A ((forTurn (.Name x px) itv body [] env).onRaise (fun x => do noteFrame x env; theTreesLotGoes x)) _ _ s
  refine wpAny_noRaise ?_
  simp only [forTurn]
  refine wpAny_bind (wpAny_standAt (wpAny_bind (wpAny_onRaise (wpAny_mono h (fun r s₁ h₁ => ?_) fun _ _ h' => h'.elim))))
  cases r with
  | none => exact wpAny_pure (And.intro rfl (codeAny_block (wpAny_execs_nil h₁)))
  | some v =>
    refine wpAny_bind (wpAny_pure (wpAny_bind (wpAny_assign_Name (wpAny_mono h₁ (fun _ s₂ h₂ => wpAny_bind (wpAny_mono h₂ (fun f s₃ h₃ => ?_) fun _ _ h' => h')) fun _ _ h' => h'))))
    cases f with
    | next => exact wpAny_pure (And.intro rfl h₃)
    | cont => exact wpAny_pure (And.intro rfl h₃)
    | brk => exact wpAny_pure h₃
    | ret v => exact wpAny_pure h₃
end

section
variable {C : Cx} {c : Fm} {A : Around} {ρ : Nat → Addr} {σ σ' : St} {s : Shared} {N : Nat} {NT : List Str} {R : Rec} {n k : Nat} {v : AV} {pos : Pos} {fl : AFlow}

theorem local_kind {x : Str} (h : c.sc.names.lookup x = some .local) : c.env.kindOf x = some .local := h
theorem not_cls (O : c.Ok C A n) : (c.env.scope.kind == .class || (c.env.scope.kind == .module && c.env.locals != c.env.globals)) = false := by
  have h : c.env.scope.kind = .function := O.kind
  rw [h]; rfl
theorem store_sound (O : c.Ok C A n) {x : Str} {j : Nat} {cv : Value} (hx : enc x = some j) (hl : c.sc.names.lookup x = some .local) (hv : VR C.V ρ σ.next v cv) (S : SR C c ρ σ s.heap) : GivesU C c A (storeName c.env x cv) ρ σ (σ.setLoc j v) s := fun Q Er q => S.elim fun m news F N' l Ob nd =>
  wpAny_storeName_local (local_kind hl) F.ns (fun h' hn hs => q ρ h' _ Ext.refl ⟨_, news, F.set hn hs, N'.set hs, l.set hx hv, Ob, nd⟩) (not_cls O)

theorem noSet {it : Expr} (h : (!isSet it) = true) (env : Env) : ∀ x, foldedSetIterable it env x = pure x := by
  intro x; cases it <;> first | rfl | exact no h

/-- the source of a loop goes on, the iterator stands kept -/
theorem IterAt.chg {I : Addr} {oI : Obj} {h h₁ : Heap} (S' : SR C (c.at ((I, oI) :: c.X)) ρ σ h) (hs : Heap.SameBut I h h₁) {o : Obj} (ho : h₁.get? I = some o) : SR C (c.at ((I, o) :: c.X)) ρ σ h₁ := SR.chg (pre := []) S' hs.extBut ho
theorem flow_turn {K : Shared → Prop} {Rr : Result → Shared → Prop} {V : Nat → Int} {m : Nat} {p : AFlow × St} {f : Flow} {g : St → Option (AFlow × St)} (hf : FlowR V ρ m p.1 f) (e : after g p = some (fl, σ'))
    (h1 : g p.2 = some (fl, σ') → K s) (h2 : ∀ w cv, fl = .ret w → σ' = p.2 → f = .ret cv → VR V ρ m w cv → Rr (.ok (.ret cv)) s) : TurnR K Rr f s := by
  obtain ⟨a, σ₂⟩ := p
  cases a with
  | next => cases hf; exact h1 e
  | ret w =>
    obtain ⟨cv, rfl, hv⟩ := hf
    have e := so e
    exact h2 w cv (congrArg Prod.fst e).symm (congrArg Prod.snd e).symm rfl hv

theorem arr_end {its : List Value} {i : Nat} (h : its.length = i) : its.toArray[i]? = none := by rw [List.getElem?_toArray, List.getElem?_eq_none_iff]; exact Nat.le_of_eq h
/-- a for over a tuple -/
theorem forT_turns (H : Sound C N R n) (O : c.Ok C A n) (hk : k ≤ N) {x : Str} {px : Pos} {nx j : Nat} {b : List S} {body : List Stmt} (hx : enc x = some nx) (hl : c.sc.names.lookup x = some .local)
    (hb : bodyFit (fitS C.K c.sc k) b body = true) {I J : Addr} {Rr : Result → Shared → Prop} (r : Nat) : ∀ {i : Nat} {σ : St} {ρ : Nat → Addr} {s : Shared} {oI : Obj}, forT R nx b j r i σ = some (fl, σ') → j < σ.next → ρ j = J → s.heap.IsTupleIter I J i → SR C (c.at ((I, oI) :: c.X)) ρ σ s.heap →
    (∀ ρ' f h' tk, Ext ρ σ.next ρ' σ'.next → SR C c ρ' σ' h' → FlowR C.V ρ' σ'.next fl f → Rr (.ok f) { s with heap := h', toks := tk }) → codeAny (MM C) A (.forLoop (.Name x px) (.ref I) body [] c.env) Rr s := by
  induction r with
  | zero =>
    intro i σ ρ s oI e jlt hρ hit S' q
    refine tup_inv e fun us ej e => S'.elim fun m news F N' l Ob nd => Ob.tpl N' ej fun its m2 i2 r2 hlen => ?_
    have hi : us.length = i := of_decide_eq_true (gl e)
    cases so (gr e)
    rw [hρ] at i2
    exact codeAny_forTurn (wpAny_pyNext_tuple_end O.hd hit ⟨_, i2, rfl, _, rfl⟩ (arr_end (hlen.symm.trans hi)) fun h₁ he => q ρ .next h₁ s.toks Ext.refl (S'.gone he) rfl)
  | succ r ih =>
    intro i σ ρ s oI e jlt hρ hit S' q
    refine tup_inv e fun us ej e => ob_inv e fun u eu e => ob_inv e fun p eb e => S'.elim fun m news F N' l Ob nd => Ob.tpl N' ej fun its m2 i2 r2 hlen => ?_
    obtain ⟨y, ey, hy⟩ := r2.get eu
    rw [hρ] at i2
    refine codeAny_forTurn (wpAny_pyNext_tuple_item hit ⟨_, i2, rfl, _, rfl⟩ (x := y) (arr_get ey) fun h₁ hit₁ hs₁ => ?_)
    obtain ⟨oI', hoI', hr⟩ := hit₁
    refine store_sound (c := c.at ((I, oI') :: c.X)) (s := { s with heap := h₁ }) (O.at _) hx hl hy (IterAt.chg S' hs₁ hoI') _ _ fun ρ₂ h₂ t₂ x₂ S₂ => ?_
    refine H.B (c.at ((I, oI') :: c.X)) A b body (σ.setLoc nx u) p.2 p.1 ρ₂ { s with heap := h₂, toks := t₂ } k (O.at _) hk hb eb S₂ _ _ fun ρ₃ f h₃ t₃ x₃ S₃ f₃ => ?_
    refine flow_turn f₃ e (fun e => ?_) fun w cv h1 h2 h3 hv => ?_
    · exact ih (s := { s with heap := h₃, toks := t₃ }) e (Nat.lt_of_lt_of_le jlt (x₂.trans x₃).1) (((x₂.trans x₃).2 j jlt).trans hρ) ⟨oI', S₃.kept (p := (I, oI')) (.head _), hr⟩ S₃ fun ρ' f h' tk x' => q ρ' f h' tk ((x₂.trans x₃).trans x')
    · subst h1 h2
      exact q ρ₃ (.ret cv) h₃ t₃ (x₂.trans x₃) (S₃.sub (List.sublist_cons_self _ _)) ⟨cv, rfl, hv⟩
theorem forT_sound (H : Sound C N R n) (O : c.Ok C A n) (hk : k ≤ N) {x : Str} {px : Pos} {nx j : Nat} {b : List S} {body : List Stmt} {us : List AV} (hx : enc x = some nx) (hl : c.sc.names.lookup x = some .local)
    (hb : bodyFit (fitS C.K c.sc k) b body = true) (hj : σ.obj j = some (.tuple us)) (e : forT R nx b j us.length 0 σ = some (fl, σ')) (S : SR C c ρ σ s.heap) {Er : Value → Shared → Prop} {Rr : Result → Shared → Prop}
    (q : ∀ ρ' f h' tk, Ext ρ σ.next ρ' σ'.next → SR C c ρ' σ' h' → FlowR C.V ρ' σ'.next fl f → Rr (.ok f) { s with heap := h', toks := tk }) :
    wpAny (MM C) A (pyIter (.ref (ρ j))) (fun it s₂ => codeAny (MM C) A (.forLoop (.Name x px) it body [] c.env) Rr s₂) Er s := S.elim fun m news F N' l Ob nd => Ob.tpl N' hj fun its m1 i1 _ _ =>
  wpAny_pyIter_tuple ⟨_, i1, rfl, _, rfl⟩ (forT_turns (s := { s with heap := s.heap.push _ }) H O hk hx hl hb us.length e (Ob.get hj).1 rfl ⟨_, Heap.get?_push_size _ rfl, rfl, rfl⟩ (SR.keepNew (X := c.X) S _ rfl) q)
end
end Mine

-- D18
namespace Mine
open PySem PySem.W PySem.Calls PyProof.Rows PySem.SeqAt PySem.MeetsSeq

section
variable {prog : Program} {w : World} {A : Around} {s : Shared} {Rr : Result → Shared → Prop} {env : Env}
theorem codeAny_compTurn {elt iter : Expr} {x : Str} {px : Pos} {scope : Scope} {pos : Pos} {it acc : Value}
    (h : wpAny (model prog w) A (pyNext it) (fun r s₁ => match r with
      | none => Rr (.ok .next) s₁
      | some v => wpAny (model prog w) A (storeName env x v) (fun _ s₂ => wpAny (model prog w) A (eval elt env) (fun x' s₃ =>
          wpAny (model prog w) A (call (.builtin "list.append") [acc, x']) (fun _ s₄ => codeAny (model prog w) A (.compLoop (.ListComp elt [⟨.Name x px, iter, [], 0⟩] scope pos) 0 it acc env) Rr s₄) NoE s₃) NoE s₂) NoE s₁) NoE s) :
    codeAny (model prog w) A (.compLoop (.ListComp elt [⟨.Name x px, iter, [], 0⟩] scope pos) 0 it acc env) Rr s := by
  refine codeAny_of_tree ?_
  show wpAny _ A ((compTurn (.ListComp elt [⟨.Name x px, iter, [], 0⟩] scope pos) 0 it acc env).onRaise (fun x => do noteFrame x env; theTreesLotGoes x)) _ _ s
  refine wpAny_noRaise ?_
  rw [compTurn_list1]
  refine wpAny_bind (wpAny_standAt (wpAny_bind (wpAny_mono h (fun r s₁ h₁ => ?_) fun _ _ h' => h')))
  cases r with
  | none => exact wpAny_pure h₁
  | some v => exact wpAny_bind (wpAny_pure (wpAny_bind (wpAny_assign_Name (wpAny_mono h₁ (fun _ s₂ h₂ => wpAny_bind (wpAny_bind (wpAny_mono h₂ (fun x' s₃ h₃ => wpAny_bind (wpAny_mono h₃
      (fun _ s₄ h₄ => wpAny_pure (wpAny_pure (And.intro rfl h₄))) fun _ _ h' => h')) fun _ _ h' => h'))) fun _ _ h' => h'))))
end

section
variable {C : Cx} {c : Fm} {A : Around} {ρ : Nat → Addr} {σ σ' : St} {s : Shared} {N : Nat} {NT : List Str} {R : Rec} {n k : Nat} {v : AV} {pos : Pos}

/-- an iterator and what stands for its source -/
structure Iter (C : Cx) (c : Fm) (A : Around) (ρ : Nat → Addr) (σ : St) (I : Addr) (src : Nat → St → Option (Option AV)) (IT : Nat → Heap → Prop) : Prop where
  itAt : ∀ i h, IT i h → ∃ o, h.get? I = some o ∧ ∀ h' : Heap, h'.get? I = some o → IT i h'
  item : ∀ i σ₁ ρ₁ X u (s : Shared) (Q : Option Value → Shared → Prop) (Er : Value → Shared → Prop), IT i s.heap → SR C (c.at X) ρ₁ σ₁ s.heap → Ext ρ σ.next ρ₁ σ₁.next → src i σ₁ = some (some u) →
      (∀ y h' tk', VR C.V ρ₁ σ₁.next u y → IT (i + 1) h' → Heap.SameBut I s.heap h' → Q (some y) { s with heap := h', toks := tk' }) → wpAny (MM C) A (pyNext (.ref I)) Q Er s
  done : ∀ i σ₁ ρ₁ X (s : Shared) (Q : Option Value → Shared → Prop) (Er : Value → Shared → Prop), IT i s.heap → SR C (c.at X) ρ₁ σ₁ s.heap → Ext ρ σ.next ρ₁ σ₁.next → src i σ₁ = some none →
      (∀ h', Heap.ExtBut I s.heap h' → Q none { s with heap := h' }) → wpAny (MM C) A (pyNext (.ref I)) Q Er s
  self : ∀ (s : Shared) (Q : Value → Shared → Prop) (Er : Value → Shared → Prop), IT 0 s.heap → Q (.ref I) s → wpAny (MM C) A (pyIter (.ref I)) Q Er s
/-- what the element's expression gives -/
noncomputable def EltOk (C : Cx) (c : Fm) (A : Around) (el : Expr) (csc : Scope) (x : Str) (stepF : AV → St → Option (AV × St)) : Prop :=
  ∀ u σ₁ w σ₂, stepF u σ₁ = some (w, σ₂) → ∀ ρ₁ X (s : Shared) Cc m₂ y, SR C (c.at X) ρ₁ σ₁ s.heap → s.heap.Ns Cc m₂ → m₂ x = some y → VR C.V ρ₁ σ₁.next u y → Gives C (c.at X) A (eval el (compEnvC csc [] Cc c.env)) ρ₁ σ₁ σ₂ w s
structure CompSc (csc : Scope) : Prop where
  kind : csc.kind = .function
  loc : ∀ y ∈ csc.names, y.2 = .local ∧ csc.names.lookup y.1 = some .local

theorem comp_turns {el it : Expr} {x : Str} {px : Pos} {csc : Scope} {I Cc D : Addr} {src : Nat → St → Option (Option AV)} {stepF : AV → St → Option (AV × St)} {IT : Nat → Heap → Prop} {vs : List AV} {Rr : Result → Shared → Prop}
    (W : CompSc csc) (hx : csc.names.lookup x = some .local) (It : Iter C c A ρ σ I src IT) (elt : EltOk C c A el csc x stepF) (hne : I ≠ Cc) (r : Nat) : ∀ {i : Nat} {acc : List AV} {σ₁ : St} {ρ₁ : Nat → Addr} {s : Shared} {oI oC : Obj} {ys : Array Value} {kD : Nat} {m : Str → Option Value},
    goC src stepF r i acc σ₁ = some (vs, σ') → Ext ρ σ.next ρ₁ σ₁.next → IT i s.heap → s.heap.Ns Cc m → SR C (c.at ((I, oI) :: (Cc, oC) :: (D, PySem.W.listOf ys kD) :: c.X)) ρ₁ σ₁ s.heap → F2 (VR C.V ρ₁ σ₁.next) acc ys.toList → acc.length + r < 10000 →
    (∀ ρ' oC ys kD m h' tk, Ext ρ σ.next ρ' σ'.next → SR C (c.at ((Cc, oC) :: (D, PySem.W.listOf ys kD) :: c.X)) ρ' σ' h' → h'.Ns Cc m → F2 (VR C.V ρ' σ'.next) vs ys.toList → Rr (.ok .next) { s with heap := h', toks := tk }) →
    codeAny (MM C) A (.compLoop (.ListComp el [⟨.Name x px, it, [], 0⟩] csc pos) 0 (.ref I) (.ref D) (compEnvC csc [] Cc c.env)) Rr s := by
  induction r with
  | zero =>
    intro i acc σ₁ ρ₁ s oI oC ys kD m e ex hit hn S facc hlen q
    refine ob_inv e fun u es e => ?_
    have hu := opt_none (gl e)
    subst hu
    cases so (gr e)
    exact codeAny_compTurn (It.done i _ ρ₁ _ s _ _ hit S ex es fun h' he => q ρ₁ oC ys kD m h' s.toks ex (S.gone he) (hn.extBut he (Ne.symm hne)) facc)
  | succ r ih =>
    intro i acc σ₁ ρ₁ s oI oC ys kD m e ex hit hn S facc hlen q
    refine ob_inv e fun u' es e₁ => ob_inv e₁ fun u eu e₁ => bd_inv e₁ fun w σ₂ est e₂ => ?_
    subst eu
    refine codeAny_compTurn (It.item i σ₁ ρ₁ _ u s _ _ hit S ex es fun y h₂ tk₂ hy hit₂ hs₂ => ?_)
    obtain ⟨oI₂, hoI₂, tr₂⟩ := It.itAt _ _ hit₂
    have S₂ : SR C (c.at ((I, oI₂) :: (Cc, oC) :: (D, PySem.W.listOf ys kD) :: c.X)) ρ₁ σ₁ h₂ := SR.chg (pre := []) S hs₂.extBut hoI₂
    refine wpAny_storeName_local (lookup_relabel_local hx) (hn.sameBut hs₂ (Ne.symm hne)) (fun h₃ hn₃ hs₃ => ?_) (by simp [compEnvC, relabel, W.kind])
    obtain ⟨oC₃, es₃, ep₃, hCo₃, hCr₃⟩ := id hn₃
    have S₃ : SR C (c.at ((I, oI₂) :: (Cc, oC₃) :: (D, PySem.W.listOf ys kD) :: c.X)) ρ₁ σ₁ h₃ := SR.chg (pre := [(I, oI₂)]) S₂ hs₃.extBut hCo₃
    refine elt u σ₁ w σ₂ est ρ₁ _ { s with heap := h₃, toks := tk₂ + 1 } Cc _ y S₃ hn₃ (if_pos rfl) hy _ _ fun ρ₄ cv h₄ tk₄ x₄ S₄ v₄ => ?_
    have hl : acc.length = ys.size := facc.len
    refine append_at (S₄.kept (p := (D, PySem.W.listOf ys kD)) (.tail _ (.tail _ (.head _)))) (fun h₅ hs₅ ho₅ => ?_) (by rw [sizeLine_eq]; omega)
    have S₅ : SR C (c.at ((I, oI₂) :: (Cc, oC₃) :: (D, PySem.W.listOf (ys.push cv) (kD + 1)) :: c.X)) ρ₄ σ₂ h₅ := SR.chg (pre := [(I, oI₂), (Cc, oC₃)]) S₄ hs₅.extBut ho₅
    exact ih (s := { s with heap := h₅, toks := tk₄ }) e₂ (ex.trans x₄) (tr₂ h₅ (S₅.kept (p := (I, oI₂)) (.head _))) ⟨oC₃, es₃, ep₃, S₅.kept (p := (Cc, oC₃)) (.tail _ (.head _)), hCr₃⟩ S₅
      (by rw [Array.toList_push]; exact (VRs.mono x₄ facc).append (.cons v₄ .nil)) (by rw [List.length_append]; show acc.length + 1 + r < 10000; omega) q
/-- a comprehension's loop -/
theorem comp_run {el it : Expr} {x : Str} {px : Pos} {csc : Scope} {I : Addr} {oI : Obj} {src : Nat → St → Option (Option AV)} {stepF : AV → St → Option (AV × St)} {IT : Nat → Heap → Prop} {K : Nat} {vs : List AV}
    (W : CompSc csc) (hx : csc.names.lookup x = some .local) (It : Iter C c A ρ σ I src IT) (elt : EltOk C c A el csc x stepF)
    (hK : K < 10000) (e : goC src stepF K 0 [] σ = some (vs, σ')) (hit : IT 0 s.heap) (S : SR C (c.at ((I, oI) :: c.X)) ρ σ s.heap) {Er : Value → Shared → Prop} {RR : Value → Addr → Result → Shared → Prop}
    (q : ∀ ρ' D Cc oC ys kD m h' tk, Ext ρ σ.next ρ' σ'.next → SR C (c.at ((Cc, oC) :: (D, PySem.W.listOf ys kD) :: c.X)) ρ' σ' h' → h'.Ns Cc m → F2 (VR C.V ρ' σ'.next) vs ys.toList → RR (.ref D) Cc (.ok .next) { s with heap := h', toks := tk }) :
    wpAny (MM C) A (newList []) (fun acc s₃ => wpAny (MM C) A (newFunctionEnv csc c.env.globals [] [] c.env.qual none .none (some c.env)) (fun cenv s₄ =>
      codeAny (MM C) A (.compStart (.ListComp el [⟨.Name x px, it, [], 0⟩] csc pos) 0 (.ref I) acc { cenv with scope := relabel csc c.env }) (RR acc cenv.locals) s₄) Er s₃) Er s := by
  refine wpAny_newObj_type (wpAny_newFunctionEnv (fun y hy z => nomatch (W.loc y hy).1.symm.trans z) (fun _ hy => nomatch hy) (fun h₁ hns₁ hsb₁ => ?_) W.kind)
  dsimp only at hns₁ hsb₁ ⊢
  have S1 : SR C (c.at ((s.heap.objs.size, PySem.W.listOf #[] 0) :: (I, oI) :: c.X)) ρ σ (s.heap.push (PySem.W.listOf #[] 0)) := S.keepNew _ rfl
  generalize hD : s.heap.objs.size = D at S1 hns₁ hsb₁ ⊢
  have S2 := S1.keepNew ({ cls := .type "dict", data := .dict #[] }) rfl
  have hpush : (s.heap.push { cls := .type "list", dict := none, data := .seq ([] : List Value).toArray }) = s.heap.push (PySem.W.listOf #[] 0) := rfl
  rw [hpush] at hns₁ hsb₁ ⊢
  generalize hC : (s.heap.push (PySem.W.listOf #[] 0)).objs.size = Cc at S2 hns₁ hsb₁ ⊢
  have old : ∀ b o, s.heap.get? b = some o → h₁.get? b = some o := fun b o eb =>
    hsb₁.extBut b o (hC ▸ Nat.ne_of_lt (Nat.lt_trans (Heap.lt_size eb) (by rw [Heap.size_push]; exact Nat.lt_succ_self _))) (Heap.get?_push_of_some _ (Heap.get?_push_of_some _ eb))
  obtain ⟨oC, es, ep, hCo, hCr⟩ := id hns₁
  have S3 : SR C (c.at ((I, oI) :: (Cc, oC) :: (D, PySem.W.listOf #[] 0) :: c.X)) ρ σ h₁ :=
    (SR.chg (pre := []) S2 hsb₁.extBut hCo).perm (List.perm_middle (a := (I, oI)) (l₁ := [(Cc, oC), (D, PySem.W.listOf #[] 0)]) (l₂ := c.X))
  have hit1 : IT 0 h₁ := (It.itAt 0 _ hit).elim fun o z => z.2 h₁ (old _ _ z.1)
  have hne : I ≠ Cc := fun z => (List.nodup_cons.mp S3.nodup).1 (z ▸ .head _)
  have loop : codeAny (MM C) A (.compLoop (.ListComp el [⟨.Name x px, it, [], 0⟩] csc pos) 0 (.ref I) (.ref D) (compEnvC csc [] Cc c.env)) (RR (.ref D) Cc) { s with heap := h₁, toks := s.toks + 0 } :=
    comp_turns W hx It elt hne K e Ext.refl hit1 hns₁ S3 .nil (by rw [List.length_nil, Nat.zero_add]; exact hK) fun ρ' oC ys kD m h' tk => q ρ' D Cc oC ys kD m h' tk
  exact codeAny_compStart_list loop (It.self _ _ _ hit1 loop)
end
end Mine

-- D19
namespace Mine
open PySem PySem.W PySem.Calls PyProof.Rows PySem.SeqAt PySem.MeetsSeq

section
variable {C : Cx} {c : Fm} {A : Around} {ρ : Nat → Addr} {σ σ' : St} {s : Shared} {N : Nat} {NT : List Str} {R : Rec} {n k : Nat} {v : AV} {pos : Pos}

theorem compSc_of {csc : Scope} (h : compScope csc = true) : CompSc csc := ⟨of_decide_eq_true (al h), all_dec (ar h)⟩
theorem closure_nil {csc : Scope} {env : Env} (W : CompSc csc) : closureFor csc env = pure [] := by
  unfold closureFor
  have key : ∀ (l : List (Str × NameKind)) (cs : List (Str × Addr)), (∀ y ∈ l, y.2 = .local) →
      (forIn (m := Sem) l cs fun x s => match x with
        | (name, kind) => if (kind == NameKind.free) = true then (cellOf env name >>= fun d => pure (ForInStep.yield ((name, d) :: s))) else pure (ForInStep.yield s)) = pure cs := by
    intro l
    induction l with
    | nil => intro cs _; rfl
    | cons y l ih =>
      intro cs h
      have hy := h y (.head _)
      rw [List.forIn_cons]
      obtain ⟨y1, y2⟩ := y
      dsimp only at hy
      subst hy
      exact ih cs fun z hz => h z (.tail _ hz)
  have := key csc.names [] fun y hy => (W.loc y hy).1
  dsimp only
  exact congrArg (fun (t : Sem (List (Str × Addr))) => t >>= fun r => pure r) this

theorem range_small {m : Nat} (h : m < 10000) : Builtin.Range.small 0 (m : Int) 1 = true := by
  unfold Builtin.Range.small Builtin.Range.rangeFitsLong
  rw [rangeSize_nat]
  simp only [Bool.and_eq_true, decide_eq_true_eq]
  have h1 : (((m : Int) - 0).toNat : Int) = (m : Int) := by simp
  rw [h1]
  simp only [Bool.or_eq_true, beq_iff_eq, if_pos (show (1 : Int) > 0 by decide), Bool.and_eq_true, decide_eq_true_eq]
  omega

/-- range(k), and its iterator -/
theorem range_sound {m : Nat} {t : Tok} (S : SR C c ρ σ s.heap) (hm : m < 10000) {Q : Value → Shared → Prop} {Er : Value → Shared → Prop}
    (q : ∀ I h' tk, h'.get? I = some (itR 0 (m : Int)) → SR C (c.at ((I, itR 0 (m : Int)) :: c.X)) ρ σ h' → Q (.ref I) { s with heap := h', toks := tk }) :
    wpAny (MM C) A (call (.type "range") [.int (m : Int) t] []) (fun xv s₁ => wpAny (MM C) A (pyIter xv) Q Er s₁) Er s := S.elim fun ml news F N' l Ob nd =>
  range1_rows F N' fun h' tk t₁ u₁ v₁ hr F' N'' _ => wpAny_pyIter_range (s := { s with heap := h', toks := tk }) hr (range_small hm) (by
    have e : Builtin.Range.rangeSize 0 (m : Int) 1 = (m : Int) := by rw [rangeSize_nat]; simp
    rw [e]
    exact q _ _ _ (Heap.get?_push_size _ rfl) (SR.keepNew (X := c.X) ⟨ml, news, F', N'', l, Ob, nd⟩ _ rfl))

theorem range_call (H : Sound C N R n) (O : c.Ok C A n) (hk : k ≤ N) {a : X} {i : Expr} {rn : Str} {rp cp : Pos} {m : Nat} {σ₁ : St} (hr : rn = "range") (hl : c.sc.names.lookup rn = some .globalImplicit) (hg : nsIn C.K mainGlobals rn = some none)
    (h1 : fitE C.K c.sc k a i = true) (hs : notStar i = true) (e : R.E σ a = some (.int (.c (.ofNat m)), σ₁)) (hm : m < 10000) (S : SR C c ρ σ s.heap) {Q : Value → Shared → Prop} {Er : Value → Shared → Prop}
    (q : ∀ ρ' I h' tk, Ext ρ σ.next ρ' σ₁.next → h'.get? I = some (itR 0 (m : Int)) → SR C (c.at ((I, itR 0 (m : Int)) :: c.X)) ρ' σ₁ h' → Q (.ref I) { s with heap := h', toks := tk }) :
    wpAny (MM C) A (eval (.Call (.Name rn rp) [i] [] cp) c.env) (fun xv s₁ => wpAny (MM C) A (pyIter xv) Q Er s₁) Er s := S.elim fun ml news F N' l Ob nd => by
  subst hr
  refine Call_ (name_B F O.X (topRead_of O.T) hg (v := .type "range") (by kernel_rfl) (by decide +kernel) ?_ O.kind hl (by decide +kernel))
  refine callWith_sound (first := []) (xs := [a]) (vs := [.int (.c (.ofNat m))]) (σ' := σ₁) H O hk (fun h X => ⟨_, .inr (.inl rfl), .now⟩) (by show (fitE C.K c.sc k a i && notStar i && true) = true; rw [h1, hs]; rfl) (by show bd (R.E σ a) _ = _; rw [e]; rfl) S fun ρ₂ cvs g₂ t₂ x₂ S₂ v₂ => ?_
  cases v₂ with
  | cons hv hr =>
    cases hr
    obtain ⟨t, rfl⟩ := hv
    exact range_sound (s := { s with heap := g₂, toks := t₂ }) S₂ hm fun I h' tk hI S' => q ρ₂ I h' tk x₂ hI S'

/-- the range's iterator stands for the numbers -/
theorem range_iter (O : c.Ok C A n) {I : Addr} {m : Nat} : Iter C c A ρ σ I (srcR m) fun i h => IsRangeIter h I (i : Int) ((m : Int) - (i : Int)) 1 where
  itAt := fun i h hi => ⟨_, hi, fun h' e => e⟩
  item := fun i σ₁ ρ₁ X u s Q Er hit S₁ ex hsrc hq => by
    by_cases hlt : i < m
    · rw [srcR, if_pos hlt] at hsrc
      cases so (so hsrc)
      refine wpAny_pyNext_range_item hit (by omega) fun h₄ hit₄ hs₄ => hq _ _ _ ⟨_, rfl⟩ ?_ hs₄
      have e2 : (m : Int) - ((i + 1 : Nat) : Int) = (m : Int) - (i : Int) - 1 := by omega
      rw [e2]; exact hit₄
    · rw [srcR, if_neg hlt] at hsrc
      exact nso (so hsrc)
  done := fun i σ₁ ρ₁ X s Q Er hit S₁ ex hsrc hq => by
    by_cases hlt : i < m
    · rw [srcR, if_pos hlt] at hsrc
      exact nomatch so hsrc
    · exact wpAny_pyNext_range_end O.hd hit (by omega) fun h₄ he => hq h₄ he
  self := fun s Q Er hit hq => wpAny_pyIter_rangeiter hit hq
theorem newList_elt {csc : Scope} {x : Str} {lp : Pos} : EltOk C c A (.List [] lp) csc x stepR := fun u σ₁ w σ₂ est ρ₁ X s Cc m₂ y S₁ _ _ _ Q Er q => by
  cases est
  exact wpAny_List (spliced_none ⟨Nat.zero_le _, S₁.elim fun ml news F N' l Ob nd => SR.push0 F N' l Ob nd (ao := .list []) (o := PySem.W.listOf #[] 0) rfl ⟨[], 0, rfl, .nil⟩ fun ρ' => q ρ' _ _ s.toks⟩)
theorem nil_list {K : Frag} {csc : Scope} {elt : X} {el : Expr} (h : fitE K csc k elt el = true) (e : isNil elt = true) : ∃ lp, el = .List [] lp := by
  cases elt with
  | list xs =>
    cases isEmpty_eq e
    cases k with
    | zero => exact no h
    | succ k =>
      refine onL_inv h fun es p h => ?_
      cases es with
      | nil => exact ⟨p, rfl⟩
      | cons => exact no h
  | _ => exact no e
theorem e_compR (H : Sound C N R n) (O : c.Ok C A n) (hk : k ≤ N) {el i : Expr} {sx rn : Str} {sp rp cp : Pos} {csc : Scope} {elt a : X} {x : Nat} (hr : rn = "range") (hl : c.sc.names.lookup rn = some .globalImplicit) (hg : nsIn C.K mainGlobals rn = some none)
    (helt : fitE C.K csc k elt el = true) (h1 : fitE C.K c.sc k a i = true) (hs : notStar i = true) (hcs : compScope csc = true) (hx : csc.names.lookup sx = some .local)
    (e : evalA C.G R σ (.compR elt x a) = some (v, σ')) (S : SR C c ρ σ s.heap) : Gives C c A (eval (.ListComp el [⟨.Name sx sp, .Call (.Name rn rp) [i] [] cp, [], 0⟩] csc pos) c.env) ρ σ σ' v s := fun Q Er q => by
  have Wc := compSc_of hcs
  obtain ⟨lp, rfl⟩ := nil_list helt (gl e)
  refine bd_inv (gr e) fun va σ₁ e1 e => ?_
  cases va with
  | int ei => cases ei with
    | c z => cases z with
      | ofNat m =>
        have hm := of_decide_eq_true (gl e)
        refine ob_inv (gr e) fun p e2 e => ?_
        cases so e
        rw [eval_ListComp]
        refine wpAny_comprehension_free (use := none) rfl (fun x => rfl) (closure_nil Wc) Wc.kind (fun y hy hl => (Wc.loc y hy).2) ?_
        refine range_call H O hk hr hl hg h1 hs e1 hm S fun ρ₁ I h' tk x₁ hI S₁ => ?_
        refine comp_run (s := { s with heap := h', toks := tk }) Wc hx (range_iter O) newList_elt hm e2 (by rw [show (m : Int) - ((0 : Nat) : Int) = (m : Int) from Int.sub_zero _]; exact hI) S₁ fun ρ₄ D Cc oC ys kD m' h₄ tk₄ x₄ S₄ hn₄ hF => ⟨m', hn₄, fun h₅ hs₅ => ?_⟩
        exact SR.take (ao := .list p.1) (S₄.gone hs₅.extBut) ⟨ys.toList, kD, by simp, hF⟩ rfl fun ρ' y1 y2 y3 => q _ _ _ tk₄ ((x₁.trans x₄).trans y1) y2 y3
      | negSucc _ => exact nso e
    | _ => exact nso e
  | _ => exact nso e
end
end Mine

-- D20
namespace Mine
open PySem PySem.W PySem.Calls PyProof.Rows PySem.SeqAt PySem.MeetsSeq

section
variable {C : Cx} {c : Fm} {A : Around} {ρ : Nat → Addr} {σ σ' : St} {s : Shared} {N : Nat} {NT : List Str} {R : Rec} {n k : Nat} {v : AV} {pos : Pos}

theorem no_name {l : List (Str × NameKind)} {t : Str} (h : l.lookup t = none) : (l.any fun x => x.1 == t && (x.2 == NameKind.local || x.2 == NameKind.cell)) = false := by
  induction l with
  | nil => rfl
  | cons p l ih =>
    by_cases q : t = p.1
    · rw [List.lookup_cons, q, beq_self_eq_true] at h
      exact nomatch h
    · rw [List.lookup_cons, beq_false_of_ne q] at h
      rw [List.any_cons, beq_false_of_ne (Ne.symm q), ih h]
      rfl
theorem swaps_yes (O : c.Ok C A n) {el : Expr} {gens : List Comprehension} {csc : Scope} {t : Str} {tp cp : Pos} {ln : Nat} (hl : c.sc.names.lookup t = some .local) (hp : tp.line = cp.line) (hn : csc.names.lookup t = none) :
    swapsWith (.ListComp el gens csc cp) (some (.Name t tp)) ln c.env = pure true := by
  unfold swapsWith
  dsimp only
  have h1 : (c.env.blockKind == .function) = true := by
    have hk : c.env.scope.kind = .function := O.kind
    unfold Env.blockKind
    rw [hk]; rfl
  have h2 : (c.env.kindOf t == some .local) = true := by rw [local_kind hl]; rfl
  have h3 : (tp.line == (Expr.ListComp el gens csc cp).pos.line) = true := by
    show (tp.line == cp.line) = true
    rw [hp]; exact beq_self_eq_true _
  have h4 := no_name hn
  rw [h1, h2, h3]
  simp only [Bool.true_and]
  show pure (!(csc.names.any fun x => x.1 == t && (x.2 == NameKind.local || x.2 == NameKind.cell))) = _
  rw [h4]; rfl


theorem elt_sound (H : Sound C N R n) (G : C.Ok N NT) (O : c.Ok C A (n + 1)) {csc : Scope} {y nm : Str} {j : Nat} {yp ap pp : Pos} (W : CompSc csc) (hy : csc.names.lookup y = some .local) (hd : y ≠ "__debug__") (hj : enc nm = some j)
    (hl : ap.endLine = pp.line) : EltOk C c A (.Call (.Attribute (.Name y yp) nm ap) [] [] pp) csc y (stepM C.G R j) := fun u σ₁ w σ₂ est ρ₁ X s Cc m₂ cy S hn hm hu Q Er q => ob_inv est fun f em e =>
  have O' : (c.at X).Ok C A n := (O.at X).less (Nat.le_succ n)
  arm_meth (few := rfl) rfl hl (wpAny_Name (wpAny_loadName_local W.kind (lookup_relabel_local hy) hn hm fun pl => meth_fn G O' hj hu em S fun hkp =>
    callWith_of (P := C.K.In) rfl (keeps_K hkp) (evalArgs_nil3 ⟨O'.keeps S, H.C (c.at X) A (.fn f) [u] σ₁ σ₂ w ρ₁ s (.ref f) [cy] O' rfl (.cons hu .nil) e S _ _ q⟩)) (ne_debug hd))

@[elab_as_elim] theorem fit_elt {α : Type} {K : Frag} {csc : Scope} {elt : X} {r : α} {f : Nat → Nat → Option α} {el : Expr} {P : Expr → Prop} (h : fitE K csc k elt el = true) (e : onElt elt f = some r)
    (q : ∀ y j sy yp nm ap pp, f y j = some r → enc sy = some y → csc.names.lookup sy = some .local → sy ≠ "__debug__" → enc nm = some j → ap.endLine = pp.line → P (.Call (.Attribute (.Name sy yp) nm ap) [] [] pp)) : P el := by
  cases elt with
  | meth o j as =>
    cases isEmpty_eq (gl e)
    have e := gr e
    cases o with
    | loc y =>
      cases k with
      | zero => exact no h
      | succ k =>
        refine onC_inv h fun g es ks pp h => nil_inv (ar h) (onA_inv (al h) fun l nm ap h => ?_)
        have h5 := ar (al h)
        cases es with
        | cons => exact no h5
        | nil =>
          have h1 := al (al (al (al (al h))))
          cases k with
          | zero => exact no h1
          | succ k => exact onN_inv h1 fun sy yp h1 => q y j sy yp nm ap pp e (encIs_eq (al (al h1))) (of_decide_eq_true (ar h1)) (of_decide_eq_true (ar (al h1))) (encIs_eq (ar (al (al (al (al h)))))) (of_decide_eq_true (ar h))
    | _ => exact nso e
  | _ => exact nso e

/-- a list's iterator stands for its items -/
theorem list_iter (O : c.Ok C A n) {I : Addr} {jl : Nat} (jlt : jl < σ.next) : Iter C c A ρ σ I (srcL jl) fun i h => h.IsListIter I (ρ jl) i where
  itAt := fun i h hi => hi.elim fun o z => ⟨o, z.1, fun h' e' => ⟨o, e', z.2⟩⟩
  item := fun i σ₁ ρ₁ X u s Q Er hit S₁ ex hsrc hq => list_inv hsrc fun us ej e => S₁.elim fun m news F N' l Ob nd => Ob.lst N' ej fun its k3 m3 il r3 _ => by
    rw [ex.2 jl jlt] at il
    obtain ⟨y', ey, hy⟩ := r3.get (so e)
    exact wpAny_pyNext_list_item hit il (x := y') (arr_get ey) fun h₄ hit₄ hs₄ => hq y' h₄ s.toks hy hit₄ hs₄
  done := fun i σ₁ ρ₁ X s Q Er hit S₁ ex hsrc hq => list_inv hsrc fun us ej e => S₁.elim fun m news F N' l Ob nd => Ob.lst N' ej fun its k3 m3 il r3 hl => by
    rw [ex.2 jl jlt] at il
    have hu := List.getElem?_eq_none_iff.mp (so e)
    exact wpAny_pyNext_list_end O.hd hit il (by rw [List.getElem?_toArray, List.getElem?_eq_none_iff, ← hl]; exact hu) fun h₄ he => hq h₄ he
  self := fun s Q Er hit hq => wpAny_pyIter_listiter hit hq

/-- t = [x.nm() for x in it], behind the value of it -/
theorem setComp_core (H : Sound C N R n) (G : C.Ok N NT) (O : c.Ok C A (n + 1)) {i : Expr} {t sy nm : Str} {yp ap pp tp sp cp p9 : Pos} {csc : Scope} {tk j jl : Nat} {fl : AFlow} {Q : Flow → Shared → Prop} {Er : Value → Shared → Prop} (ht : enc t = some tk) (htl : c.sc.names.lookup t = some .local)
    (hs : (!isSet i) = true) (hcs : compScope csc = true) (hyl : csc.names.lookup sy = some .local) (hyd : sy ≠ "__debug__") (hnm : enc nm = some j) (hapl : ap.endLine = pp.line)
    (e : compL C.G R σ tk j jl = some (fl, σ')) (jlt : jl < σ.next) (S : SR C c ρ σ s.heap)
    (q : fl = .next → ∀ ρ' h' t₂, Ext ρ σ.next ρ' σ'.next → SR C c ρ' σ' h' → Q .next { s with heap := h', toks := t₂ }) :
    wpAny (MM C) A (comprehension (.ListComp (.Call (.Attribute (.Name sy yp) nm ap) [] [] pp) [⟨.Name sy sp, i, [], 0⟩] csc cp) csc c.env p9 (newList []) false (pure (.ref (ρ jl))) (some (assign (.Name t tp) c.env))) (fun _ s' => Q .next s') Er s := by
  have Wc := compSc_of hcs
  have O' := O.less (Nat.le_succ n)
  refine list_inv e fun us ej e => ob_inv (gr e) fun p e2 e' => ?_
  have hlen := of_decide_eq_true (gl e)
  cases so e'
  refine wpAny_comprehension_free (use := some (assign (.Name t tp) c.env)) (Q := fun _ s' => Q .next s') rfl (noSet hs c.env) (closure_nil Wc) Wc.kind (fun y hy hl => (Wc.loc y hy).2) (wpAny_pure (S.elim fun m news F N' l Ob nd => Ob.lst N' ej fun its k1 m1 il r1 _ => wpAny_pyIter_list il ?_))
  refine comp_run Wc hyl (list_iter O' jlt) (elt_sound H G O Wc hyl hyd hnm hapl) hlen e2 ⟨_, Heap.get?_push_size _ rfl, rfl, rfl⟩ (SR.keepNew (X := c.X) S _ rfl) fun ρ₄ D Cc oC ys kD m' h₄ tk₄ x₄ S₄ hn₄ hF => ?_
  show wpAny _ _ (assign (.Name t tp) c.env (.ref D)) _ _ _
  refine wpAny_assign_Name (SR.take (ao := .list p.1) (S₄.perm (Y := (D, PySem.W.listOf ys kD) :: (Cc, oC) :: c.X) (List.Perm.swap _ _ _)) ⟨ys.toList, kD, by simp, hF⟩ rfl fun ρ₅ y1 y2 y3 => ?_)
  refine store_sound (c := c.at ((Cc, oC) :: c.X)) (s := { s with heap := h₄, toks := tk₄ }) (O'.at _) ht htl y3 y2 _ _ fun ρ₆ h₅ t₅ x₅ S₅ => ?_
  obtain ⟨oC', es', ep', hC', hCr⟩ := id hn₄
  have hC₄ := S₄.kept (p := (Cc, oC)) (.head _)
  cases hC'.symm.trans hC₄
  exact ⟨m', ⟨_, es', ep', S₅.kept (p := (Cc, oC)) (.head _), hCr⟩, fun h₆ hs₆ => q rfl ρ₆ h₆ t₅ ((x₄.trans y1).trans x₅) (S₅.gone hs₆.extBut)⟩

theorem s_setComp (H : Sound C N R n) (G : C.Ok N NT) (O : c.Ok C A (n + 1)) (hk : k ≤ N) {el i : Expr} {t sx : Str} {tp sp cp p : Pos} {csc : Scope} {tk xk : Nat} {elt a : X} {fl : AFlow} (ht : enc t = some tk) (htl : c.sc.names.lookup t = some .local) (hp : tp.line = cp.line)
    (htn : csc.names.lookup t = none) (hxk : enc sx = some xk) (helt : fitE C.K csc k elt el = true) (h1 : fitE C.K c.sc k a i = true) (hs : (!isSet i) = true) (hcs : compScope csc = true) (hx : csc.names.lookup sx = some .local)
    (e : execA C.G R σ (.setComp tk elt xk a) = some (fl, σ')) (S : SR C c ρ σ s.heap) : GivesF C c A (exec (.Assign [.Name t tp] (.ListComp el [⟨.Name sx sp, i, [], 0⟩] csc cp) p) c.env) ρ σ σ' fl s := fun Q Er q => by
  refine fit_elt helt e fun y j sy yp nm ap pp e hsy hyl hyd hnm hapl => ?_
  have hyx : y = xk := of_decide_eq_true (gl e)
  subst hyx
  have hsx := enc_inj hsy hxk
  subst hsx
  refine bd_inv (gr e) fun va σ₁ e1 e => ?_
  rw [exec_Assign_Name_used _ _ _ _ (swaps_yes O htl hp htn)]
  refine wpAny_bind (wpAny_standAt (wpAny_bind ?_))
  show wpAny _ A (do let _ ← comprehension (.ListComp _ [⟨.Name sy sp, i, [], 0⟩] csc cp) csc c.env _ (newList []) false (eval i c.env) (some (assign (.Name t tp) c.env))) _ _ s
  refine wpAny_bind ?_
  show wpAny _ A (eval i c.env >>= fun x => comprehension (.ListComp _ [⟨.Name sy sp, i, [], 0⟩] csc cp) csc c.env _ (newList []) false (pure x) (some (assign (.Name t tp) c.env))) _ _ s
  refine wpAny_bind (H.E _ _ _ _ _ _ _ _ _ _ (O.less (Nat.le_succ n)) hk h1 e1 S _ _ fun ρ₁ cl g₁ t₁ x₁ S₁ v₁ => ?_)
  refine own_inv e v₁ fun jl _ jlt e => ?_
  refine wpAny_mono (setComp_core (s := { s with heap := g₁, toks := t₁ }) (Q := Q) H G O ht htl hs hcs hyl hyd hnm hapl e jlt S₁ fun hf ρ' h' t₂ x' S' => ?_) (fun _ s' hq => wpAny_pure (wpAny_pure hq)) fun _ _ z => z
  subst hf
  exact q ρ' .next h' t₂ (x₁.trans x') S' rfl
end
end Mine

-- D21
namespace Mine
open PySem PySem.W PySem.Calls PyProof.Rows PySem.SeqAt PySem.MeetsSeq

section
variable {C : Cx} {c : Fm} {A : Around} {ρ : Nat → Addr} {σ σ' : St} {s : Shared} {N : Nat} {NT : List Str} {R : Rec} {n k : Nat} {v : AV} {pos : Pos} {fl : AFlow}

theorem swaps_none {v : Expr} {ln : Nat} {env : Env} (h : (!isComp v) = true) : swapsWith v none ln env = pure false := by
  cases v <;> first | rfl | exact no h
theorem swaps_attr {v l : Expr} {s : Str} {p : Pos} {ln : Nat} {env : Env} : swapsWith v (some (.Attribute l s p)) ln env = pure false := by
  cases v <;> rfl
theorem swaps_comp {v u : Expr} {ln : Nat} {env : Env} (h : (!isComp v) = true) : swapsWith v (some u) ln env = pure false := by
  cases v <;> first | rfl | exact no h
theorem no_swapped {elts : List Expr} {k : Nat} {tp : Pos} {v : Expr} {env : Env} (h : isTup v = false) : swappedStores [.Tuple elts k tp] v env = pure none := by
  cases v <;> first | rfl | cases h

theorem or_inv {a b : Bool} {P : Prop} (h : (a || b) = true) (h1 : a = true → P) (h2 : b = true → P) : P := (Bool.or_eq_true_iff.mp h).elim h1 h2
theorem swaps_no {v u : Expr} {ln : Nat} {env : Env} (h : (!isComp v || !notAttr u) = true) : swapsWith v (some u) ln env = pure false :=
  or_inv h swaps_comp fun h => by cases u <;> first | exact swaps_attr | exact no h
/-- a target is stored alone -/
theorem target_plain {t : T} {u w : Expr} {G : Cfg} {K : Frag} {sc : Scope} {env : Env} (ht : fitT K sc k t u = true) (h : (!isTup u || !isTup w) = true) (e : assignA G R σ v t = some σ') : swappedStores [u] w env = pure none ∧ (assignEach [u] env).map (·.2) = [assign u env] := by
  cases t with
  | any => exact nso e
  | loc k => exact onN_inv ht fun _ _ _ => ⟨rfl, rfl⟩
  | attr a k => exact onA_inv ht fun _ _ _ _ => ⟨rfl, rfl⟩
  | item a b => exact onS_inv ht fun _ _ _ _ => ⟨rfl, rfl⟩
  | tup ks =>
    revert h
    exact onT_inv ht fun _ _ _ _ h => ⟨no_swapped (not_true h), rfl⟩

theorem Gives.intoU {t : Sem Unit} {σ₁ : St} {ρ₁ : Nat → Addr} (x : Ext ρ σ.next ρ₁ σ₁.next) {s₁ : Shared} (g : GivesU C c A t ρ₁ σ₁ σ' s₁) {Q : Unit → Shared → Prop} {Er : Value → Shared → Prop} {h : Heap} {tk : Tok} (e : s₁ = { s with heap := h, toks := tk })
    (q : ∀ ρ' h' tk, Ext ρ σ.next ρ' σ'.next → SR C c ρ' σ' h' → Q () { s with heap := h', toks := tk }) : wpAny (MM C) A t Q Er s₁ := by
  refine g Q Er fun ρ' h' tk' x' S' => ?_
  subst e
  exact q ρ' h' tk' (x.trans x') S'

theorem setItem_sound (O : c.Ok C A n) {o i u : AV} {co ci cu : Value} (ho : VR C.V ρ σ.next o co) (hi : VR C.V ρ σ.next i ci) (hu : VR C.V ρ σ.next u cu) (e : setItemA σ o i u = some σ') (S : SR C c ρ σ s.heap) :
    GivesU C c A (setItem co ci cu) ρ σ σ' s := by
  refine own_inv e ho fun j _ _ e => int_inv e hi fun x t e => onCst_inv e fun i e => ob_inv e fun ao ej e => ?_
  cases ao with
  | list vs =>
    refine onNat_inv e fun kk e => ?_
    have hk : kk < vs.length := of_decide_eq_true (al (gl e))
    have hz : vs.length < 10000 := of_decide_eq_true (ar (gl e))
    cases so (gr e)
    exact fun Q Er q => S.elim fun m news F N' l Ob nd => Ob.lst N' ej fun its k1 m1 il r1 hl =>
      ki_setAt (k := (kk : Int)) (N' _ m1).1 (by omega) (by omega) (by rw [List.size_toArray]; omega)
        (q ρ _ s.toks Ext.refl (S.change ej (Heap.SameBut.update ..) (PySem.IsL.update (N' _ m1).1 (·.setIfInBounds kk cu)) ⟨its.set kk cu, k1, by simp, r1.set hu⟩ (fun z => nomatch z)))
  | idict es =>
    have hz : es.length < 900 := of_decide_eq_true (gl e)
    cases so (gr e)
    refine fun Q Er q => S.elim fun m news F N' l Ob nd => Ob.idc N' ej fun o1 kvs m1 hd hD r1 => ?_
    refine wpAny_setItem_pairs (hsz := by rw [← r1.len, sizeLine_eq]; omega) (intKind_is _ _ _ _) hD fun h' hmm hs => ?_
    obtain ⟨o', ho', hd'⟩ := Heap.dictOf_iff.mp hmm
    exact q ρ h' _ Ext.refl (S.change ej hs ho' ⟨(Heap.get?_some_iff.mp ho').2, _, hd', idict_stored r1 hu _⟩ (fun _ => rfl))
  | _ => exact nso e

theorem setNames_len {ks : List Nat} : ∀ {vs : List AV} {σ σ' : St}, setNames ks vs σ = some σ' → ks.length = vs.length := by
  induction ks with
  | nil => intro vs σ σ' h; cases isEmpty_eq (gl h); rfl
  | cons k ks ih =>
    intro vs σ σ' h
    cases vs with
    | nil => exact nso h
    | cons v vs => exact congrArg Nat.succ (ih h)
/-- names are bound, one by one -/
theorem names_bind (O : c.Ok C A n) (act : Nat → (Value → Sem Unit) → Prop) (step : ∀ {k : Nat} {f : Value → Sem Unit} {v : AV} {cv : Value} {σ : St} {ρ : Nat → Addr} {s : Shared}, act k f → VR C.V ρ σ.next v cv → SR C c ρ σ s.heap → GivesU C c A (f cv) ρ σ (σ.setLoc k v) s)
    {ks : List Nat} {fs : List (Value → Sem Unit)} (ha : F2 act ks fs) : ∀ {vs : List AV} {cvs : List Value} {σ σ' : St} {ρ : Nat → Addr} {s : Shared}, F2 (VR C.V ρ σ.next) vs cvs → setNames ks vs σ = some σ' → SR C c ρ σ s.heap →
    GivesU C c A (assignInOrder fs cvs) ρ σ σ' s := by
  induction ha with
  | nil =>
    intro vs cvs σ σ' ρ s hv e S
    cases isEmpty_eq (gl e)
    cases so (gr e)
    cases hv
    exact fun Q Er q => assignInOrder_nil (q ρ s.heap s.toks Ext.refl S)
  | cons a _ ih =>
    intro vs cvs σ σ' ρ s hv e S
    cases hv with
    | nil => exact nso e
    | cons hv hvs => exact fun Q Er q => assignInOrder_cons (step a hv S _ _ fun ρ₁ h₁ t₁ x₁ S₁ => Gives.intoU (σ := σ) x₁ (ih (s := { s with heap := h₁, toks := t₁ }) (VRs.mono x₁ hvs) e S₁) rfl q)
theorem names_assign (O : c.Ok C A n) {ks : List Nat} : ∀ {es : List Expr}, namesFit c.sc ks es = true → F2 (fun k f => ∃ x p, enc x = some k ∧ c.sc.names.lookup x = some .local ∧ f = assign (.Name x p) c.env) ks ((assignEach es c.env).map (·.2)) ∧ (assignEach es c.env).length = es.length ∧ (assignEach es c.env).findIdx? (·.1) = none := by
  induction ks with
  | nil =>
    intro es h
    cases es with
    | nil => exact ⟨.nil, rfl, rfl⟩
    | cons => exact no h
  | cons k ks ih =>
    intro es h
    cases es with
    | nil => exact no h
    | cons e es =>
      obtain ⟨a, b, d⟩ := ih (ar h)
      refine onN_inv (P := fun e => F2 (fun k f => ∃ x p, enc x = some k ∧ c.sc.names.lookup x = some .local ∧ f = assign (.Name x p) c.env) (k :: ks) ((assignEach (e :: es) c.env).map (·.2)) ∧ (assignEach (e :: es) c.env).length = (e :: es).length ∧ (assignEach (e :: es) c.env).findIdx? (·.1) = none) (al h) fun x p h => ?_
      refine ⟨.cons ⟨x, p, encIs_eq (al h), of_decide_eq_true (ar h), rfl⟩ a, congrArg Nat.succ b, ?_⟩
      show List.findIdx? _ ((false, _) :: assignEach _ c.env) = none
      rw [List.findIdx?_cons, d]
      rfl

theorem assign_sound (H : Sound C N R n) (G : C.Ok N NT) (O : c.Ok C A n) (hk : k ≤ N) {t : T} {u : Expr} {cv : Value} (ht : fitT C.K c.sc k t u = true) (hv : VR C.V ρ σ.next v cv) (e : assignA C.G R σ v t = some σ') (S : SR C c ρ σ s.heap) :
    GivesU C c A (assign u c.env cv) ρ σ σ' s := by
  cases t with
  | any => exact nso e
  | loc kk =>
    refine onN_inv ht fun sx sp ht => ?_
    cases so e
    exact fun Q Er q => wpAny_assign_Name (store_sound O (encIs_eq (al ht)) (of_decide_eq_true (ar ht)) hv S _ _ q)
  | attr a kk =>
    refine onA_inv ht fun l nm p ht Q Er q => bd_inv e fun ov σ₁ e1 e => ?_
    show wpAny _ A (do
      let ov ← holding [cv] (eval l c.env)
      standAt p.atName
      holding [cv, ov] (setAttr ov nm cv)
      release [cv, ov] []) Q Er s
    refine wpAny_bind (wpAny_holding (H.E _ _ _ _ _ _ _ _ _ _ O hk (al ht) e1 S _ _ fun ρ₁ ca g₁ t₁ x₁ S₁ v₁ => wpAny_bind (wpAny_standAt (wpAny_bind (wpAny_holding ?_)))))
    exact Gives.intoU (σ := σ) x₁ (setAttr_sound G O (encIs_eq (ar ht)) v₁ (hv.mono x₁) e S₁) rfl fun ρ' h' tk x' S' => wpAny_release (q ρ' h' tk x' S')
  | item a b =>
    refine onS_inv ht fun l r p ht Q Er q => bd_inv e fun ov σ₁ e1 e => bd_inv e fun iv σ₂ e2 e => ?_
    show wpAny _ A (do
      let ov ← holding [cv] (eval l c.env)
      let iv ← holding [cv, ov] (eval r c.env)
      standAt p
      holding [cv, ov, iv] (setItem ov iv cv)
      release (match (generalizing := false) r with | .Slice _ _ none _ => [iv, cv, ov] | _ => [cv, ov, iv]) []) Q Er s
    refine wpAny_bind (wpAny_holding (H.E _ _ _ _ _ _ _ _ _ _ O hk (al (al ht)) e1 S _ _ fun ρ₁ ca g₁ t₁ x₁ S₁ v₁ => ?_))
    refine wpAny_bind (wpAny_holding (H.E _ _ _ _ _ _ _ _ _ _ O hk (ar (al ht)) e2 S₁ _ _ fun ρ₂ cb g₂ t₂ x₂ S₂ v₂ => wpAny_bind (wpAny_standAt (wpAny_bind (wpAny_holding ?_)))))
    exact Gives.intoU (σ := σ) (x₁.trans x₂) (setItem_sound O (v₁.mono x₂) v₂ (hv.mono (x₁.trans x₂)) e S₂) rfl fun ρ' h' tk x' S' => wpAny_release (q ρ' h' tk x' S')
  | tup ks =>
    refine onT_inv ht fun es kk p ht => own_inv e hv fun j _ _ e => tup_inv e fun vs ej e Q Er q => S.elim fun m news F N' l Ob nd => Ob.tpl N' ej fun its m1 i1 r1 hl => ?_
    obtain ⟨a1, a2, a3⟩ := names_assign O ht
    have h1 := setNames_len e
    have h2 := a1.len
    rw [List.length_map] at h2
    refine unpackN_ F N' ⟨_, i1, rfl, _, rfl⟩ O.hd (h2.symm.trans (h1.trans hl)) a3 fun h' F' N'' => ?_
    exact names_bind (s := { s with heap := h' }) O _ (fun ⟨x, p, hx, hl, hf⟩ hv S Q Er q => by subst hf; exact wpAny_assign_Name (store_sound O hx hl hv S _ _ q)) a1 r1 e ⟨m, news, F', N'', l, Ob, nd⟩ _ _ q
end
end Mine

-- D22
namespace Mine
open PySem PySem.W PySem.Calls PyProof.Rows PySem.SeqAt PySem.MeetsSeq

section
variable {C : Cx} {c : Fm} {A : Around} {ρ : Nat → Addr} {σ σ' : St} {s : Shared} {N : Nat} {NT : List Str} {R : Rec} {n k : Nat} {v : AV} {pos : Pos} {fl : AFlow}

theorem const_fits {c : Const} {d : Const} {P : Const → Prop} (h : decide (c = d) = true) (k : P d) : P c := (of_decide_eq_true h).symm ▸ k
theorem stepE (H : Sound C N R n) (G : C.Ok N NT) : SoundE C N (fun σ e => evalA C.G R σ e) (n + 1) := by
  intro c A x e σ σ' v ρ s k O hk hf he S
  have O' := O.less (Nat.le_succ n)
  cases k with
  | zero => exact no hf
  | succ k =>
    have hk' : k ≤ N := Nat.le_of_succ_le hk
    cases x with
    | any => exact nso he
    | none =>
      refine onK_inv hf fun c i p hf => ?_
      cases of_decide_eq_true hf
      cases so he
      exact const_none S
    | bool b =>
      refine onK_inv hf fun c i p hf => ?_
      cases of_decide_eq_true hf
      cases so he
      exact const_bool S
    | int i =>
      refine onK_inv hf fun c i p hf => ?_
      cases of_decide_eq_true hf
      cases so he
      exact const_int S
    | str k =>
      refine onK_inv hf fun c i p hf => kStr_inv hf fun s hf => ?_
      cases so he
      exact const_str (encIs_eq hf) S
    | bytes b =>
      refine onK_inv hf fun c i p hf => kBy_inv hf fun a hf => ?_
      cases so he
      cases of_decide_eq_true hf
      exact const_bytes S
    | loc kk =>
      refine onN_inv hf fun sx sp hf => ob_inv he fun u eu e => ?_
      cases so e
      exact name_loc O' (encIs_eq (al (al hf))) (of_decide_eq_true (ar (al hf))) (of_decide_eq_true (ar hf)) eu S
    | glob v =>
      refine onN_inv hf fun sx sp hf => ?_
      cases so he
      exact name_glob O' (of_decide_eq_true (al (al hf))) (of_decide_eq_true (ar (al hf))) (ar hf) S
    | bin op a b =>
      refine onB_inv hf fun l o r p hf => ?_
      cases of_decide_eq_true (al (al hf))
      exact e_bin H O' hk' (ar (al hf)) (ar hf) he S
    | not a =>
      refine onU_inv hf fun o l p hf => ?_
      cases of_decide_eq_true (al hf)
      exact e_not H O' hk' (ar hf) he S
    | neg a =>
      refine onU_inv hf fun o l p hf => ?_
      cases of_decide_eq_true (al hf)
      exact e_neg H O' hk' (ar hf) he S
    | and a b =>
      refine onO_inv hf fun o l p hf => ?_
      cases of_decide_eq_true (al hf)
      exact two_inv (ar hf) fun l r hf => e_and H O' hk' (al hf) (ar hf) he S
    | and3 a b c =>
      refine onO_inv hf fun o l p hf => ?_
      cases of_decide_eq_true (al hf)
      exact three_inv (ar hf) fun l m r hf => e_and3 H O' hk' (al (al hf)) (ar (al hf)) (ar hf) he S
    | or a b =>
      refine onO_inv hf fun o l p hf => ?_
      cases of_decide_eq_true (al hf)
      exact two_inv (ar hf) fun l r hf => e_or H O' hk' (al hf) (ar hf) he S
    | ite t a b => exact onI_inv hf fun u l r p hf => e_ite H O' hk' (al (al (al hf))) (ar (al (al hf))) (ar (al hf)) (ar hf) he S
    | cmp op a b =>
      refine onM_inv hf fun l os es p hf => one_inv hf fun o hf => one_inv hf fun r hf => ?_
      cases of_decide_eq_true (al (al (al hf)))
      exact e_cmp H G O' hk' (ar (al (al hf))) (ar (al hf)) (ar hf) he S
    | cmp2 op op' a b d =>
      refine onM_inv hf fun l os es p hf => two_inv hf fun o o' hf => two_inv hf fun m r hf => ?_
      have h := al (al hf)
      cases of_decide_eq_true (al (al (al (al h))))
      cases of_decide_eq_true (ar (al (al (al h))))
      exact e_cmp2 H G O' hk' (ar (al (al h))) (ar (al h)) (ar h) (ar hf) he S
    | attr a k => exact onA_inv hf fun l s p hf => e_attr H G O hk' (al (al hf)) (encIs_eq (ar (al hf))) (ar hf) he S
    | sub a b => exact onS_inv hf fun l r p hf => e_sub H G O' hk' (al (al hf)) (ar (al hf)) (ar hf) he S
    | sliceFrom a b =>
      refine onS_inv hf fun l r p hf => onSl_inv hf fun lo hi st q hf => ?_
      exact nn_inv (ar hf) (nn_inv (ar (al hf)) (sm_inv (al (al hf)) fun r hf => e_sliceFrom H O' hk' (al hf) (ar hf) he S))
    | call f args =>
      refine onC_inv hf fun g es ks p hf => nil_inv (ar hf) ?_
      exact e_call H O' hk' (al (al (al hf))) (ar (al (al hf))) (ar (al hf)) he S
    | meth a k args =>
      refine onC_inv hf fun g es ks p hf => nil_inv (ar hf) (onA_inv (al hf) fun l s q hf => ?_)
      have h := al (al hf)
      exact e_meth H G O hk' (al (al (al h))) (encIs_eq (ar (al (al h)))) (ar (al h)) (of_decide_eq_true (ar h)) (ar (al hf)) (of_decide_eq_true (ar hf)) he S
    | list xs => exact onL_inv hf fun es p hf => e_list H O' hk' hf he S
    | tup xs => exact onT_inv hf fun es k p hf => e_tup H O' hk' hf he S
    | dict0 => exact onD_inv hf fun ks vs p hf => nil_inv (al hf) (nil_inv (ar hf) (e_dict0 O' he S))
    | compR elt x a =>
      refine onG_inv hf fun el gs csc p hf => gen1_inv hf fun sx sp i hf => onC_inv hf fun g es ks cp hf => nil_inv (ar hf) (onN_inv (al hf) fun rn rp hf => one_inv hf fun i hf => ?_)
      have h := al (al (al (al hf)))
      exact e_compR H O' hk' (of_decide_eq_true (al (al (al (al h))))) (of_decide_eq_true (ar (al (al (al h))))) (of_decide_eq_true (ar (al (al h)))) (ar h) (ar (al (al (al hf)))) (ar (al (al hf))) (ar (al hf)) (of_decide_eq_true (ar hf)) he S
end
end Mine

-- D23
namespace Mine
open PySem PySem.W PySem.Calls PyProof.Rows PySem.SeqAt PySem.MeetsSeq

section
variable {C : Cx} {c : Fm} {A : Around} {ρ : Nat → Addr} {σ σ' : St} {s : Shared} {N : Nat} {NT : List Str} {R : Rec} {n k : Nat} {v : AV} {pos : Pos} {fl : AFlow}

noncomputable def Plain (e : Expr) : Prop := ∀ env, isTrue e env (eval e env) = (do let v ← eval e env; standAt e.pos; holding [v] (truthy v))
theorem truth_default {e : Expr} {b : Bool} (hd : Plain e) (g : Gives C c A (eval e c.env) ρ σ σ' (.bool b) s) :
    GivesT C c A (PySem.isTrue e c.env (eval e c.env)) ρ σ σ' b s := by
  intro Q Er q
  rw [hd]
  refine wpAny_bind (g _ _ fun ρ' cv h' tk x' S' v' => wpAny_bind (wpAny_standAt (wpAny_holding ?_)))
  cases v'
  exact wpAny_truthy_bool (q ρ' h' tk x' S')

theorem GivesT.done {t : Sem Bool} {b : Bool} {ρ₁ : Nat → Addr} {σ₁ : St} (x : Ext ρ σ.next ρ₁ σ₁.next) {s₁ : Shared} (g : GivesT C c A t ρ₁ σ₁ σ' b s₁) {Q : Bool → Shared → Prop} {Er : Value → Shared → Prop} {h : Heap} {tk : Tok} (e : s₁ = { s with heap := h, toks := tk })
    (q : ∀ ρ' h' tk, Ext ρ σ.next ρ' σ'.next → SR C c ρ' σ' h' → Q b { s with heap := h', toks := tk }) : wpAny (MM C) A t Q Er s₁ := by
  refine g Q Er fun ρ' h' tk' x' S' => ?_
  subst e
  exact q ρ' h' tk' (x.trans x') S'
theorem tr_inv {β : Type} {r : β} {x : Option (AV × St)} {f : Bool → St → Option β} {P : Prop} (h : bd x (fun v σ => onBool v fun b => f b σ) = some r) (k : ∀ b σ, x = some (.bool b, σ) → f b σ = some r → P) : P :=
  bd_inv h fun v σ e h => by cases v <;> first | exact k _ _ e h | exact nso h

/-- what a word's short way gives, where only the truth is asked -/
noncomputable def andT (t : Sem Bool) (b : Bool) : Sem Bool := match BoolOp.And, b with
  | .And, false => pure false
  | .Or, true => pure true
  | _, _ => t
noncomputable def orT (t : Sem Bool) (b : Bool) : Sem Bool := match BoolOp.Or, b with
  | .And, false => pure false
  | .Or, true => pure true
  | _, _ => t
theorem t_and (H : Sound C N R n) (O : c.Ok C A n) (hk : k ≤ N) {x : X} {l : Expr} {b : Bool} {t : Sem Bool} {f : St → Option (AV × St)} (h1 : fitE C.K c.sc k x l = true) (ht : okT x = true)
    (e : bd (R.E σ x) (fun v σ => onBool v fun b => cond b (f σ) (some (.bool false, σ))) = some (.bool b, σ')) (S : SR C c ρ σ s.heap)
    (g : ∀ {σ₁ : St} {ρ₁ : Nat → Addr} {s₁ : Shared}, f σ₁ = some (.bool b, σ') → SR C c ρ₁ σ₁ s₁.heap → GivesT C c A t ρ₁ σ₁ σ' b s₁) :
    GivesT C c A (do andT t (← PySem.isTrue l c.env (eval l c.env))) ρ σ σ' b s := fun Q Er q => tr_inv e fun w σ₁ e1 e => wpAny_bind (H.T _ _ _ _ _ _ _ _ _ _ O hk h1 ht e1 S _ _ fun ρ₁ g₁ t₁ x₁ S₁ => by
    cases w with
    | true => exact GivesT.done (σ := σ) x₁ (g e S₁) rfl q
    | false =>
      cases so e
      exact wpAny_pure (q ρ₁ g₁ t₁ x₁ S₁))
theorem t_last (H : Sound C N R n) (O : c.Ok C A n) (hk : k ≤ N) {x : X} {l : Expr} {b : Bool} (h1 : fitE C.K c.sc k x l = true) (ht : okT x = true) (e : R.E σ x = some (.bool b, σ')) (S : SR C c ρ σ s.heap) {t : Bool → Sem Bool} (hr : ∀ b, t b = pure b) :
    GivesT C c A (do t (← PySem.isTrue l c.env (eval l c.env))) ρ σ σ' b s := fun Q Er q => wpAny_bind (H.T _ _ _ _ _ _ _ _ _ _ O hk h1 ht e S _ _ fun ρ₁ g₁ t₁ x₁ S₁ => by
    rw [hr]
    exact wpAny_pure (q ρ₁ g₁ t₁ x₁ S₁))

theorem stepT (H : Sound C N R n) (G : C.Ok N NT) : SoundT C N (fun σ e => evalA C.G R σ e) (n + 1) := by
  intro c A x e σ σ' b ρ s k O hk hf ht he S
  have O' := O.less (Nat.le_succ n)
  have HE := stepE H G c A x e σ σ' (.bool b) ρ s k O hk hf he S
  cases k with
  | zero => exact no hf
  | succ k =>
    have hk' : k ≤ N := Nat.le_of_succ_le hk
    cases x with
    | any => exact nso he
    | none => exact nomatch so he
    | bool b => exact truth_default (onK_inv (P := Plain) hf fun _ _ _ _ _ => rfl) HE
    | int i => exact nomatch so he
    | str k => exact nomatch so he
    | bytes b => exact nomatch so he
    | loc kk => exact truth_default (onN_inv (P := Plain) hf fun _ _ _ _ => rfl) HE
    | glob v => exact truth_default (onN_inv (P := Plain) hf fun _ _ _ _ => rfl) HE
    | bin op a b => exact truth_default (onB_inv (P := Plain) hf fun _ _ _ _ _ _ => rfl) HE
    | not a =>
      clear HE
      refine onU_inv hf fun o l p hf Q Er q => tr_inv he fun w σ₁ e1 e => ?_
      cases of_decide_eq_true (al hf)
      cases so e
      show wpAny _ _ (do return !(← PySem.isTrue l c.env (eval l c.env))) Q Er s
      exact wpAny_bind (H.T _ _ _ _ _ _ _ _ _ _ O' hk' (ar hf) ht e1 S _ _ fun ρ₁ g₁ t₁ x₁ S₁ => wpAny_pure (q ρ₁ g₁ t₁ x₁ S₁))
    | neg a => exact truth_default (onU_inv (P := Plain) hf fun o l p hf => by cases of_decide_eq_true (al hf); exact fun _ => rfl) HE
    | and a b' =>
      clear HE
      refine onO_inv hf fun o l p hf => ?_
      cases of_decide_eq_true (al hf)
      refine two_inv (ar hf) fun l r hf => ?_
      show GivesT C c A (do andT (do andT (pure true) (← PySem.isTrue r c.env (eval r c.env))) (← PySem.isTrue l c.env (eval l c.env))) ρ σ σ' b s
      exact t_and H O' hk' (al hf) (al ht) he S fun e S₁ => t_last H O' hk' (ar hf) (ar ht) e S₁ fun b => by cases b <;> rfl
    | and3 a b' d =>
      clear HE
      refine onO_inv hf fun o l p hf => ?_
      cases of_decide_eq_true (al hf)
      refine three_inv (ar hf) fun l m r hf => ?_
      show GivesT C c A (do andT (do andT (do andT (pure true) (← PySem.isTrue r c.env (eval r c.env))) (← PySem.isTrue m c.env (eval m c.env))) (← PySem.isTrue l c.env (eval l c.env))) ρ σ σ' b s
      exact t_and H O' hk' (al (al hf)) (al (al ht)) he S fun e S₁ => t_and H O' hk' (ar (al hf)) (ar (al ht)) e S₁ fun e S₂ => t_last H O' hk' (ar hf) (ar ht) e S₂ fun b => by cases b <;> rfl
    | or a b' =>
      clear HE
      refine onO_inv hf fun o l p hf => ?_
      cases of_decide_eq_true (al hf)
      refine two_inv (ar hf) fun l r hf Q Er q => tr_inv he fun w σ₁ e1 e => ?_
      show wpAny _ _ (do orT (do orT (pure false) (← PySem.isTrue r c.env (eval r c.env))) (← PySem.isTrue l c.env (eval l c.env))) Q Er s
      refine wpAny_bind (H.T _ _ _ _ _ _ _ _ _ _ O' hk' (al hf) (al ht) e1 S _ _ fun ρ₁ g₁ t₁ x₁ S₁ => ?_)
      cases w with
      | true =>
        cases so e
        exact wpAny_pure (q ρ₁ g₁ t₁ x₁ S₁)
      | false => exact GivesT.done (σ := σ) x₁ (t_last H O' hk' (ar hf) (ar ht) e S₁ fun b => by cases b <;> rfl) rfl q
    | ite t a b' =>
      clear HE
      refine onI_inv hf fun u l r p hf Q Er q => tr_inv he fun w σ₁ e1 e => ?_
      show wpAny _ _ (do if ← PySem.isTrue u c.env (eval u c.env) then PySem.isTrue l c.env (eval l c.env) else PySem.isTrue r c.env (eval r c.env)) Q Er s
      refine wpAny_bind (H.T _ _ _ _ _ _ _ _ _ _ O' hk' (ar (al (al hf))) (al (al ht)) e1 S _ _ fun ρ₁ g₁ t₁ x₁ S₁ => ?_)
      cases w with
      | true => exact GivesT.done (σ := σ) x₁ (H.T _ _ _ _ _ _ _ _ _ _ O' hk' (ar (al hf)) (ar (al ht)) e S₁) rfl q
      | false => exact GivesT.done (σ := σ) x₁ (H.T _ _ _ _ _ _ _ _ _ _ O' hk' (ar hf) (ar ht) e S₁) rfl q
    | cmp op a b' =>
      clear HE
      refine onM_inv hf fun l os es p hf => one_inv hf fun o hf => one_inv hf fun r hf Q Er q => bd_inv he fun av σ₁ e1 e => bd_inv e fun bv σ₂ e2 e => ob_inv e fun cr e3 e => ?_
      cases of_decide_eq_true (al (al (al hf)))
      cases so e
      refine wpAny_isTrue_Compare1 (H.E _ _ _ _ _ _ _ _ _ _ O' hk' (ar (al (al hf))) e1 S _ _ fun ρ₁ ca g₁ t₁ x₁ S₁ v₁ => H.E _ _ _ _ _ _ _ _ _ _ O' hk' (ar (al hf)) e2 S₁ _ _ fun ρ₂ cb g₂ t₂ x₂ S₂ v₂ => ?_) (behind_of (ar hf))
      refine Gives.done (σ := σ) (x₁.trans x₂) (cmp_sound G O' (v₁.mono x₂) v₂ e3 S₂) rfl fun ρ₃ cv h₃ t₃ x₃ S₃ v₃ => ?_
      cases v₃
      exact wpAny_truthy_bool (q ρ₃ h₃ t₃ x₃ S₃)
    | cmp2 op op' a b d => exact no ht
    | attr a k => exact truth_default (onA_inv (P := Plain) hf fun _ _ _ _ _ => rfl) HE
    | sub a b => exact truth_default (onS_inv (P := Plain) hf fun _ _ _ _ _ => rfl) HE
    | sliceFrom a b => exact truth_default (onS_inv (P := Plain) hf fun _ _ _ _ _ => rfl) HE
    | call f args => exact truth_default (onC_inv (P := Plain) hf fun _ _ _ _ _ _ => rfl) HE
    | meth a k args => exact truth_default (onC_inv (P := Plain) hf fun _ _ _ _ _ _ => rfl) HE
    | list xs => exact truth_default (onL_inv (P := Plain) hf fun _ _ _ _ => rfl) HE
    | tup xs => exact truth_default (onT_inv (P := Plain) hf fun _ _ _ _ _ => rfl) HE
    | dict0 => exact truth_default (onD_inv (P := Plain) hf fun _ _ _ _ _ => rfl) HE
    | compR elt x a => exact truth_default (onG_inv (P := Plain) hf fun _ _ _ _ _ _ => rfl) HE
end
end Mine

-- D24
namespace Mine
open PySem PySem.W PySem.Calls PyProof.Rows PySem.SeqAt PySem.MeetsSeq

section
variable {C : Cx} {c : Fm} {A : Around} {ρ : Nat → Addr} {σ σ' : St} {s : Shared} {N : Nat} {NT : List Str} {R : Rec} {n k : Nat} {v : AV} {pos : Pos} {fl : AFlow}

theorem GivesF.done {t : Sem Flow} {ρ₁ : Nat → Addr} {σ₁ : St} (x : Ext ρ σ.next ρ₁ σ₁.next) {s₁ : Shared} (g : GivesF C c A t ρ₁ σ₁ σ' fl s₁) {Q : Flow → Shared → Prop} {Er : Value → Shared → Prop} {h : Heap} {tk : Tok} (e : s₁ = { s with heap := h, toks := tk })
    (q : ∀ ρ' f h' tk, Ext ρ σ.next ρ' σ'.next → SR C c ρ' σ' h' → FlowR C.V ρ' σ'.next fl f → Q f { s with heap := h', toks := tk }) : wpAny (MM C) A t Q Er s₁ := by
  refine g Q Er fun ρ' f h' tk' x' S' f' => ?_
  subst e
  exact q ρ' f h' tk' (x.trans x') S' f'

theorem not_interactive (O : c.Ok C A n) : interactive c.env = false := by
  have h : c.env.scope.kind = .function := O.kind
  unfold interactive
  rw [h]; rfl

theorem s_set (H : Sound C N R n) (G : C.Ok N NT) (O : c.Ok C A n) (hk : k ≤ N) {t : T} {a : X} {u w : Expr} (ht : fitT C.K c.sc k t u = true) (h1 : fitE C.K c.sc k a w = true) (h2 : (!isComp w || !notAttr u) = true) (h3 : (!isTup u || !isTup w) = true)
    (e : execA C.G R σ (.set t a) = some (fl, σ')) (S : SR C c ρ σ s.heap) : GivesF C c A (exec (.Assign [u] w pos) c.env) ρ σ σ' fl s := fun Q Er q => bd_inv e fun v σ₁ e1 e => ob_inv e fun σ₂ e2 e => by
  cases so e
  rw [exec_Assign]
  refine wpAny_bind (wpAny_standAt ?_)
  have hsw : swapsWithSole [u] w pos.line c.env = pure false := swaps_no h2
  obtain ⟨hno, hstar⟩ := target_plain (env := c.env) ht h3 e2
  rw [hsw]
  refine wpAny_bind (wpAny_pure ?_)
  rw [if_neg (by decide)]
  refine wpAny_bind (H.E _ _ _ _ _ _ _ _ _ _ O hk h1 e1 S _ _ fun ρ₁ cv g₁ t₁ x₁ S₁ v₁ => ?_)
  rw [hno]
  refine wpAny_bind (wpAny_pure ?_)
  show wpAny _ _ (assignAll cv ((assignEach [u] c.env).map (·.2)) >>= fun _ => pure Flow.next) _ _ _
  rw [hstar]
  refine wpAny_bind ?_
  show wpAny _ _ (assign u c.env cv) _ _ _
  exact Gives.intoU (σ := σ) x₁ (assign_sound H G O hk ht v₁ e2 S₁) rfl fun ρ' h' tk x' S' => wpAny_pure (q ρ' .next h' tk x' S' rfl)

/-- names in a row, as they are stored -/
noncomputable def NamesT (c : Fm) (ks : List Nat) (ts : List Expr) : Prop := F2 (fun k x => enc x = some k ∧ c.sc.names.lookup x = some .local) ks (tNames ts) ∧ (tNames ts).length = ts.length ∧
    ∀ ln, oneLineAt ln ts = true → ∀ f : Expr → Option Str, (∀ id p, f (.Name id p) = if (c.env.kindOf id == some .local && p.line == ln) = true then some id else none) → ts.filterMap f = tNames ts
theorem names_t {ks : List Nat} : ∀ {ts : List Expr}, namesFit c.sc ks ts = true → NamesT c ks ts := by
  induction ks with
  | nil =>
    intro ts h
    cases ts with
    | nil => exact ⟨.nil, rfl, fun _ _ _ _ => rfl⟩
    | cons => exact no h
  | cons k ks ih =>
    intro ts h
    cases ts with
    | nil => exact no h
    | cons e es =>
      obtain ⟨a, b, d⟩ := ih (ar h)
      refine onN_inv (P := fun e => NamesT c (k :: ks) (e :: es)) (al h) fun sx sp h => ⟨.cons ⟨encIs_eq (al h), of_decide_eq_true (ar h)⟩ a, congrArg Nat.succ b, fun ln hl f hfn => ?_⟩
      have hl : (decide (sp.line = ln) && oneLineAt ln es) = true := hl
      have h4 : (c.env.kindOf sx == some .local && sp.line == ln) = true := by
        rw [local_kind (of_decide_eq_true (ar h)), of_decide_eq_true (al hl), beq_self_eq_true, beq_self_eq_true]; rfl
      rw [List.filterMap_cons, hfn, if_pos h4, d ln (ar hl) f hfn]
      rfl

theorem star_all {vs : List Expr} (h : vs.all notStar = true) {f : Expr → Bool} (hf : ∀ e, notStar e = true → f e = false) : vs.any f = false := by
  rw [List.any_eq_false]
  intro x hx
  rw [hf x (List.all_eq_true.mp h x hx)]
  exact Bool.false_ne_true
theorem swapped_yes (O : c.Ok C A n) {ks : List Nat} {ts vs : List Expr} {kk kv : Nat} {p p' : Pos} (hn : namesFit c.sc ks ts = true) (hs : swapOk ts vs = true) (hd : (tNames ts).eraseDups.length = (tNames ts).length) :
    swappedStores [.Tuple ts kk p] (.Tuple vs kv p') c.env = pure (some (tNames ts)) := by
  obtain ⟨a, b, d⟩ := names_t hn
  have h2 : vs.length = ts.length := of_decide_eq_true (ar (al (al (al (al hs)))))
  have h1 := al (al (al (al (al hs))))
  have hd1 := d _ (ar (al (al hs)))
  unfold swappedStores
  dsimp only
  have hb : c.env.blockKind = .function := by
    have hk : c.env.scope.kind = .function := O.kind
    unfold Env.blockKind
    rw [hk]; rfl
  have k1 : (!(ts.length == 2 || ts.length == 3) || vs.length != ts.length || c.env.blockKind != .function) = false := by
    rw [hb, h2]
    rcases Bool.or_eq_true_iff.mp h1 with h1 | h1 <;> rw [of_decide_eq_true h1] <;> rfl
  rw [k1, if_neg (by decide), star_all (ar (al (al (al hs)))), if_neg (by decide), hd1]
  · rw [hd, b]
    simp only [bne_self_eq_false, Bool.or_self, Bool.false_eq_true, if_false]
    rw [not_true (ar (al hs)), not_true (ar hs)]
    rfl
  · intro id p; rfl
  · intro e he; cases e <;> first | rfl | exact no he

theorem F2.rev {α β : Type} {R : α → β → Prop} {as : List α} {bs : List β} (h : F2 R as bs) : F2 R as.reverse bs.reverse := by
  induction h with
  | nil => exact .nil
  | cons r _ ih => rw [List.reverse_cons, List.reverse_cons]; exact ih.append (.cons r .nil)
theorem F2.map {α β γ : Type} {R : α → β → Prop} {T : α → γ → Prop} {f : β → γ} (hf : ∀ a b, R a b → T a (f b)) {as : List α} {bs : List β} (h : F2 R as bs) : F2 T as (bs.map f) := by
  induction h with
  | nil => exact .nil
  | cons r _ ih => exact .cons (hf _ _ r) ih

theorem s_swap (H : Sound C N R n) (O : c.Ok C A n) (hk : k ≤ N) {ks : List Nat} {a : X} {ts vs : List Expr} {kk kv : Nat} {p p' : Pos} (hn : namesFit c.sc ks ts = true) (hs : swapOk ts vs = true) (h1 : fitE C.K c.sc k a (.Tuple vs kv p') = true) (hd : (tNames ts).eraseDups.length = (tNames ts).length)
    (e : execA C.G R σ (.swap ks a) = some (fl, σ')) (S : SR C c ρ σ s.heap) : GivesF C c A (exec (.Assign [.Tuple ts kk p] (.Tuple vs kv p') pos) c.env) ρ σ σ' fl s := fun Q Er q => bd_inv e fun va σ₁ e1 e => by
  refine Assign_Tuple_swapped ?_ rfl (swapped_yes O hn hs hd)
  refine H.E _ _ _ _ _ _ _ _ _ _ O hk h1 e1 S _ _ fun ρ₁ cv g₁ t₁ x₁ S₁ v₁ => own_inv e v₁ fun j _ _ e => tup_inv e fun us ej e => ob_inv e fun σ₂ e2 e => S₁.elim fun m news F N' l Ob nd => Ob.tpl N' ej fun its m1 i1 r1 h4 => ?_
  cases so e
  obtain ⟨a1, a2, _⟩ := names_t hn
  have h3 := setNames_len e2
  rw [List.length_reverse, List.length_reverse] at h3
  refine unpackItemsN_ (s := { s with heap := g₁, toks := t₁ }) F N' ⟨_, i1, rfl, _, rfl⟩ O.hd (a1.len.symm.trans (h3.trans h4)) fun h' F' N'' => ?_
  refine Gives.intoU (σ := σ) x₁ (names_bind (act := fun k f => ∃ x, (enc x = some k ∧ c.sc.names.lookup x = some .local) ∧ f = bindName c.env x) (s := { s with heap := h', toks := t₁ }) O (fun ⟨x, hx, hf⟩ hv S Q Er q => by subst hf; exact wpAny_bindName (store_sound O hx.1 hx.2 hv S _ _ q)) (a1.rev.map fun k x hx => ⟨x, hx, rfl⟩) r1.rev e2 ⟨m, news, F', N'', l, Ob, nd⟩) rfl fun ρ' h' tk x' S' => q ρ' .next h' tk x' S' rfl

theorem codeAny_forEnd {prog : Program} {w : World} {env : Env} {u : Expr} {itv : Value} {body : List Stmt} {Rr : Result → Shared → Prop} (h : wpAny (model prog w) A (pyNext itv) (fun r s₁ => r = none ∧ Rr (.ok .next) s₁) NoE s) : codeAny (model prog w) A (.forLoop u itv body [] env) Rr s := by
  refine codeAny_of_tree ?_
  show wpAny _ A ((forTurn u itv body [] env).onRaise (fun x => do noteFrame x env; theTreesLotGoes x)) _ _ s
  refine wpAny_noRaise ?_
  simp only [forTurn]
  refine wpAny_bind (wpAny_standAt (wpAny_bind (wpAny_onRaise (wpAny_mono h (fun r s₁ h₁ => ?_) fun _ _ h' => h'.elim))))
  obtain ⟨rfl, h₁⟩ := h₁
  exact wpAny_pure (And.intro rfl (codeAny_block (wpAny_execs_nil h₁)))
theorem empty_for (O : c.Ok C A n) {u : Expr} {j : Nat} {body : List Stmt} (ej : σ.obj j = some (.list [])) (S : SR C c ρ σ s.heap) {Er : Value → Shared → Prop} {Rr : Result → Shared → Prop}
    (q : ∀ h' tk, SR C c ρ σ h' → Rr (.ok .next) { s with heap := h', toks := tk }) :
    wpAny (MM C) A (pyIter (.ref (ρ j))) (fun it s₂ => codeAny (MM C) A (.forLoop u it body [] c.env) Rr s₂) Er s := S.elim fun m news F N' l Ob nd => Ob.lst N' ej fun its k1 m1 il r1 hl => by
  cases r1
  have S1 : SR C (c.at ((s.heap.objs.size, { cls := .type "list_iterator", data := .fields #[.ref (ρ j), .int 0 0] }) :: c.X)) ρ σ _ := SR.keepNew (X := c.X) S _ rfl
  exact wpAny_pyIter_list il (codeAny_forEnd (wpAny_pyNext_list_end (i := 0) (items := #[]) O.hd ⟨_, Heap.get?_push_size _ rfl, rfl, rfl⟩ (il.push _) rfl fun h' he => ⟨rfl, q h' s.toks (S1.gone he)⟩))

theorem s_for (H : Sound C N R n) (O : c.Ok C A n) (hk : k ≤ N) {t : T} {it : X} {b : List S} {u i : Expr} {body : List Stmt} (h1 : fitT C.K c.sc k t u = true) (h2 : fitE C.K c.sc k it i = true) (h3 : (!isSet i) = true) (h4 : bodyFit (fitS C.K c.sc k) b body = true)
    (e : execA C.G R σ (.forL t it b) = some (fl, σ')) (S : SR C c ρ σ s.heap) : GivesF C c A (exec (.For u i body [] pos) c.env) ρ σ σ' fl s := fun Q Er q => bd_inv e fun va σ₁ e1 e => by
  refine wpAny_For (H.E _ _ _ _ _ _ _ _ _ _ O hk h2 e1 S _ _ fun ρ₁ cv g₁ t₁ x₁ S₁ v₁ => ?_) (noSet h3 c.env)
  refine own_inv e v₁ fun j _ _ e => ob_inv e fun ao ej e => ?_
  cases ao with
  | tuple us =>
    cases t with
    | loc nx => exact onN_inv h1 fun sx sp h1 => forT_sound (s := { s with heap := g₁, toks := t₁ }) H O hk (encIs_eq (al h1)) (of_decide_eq_true (ar h1)) h4 ej e S₁ fun ρ' f h' tk x' S' f' => q ρ' f h' tk (x₁.trans x') S' f'
    | _ => exact nso e
  | list us =>
    cases isEmpty_eq (gl e)
    cases so (gr e)
    exact empty_for (s := { s with heap := g₁, toks := t₁ }) O ej S₁ fun h' tk S' => q ρ₁ .next h' tk x₁ S' rfl
  | _ => exact nso e
theorem s_while (H : Sound C N R n) (O : c.Ok C A n) (hk : k ≤ N) {t : X} {u : Expr} {body : List Stmt} (hT : okT t = true) (h0 : fitE C.K c.sc k t u = true)
    (e : execA C.G R σ (.while0 t) = some (fl, σ')) (S : SR C c ρ σ s.heap) : GivesF C c A (exec (.While u body [] pos) c.env) ρ σ σ' fl s := fun Q Er q => tr_inv e fun w σ₁ e1 e => by
  cases w with
  | true => exact nso e
  | false =>
    cases so e
    refine wpAny_While (codeAny_whileLoop (fun _ s' => s' = s) ?_ 0 rfl)
    rintro _ _ rfl
    refine H.T _ _ _ _ _ _ _ _ _ _ O hk h0 hT e1 S _ _ fun ρ₁ g₁ t₁ x₁ S₁ => ?_
    rw [if_neg (by decide)]
    exact wpAny_execs_nil (q ρ₁ .next g₁ t₁ x₁ S₁ rfl)
theorem s_forR (H : Sound C N R n) (O : c.Ok C A n) (hk : k ≤ N) {kk : Nat} {it : X} {b : List S} {sx rn : Str} {sp rp cp : Pos} {i : Expr} {body : List Stmt} (h1 : rn = "range") (h2 : c.sc.names.lookup rn = some .globalImplicit) (h3 : nsIn C.K mainGlobals rn = some none) (h6 : fitE C.K c.sc k it i = true) (h7 : notStar i = true)
    (e : execA C.G R σ (.forR kk it b) = some (fl, σ')) (S : SR C c ρ σ s.heap) : GivesF C c A (exec (.For (.Name sx sp) (.Call (.Name rn rp) [i] [] cp) body [] pos) c.env) ρ σ σ' fl s := fun Q Er q => bd_inv e fun va σ₁ e1 e => by
  cases va with
  | int ei => cases ei with
    | c z => cases z with
      | ofNat m =>
        have hm : m = 0 := of_decide_eq_true (gl e)
        cases so (gr e)
        subst hm
        exact wpAny_For (range_call (m := 0) H O hk h1 h2 h3 h6 h7 e1 (by decide) S fun ρ' I h' tk x' hI S' =>
          codeAny_forTurn (wpAny_pyNext_range_end (it := I) (x := 0) (left := 0) (step := 1) O.hd hI (Int.le_refl _) fun h'' he => q ρ' .next h'' tk x' (S'.gone he) rfl))
      | negSucc _ => exact nso e
    | _ => exact nso e
  | _ => exact nso e
theorem s_ite (H : Sound C N R n) (O : c.Ok C A n) (hk : k ≤ N) {t : X} {u : Expr} {a b : List S} {ea eb : List Stmt} (hT : okT t = true) (h0 : fitE C.K c.sc k t u = true) (h1 : bodyFit (fitS C.K c.sc k) a ea = true) (h2 : bodyFit (fitS C.K c.sc k) b eb = true)
    (e : execA C.G R σ (.ite t a b) = some (fl, σ')) (S : SR C c ρ σ s.heap) : GivesF C c A (exec (.If u ea eb pos) c.env) ρ σ σ' fl s := fun Q Er q => tr_inv e fun w σ₁ e1 e => wpAny_If (H.T _ _ _ _ _ _ _ _ _ _ O hk h0 hT e1 S _ _ fun ρ₁ g₁ t₁ x₁ S₁ => by
    cases w with
    | true =>
      rw [if_pos rfl]
      exact GivesF.done (σ := σ) x₁ (H.B _ _ _ _ _ _ _ _ _ _ O hk h1 e S₁) rfl q
    | false =>
      rw [if_neg (by decide)]
      exact GivesF.done (σ := σ) x₁ (H.B _ _ _ _ _ _ _ _ _ _ O hk h2 e S₁) rfl q)

theorem step_exec (H : Sound C N R n) (G : C.Ok N NT) (O : c.Ok C A (n + 1)) (hk : k ≤ N) {x : S} {st : Stmt} (hf : fitS C.K c.sc k x st = true) (e : execA C.G R σ x = some (fl, σ')) (S : SR C c ρ σ s.heap) :
    GivesF C c A (exec st c.env) ρ σ σ' fl s := by
  have O' := O.less (Nat.le_succ n)
  cases k with
  | zero => exact no hf
  | succ k =>
    have hk' : k ≤ N := Nat.le_of_succ_le hk
    cases x with
    | any => exact nso e
    | set t a => exact onAs_inv hf fun us w p hf => one_inv hf fun u hf => s_set H G O' hk' (al (al (al hf))) (ar (al (al hf))) (ar (al hf)) (ar hf) e S
    | swap ks a =>
      refine onAs_inv hf fun us w p hf => one_inv hf fun u hf => ?_
      have h1 := ar hf
      revert h1
      refine onT_inv (al hf) fun ts kk tp h => ?_
      exact onT_inv (al (al h)) fun vs kv p' hs h1 => s_swap H O' hk' (ar (al h)) hs h1 (of_decide_eq_true (ar h)) e S
    | setComp kk elt x a =>
      refine onAs_inv hf fun us w p hf => one_inv hf fun u hf => onNP_inv hf fun t tp hf => onG_inv hf fun el gs csc cp hf => gen1_inv hf fun sx sp i hf => ?_
      have h := al (al (al (al (al hf))))
      exact s_setComp H G O hk' (encIs_eq (al (al (al (al h))))) (of_decide_eq_true (ar (al (al (al h))))) (of_decide_eq_true (ar (al (al h)))) (of_decide_eq_true (ar (al h))) (encIs_eq (ar h)) (ar (al (al (al (al hf))))) (ar (al (al (al hf)))) (ar (al (al hf))) (ar (al hf)) (of_decide_eq_true (ar hf)) e S
    | ret a =>
      refine onRe_inv hf fun w p hf => sm_inv hf fun w hf Q Er q => bd_inv e fun v σ₁ e1 e => ?_
      cases so e
      exact wpAny_Return_some (H.E _ _ _ _ _ _ _ _ _ _ O' hk' hf e1 S _ _ fun ρ₁ cv g₁ t₁ x₁ S₁ v₁ => q ρ₁ (.ret cv) g₁ t₁ x₁ S₁ ⟨cv, rfl, v₁⟩)
    | ret0 =>
      refine onRe_inv hf fun w p hf => nn_inv hf ?_
      cases so e
      exact fun Q Er q => wpAny_Return_none (q ρ (.ret .none) s.heap s.toks Ext.refl S ⟨.none, rfl, rfl⟩)
    | expr a =>
      refine onEx_inv hf fun w p hf Q Er q => bd_inv e fun v σ₁ e1 e => ?_
      cases so e
      exact wpAny_Expr_any (H.E _ _ _ _ _ _ _ _ _ _ O' hk' (al hf) e1 S _ _ fun ρ₁ cv g₁ t₁ x₁ S₁ v₁ => q ρ₁ .next g₁ t₁ x₁ S₁ rfl) (not_interactive O') (swaps_none (ar hf))
    | ite t a b => exact onIf_inv hf fun u l r p hf => s_ite H O' hk' (al (al (al hf))) (ar (al (al hf))) (ar (al hf)) (ar hf) e S
    | while0 t => exact onWh_inv hf fun u l r p hf => nil_inv (ar hf) (s_while H O' hk' (al (al hf)) (ar (al hf)) e S)
    | forR kk it b =>
      refine onFo_inv hf fun u cc body r p hf => nil_inv (ar hf) (onN_inv (al hf) fun sx sp hf => onC_inv hf fun g es ks cp hf => nil_inv (ar hf) (onN_inv (al hf) fun rn rp hf => one_inv hf fun i hf => ?_))
      have h := al (al (al (al (al hf))))
      exact s_forR H O' hk' (of_decide_eq_true (al (al h))) (of_decide_eq_true (ar (al h))) (of_decide_eq_true (ar h)) (ar (al (al hf))) (ar (al hf)) e S
    | forL t it b => exact onFo_inv hf fun u i body r p hf => nil_inv (ar hf) (s_for H O' hk' (al (al (al (al hf)))) (ar (al (al (al hf)))) (ar (al (al hf))) (ar (al hf)) e S)

theorem stepB (H : Sound C N R n) (G : C.Ok N NT) : SoundB C N (fun σ b => blockA C.G R b σ) (n + 1) := by
  intro c A x
  induction x with
  | nil =>
    intro e σ σ' fl ρ s k O hk hf he S
    cases e with
    | nil => cases he; exact fun Q Er q => wpAny_execs_nil (q ρ .next s.heap s.toks Ext.refl S rfl)
    | cons => exact no hf
  | cons x xs ih =>
    intro e σ σ' fl ρ s k O hk hf he S
    cases e with
    | nil => exact no hf
    | cons st rest =>
      refine fun Q Er q => ob_inv he fun p e1 e2 => wpAny_execs_cons (step_exec H G O hk (al hf) e1 S _ _ fun ρ₁ f g₁ t₁ x₁ S₁ f₁ => ?_)
      obtain ⟨a, σ₁⟩ := p
      cases a with
      | next =>
        cases f₁
        exact GivesF.done (σ := σ) x₁ (ih rest σ₁ σ' fl ρ₁ { s with heap := g₁, toks := t₁ } k O hk (ar hf) e2 S₁) rfl q
      | ret u =>
        cases so e2
        obtain ⟨cv, rfl, hcv⟩ := f₁
        exact q ρ₁ (.ret cv) g₁ t₁ x₁ S₁ ⟨cv, rfl, hcv⟩

/-- the interpreter is sound -/
theorem recs_sound {C : Cx} {N : Nat} {NT : List Str} (G : C.Ok N NT) (b : Nat) (hb : 12 ≤ b ∨ C.G.CT = []) (n : Nat) : Sound C N (recs C.G n) (b + n) := by
  induction n with
  | zero => exact ⟨fun σ f vs r h => nso h, fun c A x e σ σ' v ρ s k O hk hf he S => nso he, fun c A x e σ σ' b ρ s k O hk hf ht he S => nso he, fun c A x e σ σ' fl ρ s k O hk hf he S => nso he, fun c A a vs σ σ' v ρ s cvs O hv he S => nso he, fun c A f vs σ σ' v ρ s cf cvs O hf hv he S => nso he⟩
  | succ n H =>
    have h12 : 12 ≤ b + n ∨ C.G.CT = [] := hb.imp_left fun q => Nat.le_trans q (Nat.le_add_right b n)
    exact ⟨keep_sound (recs C.G n) G, stepE H G, stepT H G, stepB H G, callF_sound h12 H G, callC_sound h12 H G⟩
end
end Mine

-- D25
namespace Mine
open PySem PySem.W PySem.Calls PyProof.Rows PySem.SeqAt PySem.MeetsSeq
open Sem (wp)

/-! contexts with nothing on the stack that may hold a bytearray -/
noncomputable def decIds : List String := Builtin.Bytes.decodersThatHold ++ ["bytearray.__contains__", "bytearray.__mod__", "bytearray.__rmod__", "_struct.pack_into.held", "bytearray.find.held"]
noncomputable def isDec : Code → Bool
  | .builtin id _ => decIds.contains id
  | _ => false
noncomputable def NoDec (l : List (Code × Pos)) : Prop := ∀ x ∈ l, isDec x.1 = false
noncomputable def Clean (Γ : Ctx) : Prop := isDec Γ.code = false ∧ NoDec Γ.below

section
variable {α β : Type} {M : Model} {A : Around} {E : Value → Shared → Prop} {s : Shared}
noncomputable def wpC {α : Type} (M : Model) (A : Around) (t : Sem α) (Q : α → Shared → Prop) (E : Value → Shared → Prop) (s : Shared) : Prop :=
  ∀ Γ p, Γ.In A → Clean Γ → wp M Γ t (fun a _ s' => Q a s') (fun e _ s' => E e s') p s
noncomputable def codeC (M : Model) (A : Around) (c : Code) (R : Result → Shared → Prop) (s : Shared) : Prop :=
  ∀ Γ p, Γ.code = c → Γ.Below A → NoDec Γ.below → wpCode M Γ R p s

theorem wpC_of {t : Sem α} {Q : α → Shared → Prop} (h : wpAny M A t Q E s) : wpC M A t Q E s := fun Γ p hΓ _ => h Γ p hΓ
theorem codeC_of {c : Code} {R : Result → Shared → Prop} (h : codeAny M A c R s) : codeC M A c R s := fun Γ p hc hΓ _ => h Γ p hc hΓ
theorem wpC_mono {t : Sem α} {Q Q' : α → Shared → Prop} {E' : Value → Shared → Prop} (h : wpC M A t Q E s) (hQ : ∀ a s, Q a s → Q' a s) (hE : ∀ e s, E e s → E' e s) : wpC M A t Q' E' s :=
  fun Γ p hΓ hc => Sem.wp_mono M Γ t (fun a _ s => hQ a s) (fun e _ s => hE e s) p s (h Γ p hΓ hc)
theorem wpC_bind {m : Sem α} {f : α → Sem β} {Q : β → Shared → Prop} (h : wpC M A m (fun a s' => wpC M A (f a) Q E s') E s) : wpC M A (m >>= f) Q E s := fun Γ p hΓ hc => by
  rw [Sem.wp_bind']
  exact Sem.wp_mono M Γ m (fun a p' s' h' => h' Γ p' hΓ hc) (fun _ _ _ h' => h') p s (h Γ p hΓ hc)
theorem wpC_pure {a : α} {Q : α → Shared → Prop} (h : Q a s) : wpC M A (pure a) Q E s := fun _ _ _ _ => h
theorem wpC_holding {vs : List Value} {m : Sem α} {Q : α → Shared → Prop} (h : wpC M A m Q E s) : wpC M A (holding vs m) Q E s :=
  fun Γ p hΓ hc => by rw [Sem.wp_holding]; exact h Γ p hΓ hc
theorem wpC_keep {vs : List Value} {m : Sem α} {Q : α → Shared → Prop} (h : wpC M A m Q E s) : wpC M A (m.keep vs) Q E s :=
  fun Γ p hΓ hc => by rw [Sem.wp_keep]; exact h Γ p hΓ hc
theorem wpC_onRaise {m : Sem α} {k : Value → Sem Unit} {Q : α → Shared → Prop} (h : wpC M A m Q (fun e s' => wpC M A (k e) (fun _ s'' => E e s'') E s') s) : wpC M A (m.onRaise k) Q E s := fun Γ p hΓ hc => by
  rw [Sem.wp_onRaise]
  exact Sem.wp_mono M Γ m (fun _ _ _ h' => h') (fun e p' s' h' => h' Γ p' hΓ hc) p s (h Γ p hΓ hc)
theorem codeC_mono {c : Code} {R R' : Result → Shared → Prop} (h : codeC M A c R s) (hR : ∀ r s, R r s → R' r s) : codeC M A c R' s := fun Γ p hc hΓ hn => wpCode_mono hR (h Γ p hc hΓ hn)
theorem clean_enter {Γ : Ctx} {c : Code} {h : Option Value} {p : Pos} (hc : Clean Γ) : NoDec (Γ.enter c h p).below := fun x hx => by
  rcases List.mem_cons.mp hx with rfl | hx
  · exact hc.1
  · exact hc.2 x hx
theorem wpC_runValue {c : Code} {Q : Value → Shared → Prop} (hc : codeC M A c (fun r s' => match r with | .ok (.ret v) => Q v s' | .ok _ => False | .error e => E e s') s) : wpC M A (runValue c) Q E s :=
  fun Γ p hΓ hcl => by rw [Sem.wp_runValue]; exact hc _ p rfl (hΓ.enter c none p (by intro x; cases x)) (clean_enter hcl)
theorem wpC_call {f : Value} {pos : List Value} {kw : List (Str × Value)} {Q : Value → Shared → Prop} (hc : codeC M A (.call f ⟨pos, kw⟩) (fun r s' => match r with | .ok (.ret v) => Q v s' | .ok _ => False | .error e => E e s') s) :
    wpC M A (call f pos kw) Q E s := wpC_runValue hc
theorem wpC_run {c : Code} {h : Option Value} {Q : Flow → Shared → Prop} (hc : codeC M (A.mark h) c (fun r s' => match r with | .ok f => Q f s' | .error e => E e s') s) (hnb : h ≠ some byPass := by intro x; cases x) : wpC M A (run c h) Q E s :=
  fun Γ p hΓ hcl => by rw [Sem.wp_run]; exact hc _ p rfl (hΓ.enter c h p hnb) (clean_enter hcl)
theorem codeC_of_tree {c : Code} {R : Result → Shared → Prop} (hd : isDec c = false)
    (h : wpC M (A.under c) (M.den c) (fun fin s' => match fin with | .done f => R (.ok f) s' | .again c' => c'.quiet = true ∧ codeC M A c' R s') (fun e s' => R (.error e) s') s) : codeC M A c R s := fun Γ p hc hΓ hn => by
  rw [wpCode_iff_wp, hc]
  refine Sem.wp_mono M Γ _ (fun fin p' s' h' => ?_) (fun _ _ _ h' => h') p s (h Γ p (hc ▸ hΓ.in) ⟨by rw [hc]; exact hd, hn⟩)
  cases fin with
  | done f => exact h'
  | again c' => exact ⟨h'.1, h'.2 (Γ.goto c') p' rfl (hΓ.goto c') hn⟩
end

section
variable {prog : Program} {w : World} {A : Around} {E : Value → Shared → Prop} {s : Shared} {R : Result → Shared → Prop}
theorem codeC_func {body : List Stmt} {env : Env}
    (h : wpC (model prog w) (A.deeper env) (execs body env) (fun f s' => R (.ok (.ret (match f with | .ret v => v | _ => .none))) s') (fun e s' => wpC (model prog w) (A.deeper env) (leaving env e) (fun _ s'' => R (.error e) s'') (fun e' s'' => R (.error e') s'') s') s) :
    codeC (model prog w) A (.func body env) R s := by
  refine codeC_of_tree rfl ?_
  show wpC _ (A.deeper env) (do point; match ← (execs body env).onRaise (leaving env) with | .ret v => ret v | _ => ret .none) _ _ s
  refine wpC_bind (wpC_of (wpAny_point (wpC_bind (wpC_onRaise (wpC_mono h (fun f s' h' => ?_) fun _ _ h' => h')))))
  cases f <;> exact wpC_pure h'

theorem codeC_call_function {a : Addr} {args : Args} {o : Obj} {fd : FuncData} {body : List Stmt} (hroom : A.depth < recursionLimit) (ho : s.heap.get? a = some o)
    (hd' : o.data = .func fd) (hco : fd.scope.isCoroutine = false) (hgen : fd.scope.isGenerator = false) (hbody : fd.body = .stmts body) (hcd : s.heap.CodeRec fd.code fd.qualname)
    (h : wpAny (model prog w) A.in1 (bindArgs fd args) (fun binds s₁ =>
      wpAny (model prog w) A.in1 (newFunctionEnv fd.scope fd.globals fd.closure binds (fd.qualname ++ ".<locals>.") (some a) fd.code none fd.builtins)
        (fun env s₂ => s₂.heap.NoLimit ∧ codeC (model prog w) A (.func body env) R s₂) (fun e s' => R (.error e) s') s₁) (fun e s' => R (.error e) s') s) :
    codeC (model prog w) A (.call (.ref a) args) R s := by
  refine codeC_of_tree rfl (wpC_of ?_)
  show wpAny _ A.in1 (callAny (.ref a) args) _ _ s
  simp only [callAny]
  refine wpAny_bind (wpAny_load ho ?_)
  obtain ⟨c, oc, vs, tq, hc, hoc, hdc, hq⟩ := hcd
  simp only [hd', callFunction, hco, hgen, hbody, hc]
  rw [hc] at h
  refine wpAny_bind (m := field (.ref c) 1) (wpAny_field hoc hdc hq (wpAny_bind (wpAny_pure ?_)))
  refine wpAny_bind (wpAny_mono h (fun binds s₁ h₁ => ?_) fun _ _ h' => h')
  refine wpAny_bind (wpAny_mono h₁ (fun env s₂ h₂ => ?_) fun _ _ h' => h')
  exact wpAny_bind (wpAny_enterFrame h₂.1 hroom (wpAny_pure (And.intro rfl h₂.2)))

theorem codeC_def {A₀ : Around} {base h₀ : Heap} {outer : List Env} {L : Addr} {m : Str → Option Value} {news : List (Addr × Obj)} {env : Env} {name qual : Str} {params : Arguments} {body : List Stmt} {scope : Scope} {dV kV doc pm cdv ct : Value} {an : Option Addr} {fo : Obj} {f : Addr} {args : Args} {binds : List (Str × Value)}
    (B : Below A₀ base outer h₀) (F : Fr h₀ L s.heap m) (N : News h₀ L s.heap news) (hlim : h₀.NoLimit) (hA : A.frames = some (env :: outer)) (hf : env.frame = some L) (hke : env.scope.kind = .function)
    (ho : s.heap.get? f = some fo) (hd : fo.data = .func (fnOf name qual params body scope dV kV doc pm an cdv ct)) (hcd : s.heap.CodeRec cdv qual) (hroom : A.depth < recursionLimit)
    (hbind : BindsTo s (fnOf name qual params body scope dV kV doc pm an cdv ct) args binds) (hloc : ∀ y ∈ binds, scope.names.lookup y.1 = some .local)
    (h : ∀ g L' h₁, Fr h₀ L g m → Fr g L' h₁ (fun y => binds.reverse.lookup y) → News g L' h₁ news → Below A base (env :: outer) g → h₀.StaysIn g →
      wpC (model prog w) (A.deeper (envOf qual scope L' f cdv)) (execs body (envOf qual scope L' f cdv))
        (fun fl s' => LeaveK h₀ L m g R (match fl with | .ret v => v | _ => .none) s')
        (fun e s' => wpC (model prog w) (A.deeper (envOf qual scope L' f cdv)) (leaving (envOf qual scope L' f cdv) e) (fun _ s'' => R (.error e) s'') (fun e' s'' => R (.error e') s'') s')
        { s with heap := h₁, toks := s.toks + binds.length })
    (hcell : ∀ x ∈ scope.names, x.2 ≠ .cell) (hco : scope.isCoroutine = false) (hgen : scope.isGenerator = false) (hk : scope.kind = .function) : codeC (model prog w) A (.call (.ref f) args) R s := by
  obtain ⟨FG, BG, st, lv⟩ := groundX (R := R) B F N hA hf hke
  refine codeC_call_function (fd := fnOf name qual params body scope dV kV doc pm an cdv ct) (body := body) hroom ho hd hco hgen rfl hcd (hbind _ _ _ _ ?_)
  refine wpAny_newFunctionEnv hcell hloc (fun h₁ hns hsb => ⟨(hlim.keeps F.keep).fresh _ hsb, codeC_func ?_⟩) hk
  have hk₁ : ∀ b o, s.heap.get? b = some o → h₁.get? b = some o := fun b o e => hsb.extBut b o (Nat.ne_of_lt (Heap.lt_size e)) (Heap.get?_push_of_some _ e)
  exact wpC_mono (h _ s.heap.objs.size h₁ FG ⟨hns, fun b o e => hk₁ b o (of_hideAll _ e), Nat.le_of_eq (hideAll_size _ _)⟩
    (fun p hp => ⟨hk₁ _ _ (N p hp).1, Nat.ne_of_lt (Heap.lt_size (N p hp).1), hideAll_none _ (List.mem_map_of_mem hp)⟩) BG st) (fun fl s' hl => lv _ _ hl) fun _ _ y => y
end
end Mine

-- D26
namespace Mine
open PySem PySem.W PySem.Calls PyProof.Rows PySem.SeqAt PySem.MeetsSeq
theorem codeC_builtin {prog : Program} {w : World} {A : Around} {s : Shared} {R : Result → Shared → Prop} {id : String} {args : Args} {b : Builtin} (hd : decIds.contains id = false) (hb : entryFor table id = some b)
    (h : wpC (model prog w) (A.under (.builtin id args)) (b args) (fun fin s' => match fin with | .done f => R (.ok f) s' | .again c' => c'.quiet = true ∧ codeC (model prog w) A c' R s') (fun e s' => R (.error e) s') s) :
    codeC (model prog w) A (.builtin id args) R s := by
  refine codeC_of_tree hd ?_
  show wpC _ _ (match entryFor table id with | some b => b args | none => unsupported ((withoutEnding? id "#data").getD id)) _ _ s
  rw [hb]; exact h
theorem dec_tc : decIds.contains "type.__call__" = false := by decide +kernel
set_option maxHeartbeats 4000000 in
theorem makeC {prog : Program} {w : World} {A : Around} {C : Addr} {R : Result → Shared → Prop} {h : Heap} {g : Array GenState} {d : Drawn} {t : Nat} {os : OsState} {rest : List Value} {init : Value} (Y : Makes (model prog w) h C) (hi : Looks (model prog w) h (typeLookup (.ref C) "__init__") (some init))
    (hb : ∀ self, Looks (model prog w) h (bindSpecial init self) (init, [self])) (hne : (some init != some (Value.builtin "object.__init__")) = true)
    (hq : codeC (model prog w) (A.under (.builtin "type.__call__" ⟨.ref C :: rest, []⟩)) (.call init ⟨.ref (h.objs.size + 1) :: rest, []⟩) (InitBack (h.objs.size + 1) R) ⟨(h.push emptyDict).push (instObj C h.objs.size), g, d, t, os⟩) :
    codeC (model prog w) A (.call (.ref C) ⟨rest, []⟩) R ⟨h, g, d, t, os⟩ := by
  have Y' := Y
  obtain ⟨⟨oc, od, cd, sl, hC, e1, e2, e4⟩, made, base, self, top, call, typ⟩ := Y
  refine codeC_of_tree rfl (wpC_of ?_)
  show wpAny _ _ (callAny (.ref C) _) _ _ _
  refine nd_load hC ?_
  show wpAny _ _ (callAny.viaDunder (.ref C) _) _ _ _
  unfold callAny.viaDunder
  refine wpAny_bind (call.at ?_)
  dsimp only
  rw [tc_bind]
  refine wpAny_bind (wpAny_pure (wpAny_bind (wpAny_pure ?_)))
  refine wpAny_pure (a := Fin.again (.call (.builtin "type.__call__") ⟨.ref C :: rest, []⟩)) (And.intro rfl ?_)
  refine codeC_of_tree rfl (wpC_of ?_)
  show wpAny _ _ (do checkBuiltinCall "type.__call__" ⟨.ref C :: rest, []⟩; again (.builtin "type.__call__" ⟨.ref C :: rest, []⟩)) _ _ _
  refine wpAny_bind (check_slot tc_kind tc_split typ (tc_args _ _ _) ?_)
  refine wpAny_pure (And.intro (Code.quiet_builtin _ (by decide +kernel)) ?_)
  refine codeC_builtin dec_tc entry_typeCall ?_
  unfold Builtin.«type.__call__»
  have hm : Looks (model prog w) h (mroOf (.ref C)) cd.mro := ((Looks.ld (part := none) hC).andThen .now).andThen .now
  have hcmp : ¬ (Value.ref C == Value.type "type") = true := by intro z; cases z
  dsimp only
  rw [if_neg hcmp]
  refine wpC_bind (wpC_of (hm.at ?_))
  rw [e4, if_neg (by decide)]
  refine wpC_bind (wpC_of (made.at ?_))
  dsimp only
  refine wpC_bind (wpC_pure ?_)
  refine wpC_bind (wpC_holding (wpC_of (wpAny_call (new_K Y' hi (.inl hne) ?_))))
  have k : ∀ b o, h.get? b = some o → ((h.push emptyDict).push (instObj C h.objs.size)).get? b = some o := fun b o e => Heap.get?_push_of_some _ (Heap.get?_push_of_some _ e)
  have hx : ((h.push emptyDict).push (instObj C h.objs.size)).get? (h.objs.size + 1) = some (instObj C h.objs.size) := by heap_get
  have t1 : Looks (model prog w) ((h.push emptyDict).push (instObj C h.objs.size)) (typeOf (.ref (h.objs.size + 1))) (.ref C) := (Looks.ld hx).andThen .now
  have s1 := self.keeps k
  have i1 := hi.keeps k
  have b1 := (hb (.ref (h.objs.size + 1))).keeps k
  have i2 : Looks (model prog w) ((h.push emptyDict).push (instObj C h.objs.size)) (isInstance (.ref (h.objs.size + 1)) (.ref C)) true := t1.andThen s1
  have sp : Looks (model prog w) ((h.push emptyDict).push (instObj C h.objs.size)) (specialOf (.ref (h.objs.size + 1)) "__init__") (some init) := t1.andThen i1
  refine wpC_bind (wpC_of (i2.at ?_))
  rw [if_neg (by decide)]
  refine wpC_bind (wpC_holding ?_)
  unfold callSpecial?
  refine wpC_bind (wpC_of (sp.at ?_))
  dsimp only
  refine wpC_holding (wpC_bind (wpC_of (b1.at ?_)))
  dsimp only
  refine wpC_bind (wpC_call ?_)
  refine codeC_mono hq fun r s' z => ?_
  cases r with
  | error e => exact z
  | ok f =>
    cases f with
    | ret v => obtain ⟨rfl, z⟩ := z; exact wpC_pure (wpC_pure z)
    | _ => exact z.elim
end Mine

-- D27
namespace Mine
open PySem PySem.W PySem.Calls PyProof.Rows PySem.SeqAt PySem.MeetsSeq
open Sem (wp)
theorem ba_mro : mroOf (.type "bytearray") = pure [.type "bytearray", .type "object"] := by rw [mroOf_type]; kernel_rfl
theorem ba_lookup_new : typeLookup (.type "bytearray") "__new__" = pure (some (.builtin "bytearray.__new__")) := by rw [typeLookup_type, builtinLookup_eq_fast]; kernel_rfl
theorem ba_init : Slot "bytearray" "__init__" "bytearray.__init__" :=
  .of (owner := "bytearray") (n := "__init__") (by rw [typeLookup_type, builtinLookup_eq_fast]; kernel_rfl) (by decide +kernel) (by decide +kernel) (by decide +kernel)
    (by first | exact .inl (by decide +kernel) | exact .inr (by decide +kernel)) (by rw [isSubtype_type]; kernel_rfl)
theorem ba_called : TypeCalled "bytearray" "bytearray.__new__" "bytearray.__init__" :=
  ⟨by decide +kernel, by decide +kernel, ⟨_, _, ba_mro⟩, madeBy_type ba_mro ba_lookup_new (by decide +kernel), by decide +kernel, by rw [isSubtype_type]; kernel_rfl, ba_init⟩
theorem ba_typeCall : checkTypeCall "bytearray" ⟨[], []⟩ = pure () := by kernel_rfl
theorem ba_newCall : checkBuiltinCall "bytearray.__new__" ⟨[.type "bytearray"], []⟩ = pure () := by kernel_rfl
theorem ba_entry_new : entryFor table "bytearray.__new__" = some Builtin.«list.__new__» := entryFor_alias (id' := "list.__new__") (by kernel_rfl) (by decide +kernel) (by kernel_rfl) (by kernel_rfl)
theorem ba_plain_new : plainId "bytearray.__new__" = true := by decide +kernel
theorem ba_entry_init : entryFor table "bytearray.__init__" = some Builtin.«bytearray.__init__» := entryFor_of_tree (by kernel_rfl)
theorem ba_plain_init : plainId "bytearray.__init__" = true := by decide +kernel
theorem ba_sub : isSubtype (.type "bytearray") (.type "bytearray") = pure true := by rw [isSubtype_type]; kernel_rfl
theorem ba_owner : ("bytearray.__new__".splitOn ".__new__").headD "" = "bytearray" := by rw [split_bytearray]; rfl
section
variable {prog : Program} {w : World} {A : Around} {E : Value → Shared → Prop} {s : Shared}
theorem code_ba_new {Q₁ : Value → Shared → Prop}
    (h : Q₁ (.ref s.heap.objs.size) { s with heap := s.heap.push { cls := .type "bytearray", data := .bytearray #[] } }) :
    codeAny (model prog w) A (.call (.builtin "bytearray.__new__") ⟨[.type "bytearray"], []⟩) (wants Q₁ E) s := by
  refine codeAny_of_tree ?_
  show wpAny _ A.in1 (do checkBuiltinCall "bytearray.__new__" ⟨[.type "bytearray"], []⟩; again (.builtin "bytearray.__new__" ⟨[.type "bytearray"], []⟩)) _ _ s
  refine wpAny_bind (wpAny_of_eq ba_newCall (wpAny_pure ⟨plainId_quiet ba_plain_new _, codeAny_builtin_stack ba_entry_new rfl fun p st => ?_⟩))
  rw [Around.under_plainId ba_plain_new _]
  have hsub := ba_sub
  have hown := ba_owner
  obtain ⟨hp, g, d, tk, os⟩ := s
  simp only [hown]
  wp_walk
  exact h
end
theorem ba_args_init (a : Value) : argsOk "bytearray.__init__" ⟨[a], []⟩ := by unfold argsOk; kernel_rfl
theorem ba_look_rel : typeLookup (.type "bytearray") "__release_buffer__" = pure (some (.builtin "bytearray.__release_buffer__")) := by rw [typeLookup_type, builtinLookup_eq_fast]; kernel_rfl
theorem ba_rel_ends : ("bytearray.__release_buffer__".endsWith ("." ++ "__release_buffer__")) = true := by decide +kernel
theorem ba_rel_drop : ("bytearray.__release_buffer__".dropRight ("__release_buffer__".length + 1)) = "bytearray" := by kernel_rfl
theorem ba_bind : Builtin.Bytes.bindOptional "bytearray.__init__" "bytearray" ["source", "encoding", "errors"] [] [] = pure [none, none, none] := by kernel_rfl
theorem dec_init : decIds.contains "bytearray.__init__" = false := by decide +kernel
theorem dec_call {f : Value} {a : Args} : isDec (.call f a) = false := rfl
theorem ba_len : [("source" : String), "encoding", "errors"].length = 3 := rfl
theorem wpC_stack {prog : Program} {w : World} {A : Around} {s : Shared} {E : Value → Shared → Prop} {α : Type} {k : List (Code × Pos) → Sem α} {Q : α → Shared → Prop}
    (h : ∀ st, (∀ x ∈ st, isDec x.1 = false) → wpC (model prog w) A (k st) Q E s) : wpC (model prog w) A (stack >>= k) Q E s := fun Γ p hΓ hc => by
  show Sem.wp _ Γ (Sem.bind stack k) _ _ p s
  unfold stack
  rw [Sem.wp_bind, Sem.wp_stack]
  refine h _ (fun x hx => ?_) Γ p hΓ hc
  rcases List.mem_cons.mp hx with rfl | hx
  · exact hc.1
  · exact hc.2 x hx
theorem dne {c : Prop} [Decidable c] {a : c → Bool} {b : ¬ c → Bool} (h : ¬ c) (k : b h = false) : dite c a b = false := by rw [dif_neg h]; exact k
theorem holds_not {id : String} (h : decIds.contains id = false) : Builtin.Bytes.decodersThatHold.contains id = false := by
  rw [List.contains_eq_mem, decide_eq_false_iff_not] at h ⊢
  exact fun m => h (List.mem_append_left _ m)
theorem not_id {id k : String} (h : decIds.contains id = false) (hk : decIds.contains k = true) : ¬ id = k := fun e => by
  subst e
  exact nomatch h.symm.trans hk
theorem wpC_exported {prog : Program} {w : World} {A : Around} {s : Shared} {E : Value → Shared → Prop} {self : Value} {Q : Bool → Shared → Prop} (h : Q false s) : wpC (model prog w) A (Builtin.Bytes.exported self) Q E s := by
  refine wpC_stack fun st hst => wpC_pure ?_
  have key : ∀ b, b = false → Q b s := fun b e => by rw [e]; exact h
  refine key _ (List.any_eq_false.mpr fun x hx => Bool.eq_false_iff.mp ?_)
  have hd := hst x hx
  obtain ⟨code, p⟩ := x
  cases code with
  | builtin id args =>
    obtain ⟨pos, kw⟩ := args
    have hd : decIds.contains id = false := hd
    delta Builtin.Bytes.exported.match_1
    refine dne (not_id hd (by decide +kernel)) (dne (not_id hd (by decide +kernel)) (dne (not_id hd (by decide +kernel)) (dne (not_id hd (by decide +kernel)) (dne (not_id hd (by decide +kernel)) ?_))))
    cases pos with
    | nil => rfl
    | cons v tail => show (Builtin.Bytes.sameRef v self && Builtin.Bytes.decodersThatHold.contains id) = false; rw [holds_not hd, Bool.and_false]
  | _ => rfl
section
variable {prog : Program} {w : World} {A : Around} {E : Value → Shared → Prop} {s : Shared}
theorem update_id {h : Heap} {a : Addr} {f : Obj → Obj} {o : Obj} (ho : h.get? a = some o) (hf : f o = o) : h.update a f = h := by
  have e := (Heap.get?_some_iff.mp ho).1
  obtain ⟨objs, l⟩ := h
  refine congrArg (Heap.mk · l) (Array.ext (Array.size_modify ..) fun i h1 h2 => ?_)
  rw [Array.getElem_modify]
  by_cases hi : a = i
  · subst hi
    rw [if_pos rfl, show objs[a] = o from Option.some.inj ((Array.getElem?_eq_getElem h2).symm.trans e), hf]
  · rw [if_neg hi]
theorem ba_ownRel {a : Addr} {Q : Bool → Shared → Prop} (ho : s.heap.get? a = some barrOf) (h : Q false s) : wpAny (model prog w) A (Builtin.Bytes.ownRelease (.ref a)) Q E s := by
  unfold Builtin.Bytes.ownRelease Builtin.Bytes.slotIsOwn
  have e1 := ba_rel_ends
  have e2 := ba_rel_drop
  have e3 := ba_look_rel
  have e4 := ba_sub
  obtain ⟨hp, g, d, tk, os⟩ := s
  refine wpAny_bind (wpAny_bind ?_)
  unfold specialOf
  refine wpAny_bind ?_
  unfold typeOf
  wp_walk
  rw [if_neg (by rw [e1]; decide), e2]
  unfold isInstance typeOf
  wp_walk
  exact h
theorem code_ba_init {a : Addr} {Q : Value → Shared → Prop} (ho : s.heap.get? a = some barrOf) (h : Q .none s) : codeC (model prog w) A (.call (.builtin "bytearray.__init__") ⟨[.ref a], []⟩) (wants Q E) s := by
  have hT : s.TypeIs (.ref a) "bytearray" := ⟨_, ho, rfl⟩
  refine codeC_of_tree rfl (wpC_of ?_)
  show wpAny _ A.in1 (do checkBuiltinCall "bytearray.__init__" ⟨[.ref a], []⟩; again (.builtin "bytearray.__init__" ⟨[.ref a], []⟩)) _ _ s
  refine wpAny_bind (ba_init.check _ _ _ _ _ _ _ _ hT (ba_args_init _) (wpAny_pure ⟨plainId_quiet ba_plain_init _, codeC_builtin dec_init ba_entry_init ?_⟩))
  show wpC _ _ (Builtin.Bytes.ownRelease (.ref a) >>= _) _ _ s
  refine wpC_bind (wpC_of (ba_ownRel ho ?_))
  rw [if_neg (by decide)]
  refine wpC_bind (wpC_of (wpAny_of_eq ba_bind ?_))
  dsimp only
  refine wpC_bind (wpC_pure ?_)
  refine wpC_bind (wpC_pure ?_)
  refine wpC_bind (wpC_bind (wpC_exported ?_))
  refine wpC_of ?_
  show wpAny _ _ (Builtin.Bytes.exportsOf (.ref a) >>= fun n => pure (decide (n > 0))) _ _ _
  refine wpAny_bind ?_
  show wpAny _ _ (load a >>= _) _ _ _
  refine wpAny_bind (wpAny_load ho ?_)
  refine wpAny_pure (wpAny_pure ?_)
  rw [if_neg (by decide)]
  refine wpC_of (wpAny_bind ?_)
  show wpAny _ _ (updateBytearray a (fun _ => #[])) _ _ _
  unfold updateBytearray
  refine wpAny_bind (wpAny_load ho ?_)
  show wpAny _ _ (update a (Obj.mapBytearray (fun _ => #[])) >>= fun _ => lookBehind a) _ _ _
  refine wpAny_bind (wpAny_update ho ?_)
  rw [update_id ho rfl]
  refine wpAny_lookBehind ho rfl ?_
  refine wpAny_bind (wpAny_pure ?_)
  exact wpAny_pure h
end
section
variable {prog : Program} {w : World} {A : Around} {E : Value → Shared → Prop} {s : Shared}
theorem call_ba {Q : Value → Shared → Prop} (h : Q (.ref s.heap.objs.size) { s with heap := s.heap.push barrOf }) : wpC (model prog w) A (call (.type "bytearray") [] []) Q E s := by
  have ft := ba_called
  obtain ⟨c, tl, hmro⟩ := ft.mro
  refine wpC_call (codeC_of_tree rfl (wpC_of ?_))
  show wpAny _ _ (callAny (.type "bytearray") _) _ _ _
  refine wpAny_pure ⟨Code.quiet_builtin _ (by decide +kernel), codeC_builtin dec_tc PySem.F.entry_type_call ?_⟩
  unfold Builtin.«type.__call__»
  dsimp only
  rw [if_neg (by rw [ft.notType]; decide)]
  rw [hmro]
  refine wpC_bind (wpC_of (wpAny_of_eq ba_typeCall ?_))
  refine wpC_bind (wpC_pure ?_)
  rw [if_neg (by intro z; cases z)]
  refine wpC_bind (wpC_of (wpAny_of_eq ba_called.made ?_))
  dsimp only
  refine wpC_bind (wpC_pure ?_)
  refine wpC_bind (wpC_holding (wpC_of (wpAny_call (code_ba_new ?_))))
  have ho : (s.heap.push barrOf).get? s.heap.objs.size = some barrOf := by heap_get
  have hT : ({ s with heap := s.heap.push barrOf } : Shared).TypeIs (.ref s.heap.objs.size) "bytearray" := ⟨_, ho, rfl⟩
  have e3 := ba_sub
  have e4 := ba_init.lookup
  have e5 := ba_init.bind (.ref s.heap.objs.size)
  refine wpC_bind (wpC_of ?_)
  show wpAny _ _ (isInstance (.ref s.heap.objs.size) (.type "bytearray")) _ _ _
  unfold isInstance typeOf
  refine wpAny_bind (wpAny_bind (wpAny_load ho (wpAny_pure ?_)))
  refine wpAny_of_eq ba_sub ?_
  rw [if_neg (by decide)]
  refine wpC_bind (wpC_holding ?_)
  unfold callSpecial? specialOf typeOf
  refine wpC_bind (wpC_of (wpAny_bind (wpAny_bind (wpAny_load ho (wpAny_pure ?_)))))
  refine wpAny_of_eq ba_init.lookup ?_
  dsimp only
  refine wpC_holding (wpC_bind (wpC_of (wpAny_of_eq e5 ?_)))
  dsimp only
  refine wpC_bind (wpC_call ?_)
  refine code_ba_init ho ?_
  refine wpC_pure (wpC_pure ?_)
  exact h
end
end Mine

-- D28
namespace Mine
open PySem PySem.W PySem.Calls PyProof.Rows PySem.SeqAt PySem.MeetsSeq

section
variable (C : Cx) (c : Fm) (A : Around)
noncomputable def GC (t : Sem Value) (ρ : Nat → Addr) (σ σ' : St) (v : AV) (s : Shared) : Prop :=
  ∀ (Q : Value → Shared → Prop) (Er : Value → Shared → Prop),
    (∀ ρ' cv h' tk, Ext ρ σ.next ρ' σ'.next → SR C c ρ' σ' h' → VR C.V ρ' σ'.next v cv → Q cv { s with heap := h', toks := tk }) → wpC (MM C) A t Q Er s
noncomputable def GCF (t : Sem Flow) (ρ : Nat → Addr) (σ σ' : St) (fl : AFlow) (s : Shared) : Prop :=
  ∀ (Q : Flow → Shared → Prop) (Er : Value → Shared → Prop),
    (∀ ρ' f h' tk, Ext ρ σ.next ρ' σ'.next → SR C c ρ' σ' h' → FlowR C.V ρ' σ'.next fl f → Q f { s with heap := h', toks := tk }) → wpC (MM C) A t Q Er s
noncomputable def GCC (cf : Value) (cvs : List Value) (ρ : Nat → Addr) (σ σ' : St) (v : AV) (s : Shared) : Prop :=
  ∀ (R : Result → Shared → Prop),
    (∀ ρ' cv h' tk, Ext ρ σ.next ρ' σ'.next → SR C c ρ' σ' h' → VR C.V ρ' σ'.next v cv → R (.ok (.ret cv)) { s with heap := h', toks := tk }) → codeC (MM C) A (.call cf ⟨cvs, []⟩) R s
end
structure SoundX (C : Cx) (N : Nat) (RC : RecC) (n : Nat) : Prop where
  keep : ∀ σ f vs r, RC.C σ f vs = some r → Callable C f
  B : ∀ (c : Fm) (A : Around) (x : List S) (e : List Stmt) (σ σ' : St) (fl : AFlow) (ρ : Nat → Addr) (s : Shared) (k : Nat),
    c.Ok C A n → k ≤ N → bodyFit (fitS C.K c.sc k) x e = true → RC.B σ x = some (fl, σ') → SR C c ρ σ s.heap → GCF C c A (execs e c.env) ρ σ σ' fl s
  F : ∀ (c : Fm) (A : Around) (a : Nat) (vs : List AV) (σ σ' : St) (v : AV) (ρ : Nat → Addr) (s : Shared) (cvs : List Value),
    c.Ok C A n → F2 (VR C.V ρ σ.next) vs cvs → RC.C σ (.fn a) vs = some (v, σ') → SR C c ρ σ s.heap → GCC C c A (.ref a) cvs ρ σ σ' v s
  C : ∀ (c : Fm) (A : Around) (f : AV) (vs : List AV) (σ σ' : St) (v : AV) (ρ : Nat → Addr) (s : Shared) (cf : Value) (cvs : List Value),
    c.Ok C A n → VR C.V ρ σ.next f cf → F2 (VR C.V ρ σ.next) vs cvs → RC.C σ f vs = some (v, σ') → SR C c ρ σ s.heap → GC C c A (call cf cvs []) ρ σ σ' v s

section
variable {C : Cx} {c : Fm} {A : Around} {ρ : Nat → Addr} {σ σ' : St} {s : Shared} {N : Nat} {NT : List Str} {R : Rec} {RC : RecC} {n k : Nat} {v : AV} {pos : Pos} {fl : AFlow}
theorem Gives.toC {t : Sem Value} (h : Gives C c A t ρ σ σ' v s) : GC C c A t ρ σ σ' v s := fun Q Er q => wpC_of (h Q Er q)
theorem GivesF.toC {t : Sem Flow} (h : GivesF C c A t ρ σ σ' fl s) : GCF C c A t ρ σ σ' fl s := fun Q Er q => wpC_of (h Q Er q)
theorem GivesC.toC {cf : Value} {cvs : List Value} (h : GivesC C c A cf cvs ρ σ σ' v s) : GCC C c A cf cvs ρ σ σ' v s := fun R q => codeC_of (h R q)
theorem GCF.done {t : Sem Flow} {ρ₁ : Nat → Addr} {σ₁ : St} (x : Ext ρ σ.next ρ₁ σ₁.next) {s₁ : Shared} (g : GCF C c A t ρ₁ σ₁ σ' fl s₁) {Q : Flow → Shared → Prop} {Er : Value → Shared → Prop} {h : Heap} {tk : Tok} (e : s₁ = { s with heap := h, toks := tk })
    (q : ∀ ρ' f h' tk, Ext ρ σ.next ρ' σ'.next → SR C c ρ' σ' h' → FlowR C.V ρ' σ'.next fl f → Q f { s with heap := h', toks := tk }) : wpC (MM C) A t Q Er s₁ := by
  refine g Q Er fun ρ' f h' tk' x' S' f' => ?_
  subst e
  exact q ρ' f h' tk' (x.trans x') S' f'
theorem GC.done {t : Sem Value} {ρ₁ : Nat → Addr} {σ₁ : St} (x : Ext ρ σ.next ρ₁ σ₁.next) {s₁ : Shared} (g : GC C c A t ρ₁ σ₁ σ' v s₁) {Q : Value → Shared → Prop} {Er : Value → Shared → Prop} {h : Heap} {tk : Tok} (e : s₁ = { s with heap := h, toks := tk })
    (q : ∀ ρ' cv h' tk, Ext ρ σ.next ρ' σ'.next → SR C c ρ' σ' h' → VR C.V ρ' σ'.next v cv → Q cv { s with heap := h', toks := tk }) : wpC (MM C) A t Q Er s₁ := by
  refine g Q Er fun ρ' cv h' tk' x' S' v' => ?_
  subst e
  exact q ρ' cv h' tk' (x.trans x') S' v'

theorem callWith_ofC {M : Model} {Q Er : Value → Shared → Prop} {f : Value} {first : List Value} {P : Heap → Prop} {args : List (Bool × Sem Value)} {keywords : List (Option Str × Sem Value)} (hplain : (args.any (·.1) || keywords.any (·.1.isNone)) = false)
    (hk : ∀ h, P h → ∃ k, (k = Keeper.frame ∨ k = Keeper.machine ∨ k = Keeper.boundFrame) ∧ Looks M h (keeperOf f) k)
    (h : wpAny M A (evalArgs f true args keywords) (fun a s₁ => P s₁.heap ∧ wpC M A (call f (first ++ a.pos) a.kw) Q Er s₁) Er s) : wpC M A (callWith pos f first args keywords) Q Er s := by
  unfold callWith
  refine wpC_bind (wpC_holding (wpC_mono (wpC_of h) (fun a s₁ h₁ => wpC_bind (wpC_of (wpAny_standAt ?_))) fun _ _ x => x))
  obtain ⟨k, hk', L⟩ := hk _ h₁.1
  simp only [hplain]
  refine wpC_bind (wpC_of (L.here ?_))
  have tail : ∀ {t : Sem Value}, wpC M A t Q Er s₁ → wpC M A (t >>= fun r => holding [r] point >>= fun _ => pure r) Q Er s₁ :=
    fun ht => wpC_bind (wpC_mono ht (fun r s₂ hr => wpC_of (wpAny_bind (wpAny_holding (wpAny_point (wpAny_pure hr))))) fun _ _ x => x)
  have marked (mk : Value) : wpC M A (callMarked mk f (first ++ a.pos) a.kw) Q Er s₁ := by unfold callMarked; exact wpC_keep h₁.2
  rcases hk' with rfl | rfl | rfl <;> dsimp only <;> first | exact tail h₁.2 | (split <;> first | exact tail h₁.2 | exact tail (marked _))

theorem callWithC_sound (H : Sound C N R n) (O : c.Ok C A n) (hk : k ≤ N) {xs : List X} {es : List Expr} {vs : List AV} {cf : Value} {first : List Value} {Q Er : Value → Shared → Prop}
    (hkeep : KeepsV C cf) (h1 : allFit (fitE C.K c.sc k) xs es = true)
    (e : evs R.E xs σ = some (vs, σ')) (S : SR C c ρ σ s.heap)
    (q : ∀ ρ' cvs h' tk, Ext ρ σ.next ρ' σ'.next → SR C c ρ' σ' h' → F2 (VR C.V ρ' σ'.next) vs cvs → wpC (MM C) A (call cf (first ++ cvs) []) Q Er { s with heap := h', toks := tk }) :
    wpC (MM C) A (callWith pos cf first (backTo pos (starEach es c.env)) []) Q Er s := by
  cases es with
  | nil =>
    cases xs with
    | nil =>
      cases e
      exact callWith_ofC (P := C.K.In) rfl hkeep (evalArgs_nil3 ⟨O.keeps S, q ρ [] s.heap s.toks Ext.refl S .nil⟩)
    | cons => exact no h1
  | cons e₀ rest =>
    cases xs with
    | nil => exact no h1
    | cons x₀ xs =>
      have hp := args_plain (pos := pos) (env := c.env) h1
      have A0 := args_sound (pos := pos) H O hk h1 e S
      rw [star_plain (ar (al h1))] at A0 hp ⊢
      exact callWith_ofC (P := C.K.In) (by rw [hp]; rfl) hkeep (evalArgs_plain (A0 _ _ fun ρ' cvs h' tk x' S' v' => ⟨O.keeps S', q ρ' cvs h' tk x' S' v'⟩))

theorem e_callC (H : Sound C N R n) (HC : SoundX C N RC n) (O : c.Ok C A n) (hk : k ≤ N) {f : X} {g : Expr} {xs : List X} {es : List Expr} (hg : notAttr g = true) (h0 : fitE C.K c.sc k f g = true) (h1 : allFit (fitE C.K c.sc k) xs es = true)
    (e : evalC R RC σ (.call f xs) = some (v, σ')) (S : SR C c ρ σ s.heap) : GC C c A (eval (.Call g es [] pos) c.env) ρ σ σ' v s := fun Q Er q => bd_inv e fun fv σ₁ e0 e => ob_inv e fun p e1 e => by
  rw [call_eq hg]
  exact wpC_bind (wpC_of (H.E _ _ _ _ _ _ _ _ _ _ O hk h0 e0 S _ _ fun ρ₁ cf g₁ t₁ x₁ S₁ v₁ => callWithC_sound H O hk (keeper_of (HC.keep _ _ _ _ e) v₁) h1 e1 S₁ fun ρ₂ cvs g₂ t₂ x₂ S₂ v₂ =>
    GC.done (σ := σ) (x₁.trans x₂) (HC.C c A fv p.1 p.2 σ' v ρ₂ { s with heap := g₂, toks := t₂ } cf cvs O (v₁.mono x₂) v₂ e S₂) rfl q))
end
end Mine

-- D29
namespace Mine
open PySem PySem.W PySem.Calls PyProof.Rows PySem.SeqAt PySem.MeetsSeq

section
variable {C : Cx} {c : Fm} {A : Around} {ρ : Nat → Addr} {σ σ' : St} {s : Shared} {N : Nat} {NT : List Str} {R : Rec} {RC : RecC} {n k : Nat} {v : AV} {pos : Pos} {fl : AFlow}

theorem evalC_sound (H : Sound C N R n) (HC : SoundX C N RC n) (O : c.Ok C A n) (hk : k ≤ N) {x : X} {l : Expr} (hf : fitE C.K c.sc k x l = true)
    (e : evalC R RC σ x = some (v, σ')) (S : SR C c ρ σ s.heap) : GC C c A (eval l c.env) ρ σ σ' v s := by
  cases x with
  | call f xs =>
    cases k with
    | zero => exact no hf
    | succ k => exact onC_inv hf fun g es ks p hf => nil_inv (ar hf) (e_callC H HC O (Nat.le_of_succ_le hk) (al (al (al hf))) (ar (al (al hf))) (ar (al hf)) e S)
  | _ => exact (H.E _ _ _ _ _ _ _ _ _ _ O hk hf e S).toC

theorem callDefC_sound (HC : SoundX C N RC n) (G : C.Ok N NT) (O : c.Ok C A (n + 1)) {a : Nat} {fd : CFn} {vs : List AV} {cvs : List Value} (ef : C.G.fns.lookup a = some fd) (hv : F2 (VR C.V ρ σ.next) vs cvs)
    (e : callDefC RC σ fd vs = some (v, σ')) (S : SR C c ρ σ s.heap) : GCC C c A (.ref a) cvs ρ σ σ' v s := fun Rr q => fn_inv (G.fns _ _ ef) fun name qual params body scope dV kV doc pm cdv ct o an W => S.elim fun m news F N' l Ob nd =>
  ob_inv (gr e) fun p eb e' => enter W (O.X.keeps F.keep) hv (gl e) (fun binds hb hloc hl => by
    cases so e'
    exact codeC_def (binds := binds) O.B F N' O.T.nolimit O.fr rfl O.kind (O.X.keeps F.keep _ _ W.at_) W.data (codeRec_of (O.X.keeps F.keep) W.code) O.deep hb hloc (fun g L' h₁ Fg F' N'' B' st =>
      HC.B (c.sub A qual scope L' a cdv g c.X) _ fd.body body (inOf σ fd vs) p.2 p.1 ρ { s with heap := h₁, toks := s.toks + binds.length } N (O.sub B' st W.kind) (Nat.le_refl _) W.body eb ⟨_, news, F', N'', hl, Ob, nd⟩ _ _ fun ρ' f h' tk x' S' fl =>
        S'.elim fun m' news' F₂ N₂ _ Ob' nd' => leaveK_ F₂ N₂ fun F₃ N₃ => q ρ' _ h' tk x' ⟨m, news', F₃, N₃, l.mono x', Ob', nd'⟩ (flow_back (loc := σ.loc) fl)) W.cell W.co W.gen W.kind) W.len

theorem callFC_sound (h12 : 12 ≤ n ∨ C.G.CT = []) (HC : SoundX C N RC n) (G : C.Ok N NT) (O : c.Ok C A (n + 1)) {a : Nat} {vs : List AV} {cvs : List Value} (hv : F2 (VR C.V ρ σ.next) vs cvs)
    (e : callC C.G R RC σ (.fn a) vs = some (v, σ')) (S : SR C c ρ σ s.heap) : GCC C c A (.ref a) cvs ρ σ σ' v s := by
  have e : (match ctOf C.G a vs with | some t => some (t.2.2, σ) | none => ob (C.G.fns.lookup a) fun fd => callDefC RC σ fd vs) = some (v, σ') := e
  cases et : ctOf C.G a vs with
  | some t => rw [et] at e; exact (ct_sound h12 G O et hv e S).toC
  | none => rw [et] at e; exact fun Rr q => ob_inv e fun fd ef e => callDefC_sound HC G O ef hv e S Rr q

theorem clsC_sound (HC : SoundX C N RC n) (G : C.Ok N NT) (O : c.Ok C A (n + 1)) {a : Nat} {k : CCls} {vs : List AV} {cvs : List Value} (ek : C.G.cls.lookup a = some k) (hv : F2 (VR C.V ρ σ.next) vs cvs)
    (e : RC.C (born σ a) (.fn k.init) (.own (σ.next + 1) :: vs) = some (.none, σ')) (S : SR C c ρ σ s.heap) : GC C c A (call (.ref a) cvs []) ρ σ σ' (.own (σ.next + 1)) s := fun Q Er q => S.elim fun m news F N' l Ob nd => by
  have K := clsOk_of (G.cls _ _ ek)
  have X := O.X.keeps F.keep
  refine wpC_call ?_
  have N2 := (N'.push F emptyDict).push (F.push _) (instObj a s.heap.objs.size)
  rw [Heap.size_push] at N2
  refine makeC (makes_of X K.makes) (looks_findIn X K.init) (fun self => bind_fn X self (beq_iff_eq.mp K.initF)) rfl ?_
  refine SR.born ((F.push _).push _) N2 l Ob nd (fun p hp => Heap.lt_size (N' p hp).1) (Nat.lt_succ_self _) fun ρ₁ x₁ S₁ v₁ => ?_
  refine HC.F c _ k.init (.own (σ.next + 1) :: vs) (born σ a) σ' .none ρ₁ _ (.ref (s.heap.objs.size + 1) :: cvs) (under_tc O) (.cons v₁ (VRs.mono x₁ hv)) e S₁ _ fun ρ' cv h'' tk x' S' v' => ?_
  cases v'
  exact ⟨rfl, q ρ' (.ref (s.heap.objs.size + 1)) h'' tk (x₁.trans x') S' (own_kept x' v₁)⟩
end
end Mine

-- D31
namespace Mine
open PySem PySem.W PySem.Calls PyProof.Rows PySem.SeqAt PySem.MeetsSeq

section
variable {prog : Program} {w : World} {A : Around} {E : Value → Shared → Prop} {s : Shared} {Rr : Result → Shared → Prop} {env : Env}
theorem wpC_noRaise {α : Type} {M : Model} {m : Sem α} {k : Value → Sem Unit} {Q : α → Shared → Prop} (h : wpC M A m Q NoE s) : wpC M A (m.onRaise k) Q E s := wpC_onRaise (wpC_mono h (fun _ _ x => x) fun _ _ f => f.elim)
theorem wpC_runOwn {M : Model} {cd : Code} {Q : Flow → Shared → Prop} (hc : codeC M A cd (fun r s' => match r with | .ok f => Q f s' | .error _ => False) s) : wpC M A (runOwn cd env) Q E s := by
  unfold runOwn
  refine wpC_noRaise (wpC_run ?_)
  rw [Around.mark_none]
  exact hc
theorem codeC_forTurn {x : Str} {px : Pos} {itv : Value} {body : List Stmt}
    (h : wpAny (model prog w) A (pyNext itv) (fun r s₁ => match r with
      | none => Rr (.ok .next) s₁
      | some v => wpAny (model prog w) A (storeName env x v) (fun _ s₂ => wpC (model prog w) A (execs body env) (TurnR (codeC (model prog w) A (.forLoop (.Name x px) itv body [] env) Rr) Rr) NoE s₂) NoE s₁) NoE s) :
    codeC (model prog w) A (.forLoop (.Name x px) itv body [] env) Rr s := by
  refine codeC_of_tree rfl ?_
  show wpC _ A ((forTurn (.Name x px) itv body [] env).onRaise (fun x => do noteFrame x env; theTreesLotGoes x)) _ _ s
  refine wpC_noRaise ?_
  simp only [forTurn]
  refine wpC_bind (wpC_of (wpAny_standAt ?_))
  refine wpC_bind (wpC_of (wpAny_onRaise (wpAny_mono h (fun r s₁ h₁ => ?_) fun _ _ h' => h'.elim)))
  cases r with
  | none => exact wpC_pure (And.intro rfl (codeC_of (codeAny_block (wpAny_execs_nil h₁))))
  | some v =>
    refine wpC_bind (wpC_pure (wpC_bind (wpC_of (wpAny_assign_Name (wpAny_mono h₁ (fun _ s₂ h₂ => wpC_bind (wpC_mono h₂ (fun f s₃ h₃ => ?_) fun _ _ h' => h')) fun _ _ h' => h')))))
    cases f with
    | next => exact wpC_pure (And.intro rfl h₃)
    | cont => exact wpC_pure (And.intro rfl h₃)
    | brk => exact wpC_pure h₃
    | ret v => exact wpC_pure h₃
end

section
variable {C : Cx} {c : Fm} {A : Around} {ρ : Nat → Addr} {σ σ' : St} {s : Shared} {N : Nat} {NT : List Str} {R : Rec} {RC : RecC} {n k : Nat} {v : AV} {pos : Pos} {fl : AFlow}

theorem forLC_turns (HC : SoundX C N RC n) (O : c.Ok C A n) (hk : k ≤ N) {x : Str} {px : Pos} {nx j : Nat} {b : List S} {body : List Stmt} (hx : enc x = some nx) (hl : c.sc.names.lookup x = some .local)
    (hb : bodyFit (fitS C.K c.sc k) b body = true) {I J : Addr} {Rr : Result → Shared → Prop} (r : Nat) : ∀ {i : Nat} {σ : St} {ρ : Nat → Addr} {s : Shared} {oI : Obj}, forLC RC nx b j r i σ = some (fl, σ') → j < σ.next → ρ j = J → s.heap.IsListIter I J i → SR C (c.at ((I, oI) :: c.X)) ρ σ s.heap →
    (∀ ρ' f h' tk, Ext ρ σ.next ρ' σ'.next → SR C c ρ' σ' h' → FlowR C.V ρ' σ'.next fl f → Rr (.ok f) { s with heap := h', toks := tk }) → codeC (MM C) A (.forLoop (.Name x px) (.ref I) body [] c.env) Rr s := by
  induction r with
  | zero =>
    intro i σ ρ s oI e jlt hρ hit S' q
    refine list_inv e fun us ej e => S'.elim fun m news F N' l Ob nd => Ob.lst N' ej fun its k2 m2 il r2 hlen => ?_
    have hi : us.length = i := of_decide_eq_true (gl e)
    cases so (gr e)
    rw [hρ] at il
    exact codeC_forTurn (wpAny_pyNext_list_end O.hd hit il (arr_end (hlen.symm.trans hi)) fun h₁ he => q ρ .next h₁ s.toks Ext.refl (S'.gone he) rfl)
  | succ r ih =>
    intro i σ ρ s oI e jlt hρ hit S' q
    refine list_inv e fun us ej e => ob_inv e fun u eu e => ob_inv e fun p eb e => S'.elim fun m news F N' l Ob nd => Ob.lst N' ej fun its k2 m2 il r2 hlen => ?_
    obtain ⟨y, ey, hy⟩ := r2.get eu
    rw [hρ] at il
    refine codeC_forTurn (wpAny_pyNext_list_item hit il (x := y) (arr_get ey) fun h₁ hit₁ hs₁ => ?_)
    obtain ⟨oI', hoI', hr⟩ := hit₁
    refine store_sound (c := c.at ((I, oI') :: c.X)) (s := { s with heap := h₁ }) (O.at _) hx hl hy (IterAt.chg S' hs₁ hoI') _ _ fun ρ₂ h₂ t₂ x₂ S₂ => ?_
    refine HC.B (c.at ((I, oI') :: c.X)) A b body (σ.setLoc nx u) p.2 p.1 ρ₂ { s with heap := h₂, toks := t₂ } k (O.at _) hk hb eb S₂ _ _ fun ρ₃ f h₃ t₃ x₃ S₃ f₃ => ?_
    refine flow_turn f₃ e (fun e => ?_) fun w cv h1 h2 h3 hv => ?_
    · exact ih (s := { s with heap := h₃, toks := t₃ }) e (Nat.lt_of_lt_of_le jlt (x₂.trans x₃).1) (((x₂.trans x₃).2 j jlt).trans hρ) ⟨oI', S₃.kept (p := (I, oI')) (.head _), hr⟩ S₃ fun ρ' f h' tk x' => q ρ' f h' tk ((x₂.trans x₃).trans x')
    · subst h1 h2
      exact q ρ₃ (.ret cv) h₃ t₃ (x₂.trans x₃) (S₃.sub (List.sublist_cons_self _ _)) ⟨cv, rfl, hv⟩

theorem s_forLC (H : Sound C N R n) (HC : SoundX C N RC n) (O : c.Ok C A n) (hk : k ≤ N) {x : Str} {px : Pos} {nx : Nat} {b : List S} {i : Expr} {body : List Stmt} (hx : enc x = some nx) (hl : c.sc.names.lookup x = some .local) (h3 : (!isSet i) = true) (hb : bodyFit (fitS C.K c.sc k) b body = true)
    {us : List AV} {j : Nat} (ej : σ.obj j = some (.list us)) (e : forLC RC nx b j us.length 0 σ = some (fl, σ')) (S : SR C c ρ σ s.heap) {Q : Flow → Shared → Prop} {Er : Value → Shared → Prop}
    (q : ∀ ρ' f h' tk, Ext ρ σ.next ρ' σ'.next → SR C c ρ' σ' h' → FlowR C.V ρ' σ'.next fl f → Q f { s with heap := h', toks := tk }) :
    wpAny (MM C) A (pyIter (.ref (ρ j))) (fun it s₂ => wpC (MM C) A (runOwn (.forLoop (.Name x px) it body [] c.env) c.env) Q Er s₂) Er s := S.elim fun m news F N' l Ob nd => Ob.lst N' ej fun its k1 m1 il r1 _ =>
  wpAny_pyIter_list il (wpC_runOwn (forLC_turns (s := { s with heap := s.heap.push _ }) HC O hk hx hl hb us.length e (Ob.get ej).1 rfl ⟨_, Heap.get?_push_size _ rfl, rfl, rfl⟩ (SR.keepNew (X := c.X) S _ rfl) q))
end
end Mine

-- D32
namespace Mine
open PySem PySem.W PySem.Calls PyProof.Rows PySem.SeqAt PySem.MeetsSeq

section
variable {C : Cx} {c : Fm} {A : Around} {ρ : Nat → Addr} {σ σ' : St} {s : Shared} {N : Nat} {NT : List Str} {R : Rec} {RC : RecC} {n k : Nat} {v : AV} {pos : Pos} {fl : AFlow}

theorem s_setC (H : Sound C N R n) (HC : SoundX C N RC n) (G : C.Ok N NT) (O : c.Ok C A n) (hk : k ≤ N) {t : T} {a : X} {u w : Expr} (ht : fitT C.K c.sc k t u = true) (h1 : fitE C.K c.sc k a w = true) (h2 : (!isComp w || !notAttr u) = true) (h3 : (!isTup u || !isTup w) = true)
    (e : execC C.G R RC σ (.set t a) = some (fl, σ')) (S : SR C c ρ σ s.heap) : GCF C c A (exec (.Assign [u] w pos) c.env) ρ σ σ' fl s := fun Q Er q => bd_inv e fun v σ₁ e1 e => ob_inv e fun σ₂ e2 e => by
  cases so e
  rw [exec_Assign]
  refine wpC_bind (wpC_of (wpAny_standAt ?_))
  have hsw : swapsWithSole [u] w pos.line c.env = pure false := swaps_no h2
  obtain ⟨hno, hstar⟩ := target_plain (env := c.env) ht h3 e2
  rw [hsw]
  refine wpC_bind (wpC_pure ?_)
  rw [if_neg (by decide)]
  refine wpC_bind (evalC_sound H HC O hk h1 e1 S _ _ fun ρ₁ cv g₁ t₁ x₁ S₁ v₁ => wpC_of ?_)
  rw [hno]
  refine wpAny_bind (wpAny_pure ?_)
  show wpAny _ _ (assignAll cv ((assignEach [u] c.env).map (·.2)) >>= fun _ => pure Flow.next) _ _ _
  rw [hstar]
  refine wpAny_bind ?_
  show wpAny _ _ (assign u c.env cv) _ _ _
  exact Gives.intoU (σ := σ) x₁ (assign_sound H G O hk ht v₁ e2 S₁) rfl fun ρ' h' tk x' S' => wpAny_pure (q ρ' .next h' tk x' S' rfl)

theorem s_setCompC (H : Sound C N R n) (HC : SoundX C N RC n) (G : C.Ok N NT) (O : c.Ok C A (n + 1)) (hk : k ≤ N) {el i : Expr} {t sx : Str} {tp sp cp p : Pos} {csc : Scope} {tk xk : Nat} {elt a : X} (ht : enc t = some tk) (htl : c.sc.names.lookup t = some .local) (hp : tp.line = cp.line)
    (htn : csc.names.lookup t = none) (hxk : enc sx = some xk) (helt : fitE C.K csc k elt el = true) (h1 : fitE C.K c.sc k a i = true) (hs : (!isSet i) = true) (hcs : compScope csc = true) (hx : csc.names.lookup sx = some .local)
    (e : execC C.G R RC σ (.setComp tk elt xk a) = some (fl, σ')) (S : SR C c ρ σ s.heap) : GCF C c A (exec (.Assign [.Name t tp] (.ListComp el [⟨.Name sx sp, i, [], 0⟩] csc cp) p) c.env) ρ σ σ' fl s := fun Q Er q => by
  refine fit_elt helt e fun y j sy yp nm ap pp e hsy hyl hyd hnm hapl => ?_
  have hyx : y = xk := of_decide_eq_true (gl e)
  subst hyx
  have hsx := enc_inj hsy hxk
  subst hsx
  refine bd_inv (gr e) fun va σ₁ e1 e => ?_
  rw [exec_Assign_Name_used _ _ _ _ (swaps_yes O htl hp htn)]
  refine wpC_bind (wpC_of (wpAny_standAt (wpC_bind ?_)))
  show wpC _ A (do let _ ← comprehension (.ListComp _ [⟨.Name sy sp, i, [], 0⟩] csc cp) csc c.env _ (newList []) false (eval i c.env) (some (assign (.Name t tp) c.env))) _ _ s
  refine wpC_bind ?_
  show wpC _ A (eval i c.env >>= fun x => comprehension (.ListComp _ [⟨.Name sy sp, i, [], 0⟩] csc cp) csc c.env _ (newList []) false (pure x) (some (assign (.Name t tp) c.env))) _ _ s
  refine wpC_bind (evalC_sound H HC (O.less (Nat.le_succ n)) hk h1 e1 S _ _ fun ρ₁ cl g₁ t₁ x₁ S₁ v₁ => wpC_of ?_)
  refine own_inv e v₁ fun jl _ jlt e => ?_
  refine wpAny_mono (setComp_core (s := { s with heap := g₁, toks := t₁ }) (Q := Q) H G O ht htl hs hcs hyl hyd hnm hapl e jlt S₁ fun hf ρ' h' t₂ x' S' => ?_) (fun _ s' hq => wpC_pure (wpC_pure hq)) fun _ _ z => z
  subst hf
  exact q ρ' .next h' t₂ (x₁.trans x') S' rfl

/-- behind the test -/
theorem ite_two (HC : SoundX C N RC n) (O : c.Ok C A n) (hk : k ≤ N) {w : Bool} {a b : List S} {ea eb : List Stmt} (h1 : bodyFit (fitS C.K c.sc k) a ea = true) (h2 : bodyFit (fitS C.K c.sc k) b eb = true)
    (e : cond w (RC.B σ a) (RC.B σ b) = some (fl, σ')) (S : SR C c ρ σ s.heap) : GCF C c A (if w = true then execs ea c.env else execs eb c.env) ρ σ σ' fl s := by
  cases w with
  | true => rw [if_pos rfl]; exact HC.B _ _ _ _ _ _ _ _ _ _ O hk h1 e S
  | false => rw [if_neg (by decide)]; exact HC.B _ _ _ _ _ _ _ _ _ _ O hk h2 e S
theorem s_iteC (H : Sound C N R n) (HC : SoundX C N RC n) (G : C.Ok N NT) (O : c.Ok C A n) (hk : k ≤ N) {t : X} {u : Expr} {a b : List S} {ea eb : List Stmt} (hT : okT t = true) (h0 : fitE C.K c.sc k t u = true) (h1 : bodyFit (fitS C.K c.sc k) a ea = true) (h2 : bodyFit (fitS C.K c.sc k) b eb = true)
    (e : execC C.G R RC σ (.ite t a b) = some (fl, σ')) (S : SR C c ρ σ s.heap) : GCF C c A (exec (.If u ea eb pos) c.env) ρ σ σ' fl s := fun Q Er q => by
  rw [exec_If]
  refine wpC_bind (wpC_of (wpAny_standAt ?_))
  have go : bd (R.E σ t) (fun v σ => onBool v fun c => cond c (RC.B σ a) (RC.B σ b)) = some (fl, σ') → wpC (MM C) A (isTrue u c.env (eval u c.env) >>= fun w => if w = true then execs ea c.env else execs eb c.env) Q Er s := fun e =>
    tr_inv e fun w σ₁ e1 e => wpC_bind (wpC_of (H.T _ _ _ _ _ _ _ _ _ _ O hk h0 hT e1 S _ _ fun ρ₁ g₁ t₁ x₁ S₁ => GCF.done (σ := σ) x₁ (ite_two HC O hk h1 h2 e S₁) rfl q))
  cases t with
  | cmp op x y =>
    clear go
    cases k with
    | zero => exact no h0
    | succ k =>
      have hk' : k ≤ N := Nat.le_of_succ_le hk
      refine bd_inv e fun uv σ₁ e1 e => bd_inv e fun vv σ₂ e2 e => ob_inv e fun w ec e => ?_
      refine onM_inv h0 fun l os es p h0 => one_inv h0 fun o h0 => one_inv h0 fun r h0 => ?_
      cases of_decide_eq_true (al (al (al h0)))
      rw [isTrue_Compare1, markedBehindIn_of_false (behind_of (ar h0))]
      refine wpC_bind (wpC_bind (evalC_sound H HC O hk' (ar (al (al h0))) e1 S _ _ fun ρ₁ ca g₁ t₁ x₁ S₁ w₁ => ?_))
      refine wpC_bind (wpC_holding (evalC_sound H HC O hk' (ar (al h0)) e2 S₁ _ _ fun ρ₂ cb g₂ t₂ x₂ S₂ w₂ => ?_))
      refine wpC_of (wpAny_bind (wpAny_standAt (wpAny_bind (wpAny_operate' ?_))))
      refine cmp_sound G O (w₁.mono x₂) w₂ ec S₂ _ _ fun ρ₃ cv g₃ t₃ x₃ S₃ w₃ => wpAny_holding ?_
      cases w₃
      exact wpAny_truthy_bool (GCF.done (σ := σ) ((x₁.trans x₂).trans x₃) (ite_two HC O hk h1 h2 e S₃) rfl q)
  | _ => exact go e

theorem tLoc_eq {t : T} {nx : Nat} (h : tLoc t = some nx) : t = .loc nx := by cases t <;> first | exact congrArg T.loc (so h) | exact nso h
theorem s_forC (H : Sound C N R n) (HC : SoundX C N RC n) (O : c.Ok C A n) (hk : k ≤ N) {nx : Nat} {it : X} {b : List S} {u i : Expr} {body : List Stmt} (h1 : fitT C.K c.sc k (.loc nx) u = true) (h2 : fitE C.K c.sc k it i = true) (h3 : (!isSet i) = true) (h4 : bodyFit (fitS C.K c.sc k) b body = true)
    (e : bd (R.E σ it) (fun v σ => onOwn v fun j => ob (σ.obj j) fun o => forOC R RC σ nx b j o) = some (fl, σ')) (S : SR C c ρ σ s.heap) : GCF C c A (exec (.For u i body [] pos) c.env) ρ σ σ' fl s := fun Q Er q => bd_inv e fun va σ₁ e1 e => by
  refine onN_inv h1 fun sx sp h1 => ?_
  cases va with
  | own j =>
    refine ob_inv e fun ao ej e => ?_
    cases ao with
    | list us =>
      rw [exec_For]
      refine wpC_bind (wpC_of (wpAny_standAt ?_))
      refine wpC_bind (wpC_of (H.E _ _ _ _ _ _ _ _ _ _ O hk h2 e1 S _ _ fun ρ₁ cv g₁ t₁ x₁ S₁ v₁ => ?_))
      obtain ⟨jlt, rfl⟩ := v₁
      refine wpC_bind (wpC_of (wpAny_of_eq (noSet h3 c.env _) ?_))
      refine wpC_bind (wpC_of (wpAny_standAt (wpC_bind (wpC_holding (wpC_of ?_)))))
      exact s_forLC (s := { s with heap := g₁, toks := t₁ }) H HC O hk (encIs_eq (al h1)) (of_decide_eq_true (ar h1)) h3 h4 ej e S₁ fun ρ' f h' tk x' S' f' => q ρ' f h' tk (x₁.trans x') S' f'
    | tuple us => exact (s_for (t := .loc nx) (pos := pos) H O hk (by show (encIs sx nx && _) = true; exact h1) h2 h3 h4 (by show bd (R.E σ it) _ = _; rw [e1]; show ob (σ₁.obj j) _ = _; rw [ej]; exact e) S).toC Q Er q
    | _ => exact nso e
  | _ => exact nso e

theorem step_execC (H : Sound C N R n) (HC : SoundX C N RC n) (G : C.Ok N NT) (O : c.Ok C A (n + 1)) (hk : k ≤ N) {x : S} {st : Stmt} (hf : fitS C.K c.sc k x st = true) (e : execC C.G R RC σ x = some (fl, σ')) (S : SR C c ρ σ s.heap) :
    GCF C c A (exec st c.env) ρ σ σ' fl s := by
  have O' := O.less (Nat.le_succ n)
  have any : execA C.G R σ x = some (fl, σ') → GCF C c A (exec st c.env) ρ σ σ' fl s := fun e => (step_exec H G O hk hf e S).toC
  cases k with
  | zero => exact no hf
  | succ k =>
    have hk' : k ≤ N := Nat.le_of_succ_le hk
    cases x with
    | set t a => exact onAs_inv hf fun us w p hf => one_inv hf fun u hf => s_setC H HC G O' hk' (al (al (al hf))) (ar (al (al hf))) (ar (al hf)) (ar hf) e S
    | setComp kk elt x a =>
      refine onAs_inv hf fun us w p hf => one_inv hf fun u hf => onNP_inv hf fun t tp hf => onG_inv hf fun el gs csc cp hf => gen1_inv hf fun sx sp i hf => ?_
      have h := al (al (al (al (al hf))))
      exact s_setCompC H HC G O hk' (encIs_eq (al (al (al (al h))))) (of_decide_eq_true (ar (al (al (al h))))) (of_decide_eq_true (ar (al (al h)))) (of_decide_eq_true (ar (al h))) (encIs_eq (ar h)) (ar (al (al (al (al hf))))) (ar (al (al (al hf)))) (ar (al (al hf))) (ar (al hf)) (of_decide_eq_true (ar hf)) e S
    | ret a =>
      refine onRe_inv hf fun w p hf => sm_inv hf fun w hf Q Er q => bd_inv e fun v σ₁ e1 e => ?_
      cases so e
      rw [exec_Return_some]
      exact wpC_bind (wpC_of (wpAny_standAt (wpC_bind (evalC_sound H HC O' hk' hf e1 S _ _ fun ρ₁ cv g₁ t₁ x₁ S₁ v₁ => wpC_pure (q ρ₁ (.ret cv) g₁ t₁ x₁ S₁ ⟨cv, rfl, v₁⟩)))))
    | expr a =>
      refine onEx_inv hf fun w p hf Q Er q => bd_inv e fun v σ₁ e1 e => ?_
      cases so e
      rw [exec_Expr _ _ _ (not_interactive O') (swaps_none (ar hf))]
      exact wpC_bind (wpC_of (wpAny_standAt (wpC_bind (evalC_sound H HC O' hk' (al hf) e1 S _ _ fun ρ₁ cv g₁ t₁ x₁ S₁ v₁ => wpC_of (wpAny_dropValue (q ρ₁ .next g₁ t₁ x₁ S₁ rfl))))))
    | ite t a b => exact onIf_inv hf fun u l r p hf => s_iteC H HC G O' hk' (al (al (al hf))) (ar (al (al hf))) (ar (al hf)) (ar hf) e S
    | forL t it b =>
      have e' : (match tLoc t with | some n => bd (R.E σ it) fun v σ => onOwn v fun j => ob (σ.obj j) fun o => forOC R RC σ n b j o | none => execA C.G R σ (.forL t it b)) = some (fl, σ') := e
      cases ht : tLoc t with
      | none => rw [ht] at e'; exact any e'
      | some nx =>
        rw [ht] at e'
        clear any
        cases tLoc_eq ht
        exact onFo_inv hf fun u i body r p hf => nil_inv (ar hf) (s_forC H HC O' hk' (al (al (al (al hf)))) (ar (al (al (al hf)))) (ar (al (al hf))) (ar (al hf)) e' S)
    | any => exact any e
    | swap ks a => exact any e
    | ret0 => exact any e
    | while0 t => exact any e
    | forR kk it b => exact any e

theorem execs_nilC {Q : Flow → Shared → Prop} {Er : Value → Shared → Prop} (h : Q .next s) {env : Env} : wpC (MM C) A (execs [] env) Q Er s := wpC_of (wpAny_execs_nil h)

theorem stepBC (H : Sound C N R n) (HC : SoundX C N RC n) (G : C.Ok N NT) : ∀ (c : Fm) (A : Around) (x : List S) (e : List Stmt) (σ σ' : St) (fl : AFlow) (ρ : Nat → Addr) (s : Shared) (k : Nat),
    c.Ok C A (n + 1) → k ≤ N → bodyFit (fitS C.K c.sc k) x e = true → blockC C.G R RC x σ = some (fl, σ') → SR C c ρ σ s.heap → GCF C c A (execs e c.env) ρ σ σ' fl s := by
  intro c A x
  induction x with
  | nil =>
    intro e σ σ' fl ρ s k O hk hf he S
    cases e with
    | nil => cases he; exact fun Q Er q => execs_nilC (q ρ .next s.heap s.toks Ext.refl S rfl)
    | cons => exact no hf
  | cons x xs ih =>
    intro e σ σ' fl ρ s k O hk hf he S
    cases e with
    | nil => exact no hf
    | cons st rest =>
      refine fun Q Er q => ob_inv he fun p e1 e2 => ?_
      rw [execs_cons]
      refine wpC_bind (step_execC H HC G O hk (al hf) e1 S _ _ fun ρ₁ f g₁ t₁ x₁ S₁ f₁ => ?_)
      obtain ⟨a, σ₁⟩ := p
      cases a with
      | next =>
        cases f₁
        exact GCF.done (σ := σ) x₁ (ih rest σ₁ σ' fl ρ₁ { s with heap := g₁, toks := t₁ } k O hk (ar hf) e2 S₁) rfl q
      | ret u =>
        cases so e2
        obtain ⟨cv, rfl, hcv⟩ := f₁
        exact wpC_pure (q ρ₁ (.ret cv) g₁ t₁ x₁ S₁ ⟨cv, rfl, hcv⟩)

theorem ba_soundC (S : SR C c ρ σ s.heap) : GC C c A (call (.type "bytearray") [] []) ρ σ (σ.new .barr) (.own σ.next) s := fun Q Er q => S.elim fun m news F N' l Ob nd =>
  call_ba (SR.push0 (c := c) F N' l Ob nd (ao := .barr) (o := barrOf) rfl rfl fun ρ' y1 y2 y3 => q _ _ _ s.toks y1 y2 y3)

theorem isBA_eq {b : Bi} (h : isBA b = true) : b = .bytearray := by cases b <;> first | rfl | exact no h
theorem callCC_sound (h12 : 12 ≤ n ∨ C.G.CT = []) (H : Sound C N R n) (HC : SoundX C N RC n) (G : C.Ok N NT) : ∀ (c : Fm) (A : Around) (f : AV) (vs : List AV) (σ σ' : St) (v : AV) (ρ : Nat → Addr) (s : Shared) (cf : Value) (cvs : List Value),
    c.Ok C A (n + 1) → VR C.V ρ σ.next f cf → F2 (VR C.V ρ σ.next) vs cvs → callC C.G R RC σ f vs = some (v, σ') → SR C c ρ σ s.heap → GC C c A (call cf cvs []) ρ σ σ' v s := by
  intro c A f vs σ σ' v ρ s cf cvs O hf hv e S
  have O' := O.less (Nat.le_succ n)
  cases f with
  | fn a =>
    cases hf
    exact fun Q Er q => wpC_call (callFC_sound (R := R) h12 HC G O hv (a := a) e S _ q)
  | cls a =>
    cases hf
    refine ob_inv e fun k ek e => bd_inv e fun u σ₂ ei e => ?_
    cases u with
    | none => cases so e; exact clsC_sound HC G O ek hv ei S
    | _ => exact nso e
  | bi b =>
    have e : cond (isBA b) (gd vs.isEmpty (some (.own σ.next, σ.new .barr))) (R.C σ (.bi b) vs) = some (v, σ') := e
    cases hb : isBA b with
    | true =>
      rw [hb] at e
      cases isBA_eq hb
      cases hf
      cases empty_inv (gl e) hv
      cases so (gr e)
      exact ba_soundC S
    | false => rw [hb] at e; exact (H.C _ _ _ _ _ _ _ _ _ _ _ O' hf hv e S).toC
  | none => exact (H.C _ _ _ _ _ _ _ _ _ _ _ O' hf hv e S).toC
  | bool => exact (H.C _ _ _ _ _ _ _ _ _ _ _ O' hf hv e S).toC
  | int => exact (H.C _ _ _ _ _ _ _ _ _ _ _ O' hf hv e S).toC
  | str => exact (H.C _ _ _ _ _ _ _ _ _ _ _ O' hf hv e S).toC
  | bytes => exact (H.C _ _ _ _ _ _ _ _ _ _ _ O' hf hv e S).toC
  | own => exact (H.C _ _ _ _ _ _ _ _ _ _ _ O' hf hv e S).toC
  | scr => exact (H.C _ _ _ _ _ _ _ _ _ _ _ O' hf hv e S).toC

theorem keepC_sound (R : Rec) (RC : RecC) (hk : ∀ σ f vs r, R.C σ f vs = some r → Callable C f) (G : C.Ok N NT) : ∀ σ f vs r, callC C.G R RC σ f vs = some r → Callable C f := by
  intro σ f vs r e
  cases f with
  | fn a => exact fn_callable (σ := σ) (f := fun fd => callDefC RC σ fd vs) G e
  | cls a => exact ob_inv e fun k ek _ => cls_callable G ek
  | bi b => trivial
  | _ => exact hk _ _ _ _ e

/-- mode C is sound -/
theorem recsC_sound {C : Cx} {N : Nat} {NT : List Str} (G : C.Ok N NT) (n : Nat) : SoundX C N (recsC C.G n) (12 + n) := by
  induction n with
  | zero => exact ⟨fun σ f vs r h => nso h, fun c A x e σ σ' fl ρ s k O hk hf he S => nso he, fun c A a vs σ σ' v ρ s cvs O hv he S => nso he, fun c A f vs σ σ' v ρ s cf cvs O hf hv he S => nso he⟩
  | succ n HC =>
    have H := recs_sound G 12 (.inl (Nat.le_refl _)) n
    have h12 : 12 ≤ 12 + n ∨ C.G.CT = [] := .inl (Nat.le_add_right 12 n)
    exact ⟨keepC_sound (recs C.G n) (recsC C.G n) H.keep G, stepBC H HC G, fun c A a vs σ σ' v ρ s cvs O hv he S => callFC_sound (R := recs C.G n) h12 HC G O hv he S, callCC_sound h12 H HC G⟩
end
end Mine

-- D33
namespace Mine
open PySem PySem.W PySem.Calls PyProof.Rows PySem.SeqAt PySem.MeetsSeq PySem.Spec PyProof.V

noncomputable def evPairs (E : St → X → Option (AV × St)) : List (X × X) → St → Option (List (AV × AV) × St)
  | [], σ => some ([], σ)
  | p :: ps, σ => bd (E σ p.1) fun a σ => bd (E σ p.2) fun b σ => ob (evPairs E ps σ) fun q => some ((a, b) :: q.1, q.2)
noncomputable def pairsFit (f : X → Expr → Bool) : List (X × X) → List (Option Expr) → List Expr → Bool
  | [], ks, vs => nil ks && nil vs
  | p :: ps, ks, vs => match ks with
    | ke :: ks => match vs with
      | ve :: vs => sm ke (fun ke => f p.1 ke) && f p.2 ve && pairsFit f ps ks vs
      | [] => false
    | [] => false
noncomputable def strIs (s : Str) (x : AV) : Bool := match x with
  | .str k => encIs s k
  | _ => false
noncomputable def keyO (σ : St) (t : Str × Str × Str) (p : AV × AV) : Option Unit := onOwn p.1 fun j => σ.tup j fun vs => on2 vs fun x y => gd (strIs t.1 x && strIs t.2.1 y && strIs t.2.2 p.2) (some ())
noncomputable def keysOk (σ : St) : List (Str × Str × Str) → List (AV × AV) → Bool
  | [], l => l.isEmpty
  | t :: T, l => match l with
    | p :: l => decide (keyO σ t p = some ()) && keysOk σ T l
    | [] => false
noncomputable def tabD (T : List (Str × Str × Str)) : List (PyData × PyData) := T.map fun t => (encTuple PyData.str [t.1, t.2.1], PyData.str t.2.2)
noncomputable def dictFit (K : Frag) (N a : Nat) (P : List (X × X)) : Bool := oany (K.lookup a) fun o => onFn o fun fd => onBd fd.body fun body => one body fun st => onRe st fun v => sm v fun v => onD v fun ks vs => pairsFit (fitE K fd.scope N) P ks vs && tupFirst ks && decide (ks.length ≤ 15)

section
variable {C : Cx} {c : Fm} {A : Around} {ρ : Nat → Addr} {σ σ' : St} {s : Shared} {N : Nat} {NT : List Str} {R : Rec} {n k : Nat} {v : AV} {pos : Pos}

theorem pairs_sound (H : Sound C N R n) (O : c.Ok C A n) (hk : k ≤ N) {P : List (X × X)} : ∀ {ks : List (Option Expr)} {vs : List Expr} {σ σ' : St} {l : List (AV × AV)} {ρ : Nat → Addr} {s : Shared} {Q : List (Value × Value) → Shared → Prop} {Er : Value → Shared → Prop},
    pairsFit (fitE C.K c.sc k) P ks vs = true → evPairs R.E P σ = some (l, σ') → SR C c ρ σ s.heap →
    (∀ ρ' cvs h' tk, Ext ρ σ.next ρ' σ'.next → SR C c ρ' σ' h' → F2 (fun p q => VR C.V ρ' σ'.next p.1 q.1 ∧ VR C.V ρ' σ'.next p.2 q.2) l cvs → Q cvs { s with heap := h', toks := tk }) →
    wpAny (MM C) A (evalPairs (pairTrees ks vs c.env pos)) Q Er s := by
  induction P with
  | nil =>
    intro ks vs σ σ' l ρ s Q Er hf he S q
    cases he
    exact nil_inv (al hf) (nil_inv (ar hf) (pairTrees_nil_walk (q ρ [] s.heap s.toks Ext.refl S .nil)))
  | cons p P ih =>
    intro ks vs σ σ' l ρ s Q Er hf he S q
    cases ks with
    | nil => exact no hf
    | cons ke ks =>
      cases vs with
      | nil => exact no hf
      | cons ve vs =>
        refine bd_inv he fun a σ₁ e1 he => bd_inv he fun b σ₂ e2 he => ob_inv he fun p' e3 he => ?_
        cases so he
        refine sm_inv (al (al hf)) fun ke h1 => pairTrees_cons_walk (H.E _ _ _ _ _ _ _ _ _ _ O hk h1 e1 S _ _ fun ρ₁ ca g₁ t₁ x₁ S₁ v₁ => H.E _ _ _ _ _ _ _ _ _ _ O hk (ar (al hf)) e2 S₁ _ _ fun ρ₂ cb g₂ t₂ x₂ S₂ v₂ => ?_)
        exact ih (ar hf) e3 S₂ fun ρ₃ cvs h' tk x₃ S₃ vs₃ => q ρ₃ ((ca, cb) :: cvs) h' tk ((x₁.trans x₂).trans x₃) S₃ (.cons ⟨(v₁.mono x₂).mono x₃, v₂.mono x₃⟩ vs₃)

theorem str_inv {V : Nat → Int} {m : Nat} {s : Str} {x : AV} {cv : Value} (h : strIs s x = true) (hv : VR V ρ m x cv) : ∃ t, cv = .str s t := by
  cases x with
  | str k =>
    obtain ⟨s', t, rfl, e⟩ := hv
    exact ⟨t, by rw [enc_inj e (encIs_eq h)]⟩
  | _ => exact no h
theorem key_inv {V : Nat → Int} {m : Nat} {prog : Program} {w : World} {X news : List (Addr × Obj)} (Ob : Objs X V ρ m prog w σ.objs news) {t : Str × Str × Str} {p : AV × AV} {q : Value × Value} (h : keyO σ t p = some ()) (h1 : VR V ρ m p.1 q.1) (h2 : VR V ρ m p.2 q.2) :
    ∃ j t1 t2 t3, q = (.ref (ρ j), .str t.2.2 t3) ∧ (ρ j, tupOf [Value.str t.1 t1, Value.str t.2.1 t2].toArray) ∈ news := by
  obtain ⟨q1, q2⟩ := q
  refine own_inv (P := fun q1 => ∃ j t1 t2 t3, (q1, q2) = (.ref (ρ j), .str t.2.2 t3) ∧ (ρ j, tupOf [Value.str t.1 t1, Value.str t.2.1 t2].toArray) ∈ news) h h1 fun j _ _ h => tup_inv h fun vs ej h => ?_
  obtain ⟨_, o, mo, its, rfl, r3⟩ := Ob.get ej
  revert mo
  refine on2_inv (P := fun its => (ρ j, tupOf its.toArray) ∈ news → _) h r3 fun x y cx cy h hx hy mo => ?_
  obtain ⟨t1, rfl⟩ := str_inv (al (al (gl h))) hx
  obtain ⟨t2, rfl⟩ := str_inv (ar (al (gl h))) hy
  obtain ⟨t3, rfl⟩ := str_inv (ar (gl h)) h2
  exact ⟨j, t1, t2, t3, rfl, mo⟩
theorem keys_in {news : List (Addr × Obj)} {X : List (Addr × Obj)} (Ob : Objs X C.V ρ σ.next C.prog C.w σ.objs news) {T : List (Str × Str × Str)} : ∀ {l : List (AV × AV)} {cvs : List (Value × Value)}, keysOk σ T l = true →
    F2 (fun p q => VR C.V ρ σ.next p.1 q.1 ∧ VR C.V ρ σ.next p.2 q.2) l cvs → KeysIn (strKind C.prog C.w) PyData.str news cvs (tabD T) := by
  induction T with
  | nil =>
    intro l cvs h hv
    cases isEmpty_eq h
    cases hv
    exact .nil
  | cons t T ih =>
    intro l cvs h hv
    cases hv with
    | nil => exact no h
    | cons r rs =>
      obtain ⟨j, t1, t2, t3, rfl, mo⟩ := key_inv Ob (of_decide_eq_true (al h)) r.1 r.2
      exact .cons mo (TupKeyObj.made (.cons (strKind_is _ _ _ _) (.cons (strKind_is _ _ _ _) .nil))) (Flat.str _ _) (ih (ar h) rs)

theorem pairs_len {f : X → Expr → Bool} {P : List (X × X)} : ∀ {ks : List (Option Expr)} {vs : List Expr}, pairsFit f P ks vs = true → ks.all (·.isSome) = true ∧ ks.length = vs.length := by
  induction P with
  | nil => exact fun h => nil_inv (al h) (nil_inv (ar h) ⟨rfl, rfl⟩)
  | cons p P ih =>
    intro ks vs h
    cases ks with
    | nil => exact no h
    | cons k ks =>
      cases vs with
      | nil => exact no h
      | cons v vs => exact sm_inv (P := fun k => (k :: ks).all (·.isSome) = true ∧ (k :: ks).length = (v :: vs).length) (al (al h)) fun e _ => ⟨(ih (ar h)).1, congrArg Nat.succ (ih (ar h)).2⟩
theorem tup_ne {ks : List (Option Expr)} (h : tupFirst ks = true) : ks ≠ [] := fun z => by subst z; exact no h
theorem ld_get (O : c.Ok C A n) {x : Str} {v : Value} {m : Str → Option Value} {p : Pos} {Q Er : Value → Shared → Prop} (F : Fr c.h₀ c.L s.heap m) (hm : m x = some v) (hl : c.sc.names.lookup x = some .local) (hd : x ≠ "__debug__") (q : Q v s) :
    wpAny (MM C) A (eval (.Name x p) c.env) Q Er s := ld F hm q O.kind hl (ne_debug hd)
theorem body_of {K : Frag} {a : Nat} {fd : CFn} {name qual : Str} {params : Arguments} {body : List Stmt} {scope : Scope} {dV kV doc pm cdv ct : Value} {o : Obj} {an : Option Addr} {f : FuncData → Bool} (W : FnOk K N a fd name qual params body scope dV kV doc pm cdv ct o an) (h : oany (K.lookup a) (fun o => onFn o f) = true) : f (fnOf name qual params body scope dV kV doc pm an cdv ct) = true := by
  rw [W.at_] at h
  have h : onFn o f = true := h
  unfold onFn at h
  rw [W.data] at h
  exact h

/-- a dict is made by tuples of strs -/
theorem dict_sound (H : Sound C N R n) (O : c.Ok C A n) {P : List (X × X)} {T : List (Str × Str × Str)} {l : List (AV × AV)} {σ₇ : St} {m : Str → Option Value} {news : List (Addr × Obj)} {Q Er : Value → Shared → Prop} {ks : List (Option Expr)} {vs : List Expr}
    (hd : (pairsFit (fitE C.K c.sc N) P ks vs && tupFirst ks && decide (ks.length ≤ 15)) = true) (he : evPairs R.E P { loc := [], objs := [], next := 0 } = some (l, σ₇)) (hT : keysOk σ₇ T l = true) (hlen : T.length ≤ 100)
    (F : Fr c.h₀ c.L s.heap m) (N' : News c.h₀ c.L s.heap news) (nd : Nd (news.map (·.1)))
    (q : ∀ h' tk d news' m', Fr c.h₀ c.L h' m' → News c.h₀ c.L h' news' → TupTab (strKind C.prog C.w) PyData.str news' d (putAllT (tabD T) []) → (∀ p ∈ news, p ∈ news') → Q (.ref d) { s with heap := h', toks := tk }) :
    wpAny (MM C) A (eval (.Dict ks vs pos) c.env) Q Er s := by
  obtain ⟨h1, h2⟩ := pairs_len (al (al hd))
  refine Dict_tup_made (ar (al hd)) F N' (modules_low O.T.nolimit) h1 h2 (tup_ne (ar (al hd))) (of_decide_eq_true (ar hd)) fun o F3 N3 lo isd => ?_
  generalize hD : s.heap.objs.size = D at *
  have hlt : ∀ p ∈ news, p.1 ≠ D := fun p hp => Nat.ne_of_lt (hD ▸ Heap.lt_size (N' p hp).1)
  have nd1 : Nd (((D, o) :: news).map (·.1)) := List.nodup_cons.mpr ⟨fun hm => (List.mem_map.mp hm).elim fun p z => hlt p z.1 z.2, nd⟩
  have S0 : SR C (c.at ((D, o) :: news)) (fun _ => 0) { loc := [], objs := [], next := 0 } (s.heap.push { cls := .type "dict", data := .dict #[] }) := ⟨_, (D, o) :: news, F3, N3, (fun _ _ _ _ z => nomatch z), ⟨[], rfl, .nil⟩, nd1⟩
  refine pairs_sound (c := c.at ((D, o) :: news)) (ρ := fun _ => 0) (s := { s with heap := s.heap.push { cls := .type "dict", data := .dict #[] } }) H (O.at _) (Nat.le_refl N) (al (al hd)) he S0 fun ρ₁ cvs h₂ t₂ x₂ S₂ v₂ => S₂.elim fun m₂ news₂ F₂ N₂ l₂ Ob₂ nd₂ => ?_
  have hmem : ∀ p ∈ (D, o) :: news, p ∈ news₂ := by
    obtain ⟨own, rfl, _⟩ := Ob₂
    exact fun p hp => List.mem_append_right _ hp
  refine TupStores.intro (s := { s with heap := h₂, toks := t₂ }) same_str (by have := O.units; omega) F₂ N₂ (TupTab.ofEmpty (hmem _ (.head _)) lo isd) (keys_in Ob₂ hT v₂) (fun h₅ news₅ t₅ F₅ N₅ T₅ keep => ?_) (by unfold tabD; rw [List.length_map, sizeLine_eq]; omega)
  exact q h₅ t₅ D news₅ _ F₅ N₅ T₅ fun p hp => keep p (hmem p (.tail _ hp)) (hlt p hp)
/-- a call of a def that gives a dict by tuples of strs -/
theorem open_call (H : Sound C N R n) (O : c.Ok C A (n + 1)) {a : Nat} {P : List (X × X)} {T : List (Str × Str × Str)} {l : List (AV × AV)} {σ₇ : St} {m : Str → Option Value} {news : List (Addr × Obj)} {Rr : Result → Shared → Prop}
    (hf : fnFit C.K N a ⟨[], [], [.any]⟩ = true) (hd : dictFit C.K N a P = true) (he : evPairs R.E P { loc := [], objs := [], next := 0 } = some (l, σ₇)) (hT : keysOk σ₇ T l = true) (hlen : T.length ≤ 100)
    (F : Fr c.h₀ c.L s.heap m) (N' : News c.h₀ c.L s.heap news) (nd : Nd (news.map (·.1)))
    (k : ∀ h' tk d news', Fr c.h₀ c.L h' m → News c.h₀ c.L h' news' → TupTab (strKind C.prog C.w) PyData.str news' d (putAllT (tabD T) []) → (∀ p ∈ news, p ∈ news') → Rr (.ok (.ret (.ref d))) { s with heap := h', toks := tk }) :
    codeAny (MM C) A (.call (.ref a) ⟨[], []⟩) Rr s := fn_inv hf fun name qual params body scope dV kV doc pm cdv ct o an W => by
  have X := O.X.keeps F.keep
  refine enter W X (V := C.V) (ρ := fun _ => 0) (m := 0) .nil rfl (fun binds hb hloc _ => ?_) W.len
  refine callX_plain (cl := []) (binds := binds) O.B F N' O.T.nolimit O.fr rfl O.kind (X _ _ W.at_) W.data (codeRec_of X W.code) O.deep hb hloc (fun g L' h₁ Fg F' N'' B' st _ => ?_) W.cell W.co W.gen W.kind
  have h := body_of W hd
  have O' : (c.sub A qual scope L' a cdv g c.X).Ok C (A.deeper (envOf qual scope L' a cdv)) n := O.sub B' st W.kind
  refine one_inv (P := fun body => wpAny _ _ (execs body (c.sub A qual scope L' a cdv g c.X).env) _ _ _) h fun st h => onRe_inv (P := fun st => wpAny _ _ (execs [st] (c.sub A qual scope L' a cdv g c.X).env) _ _ _) h fun v p h => sm_inv (P := fun v => wpAny _ _ (execs [.Return v p] (c.sub A qual scope L' a cdv g c.X).env) _ _ _) h fun v h =>
    onD_inv (P := fun v => wpAny _ _ (execs [.Return (some v) p] (c.sub A qual scope L' a cdv g c.X).env) _ _ _) h fun ks vs p h => wpAny_execs_cons (wpAny_Return_some ?_)
  exact dict_sound (s := { s with heap := h₁, toks := s.toks + binds.length }) H O' h he hT hlen F' N'' nd fun h' tk d news' m' F₅ N₅ T₅ keep => leaveK_ F₅ N₅ fun F₆ N₆ => k h' tk d news' F₆ N₆ T₅ keep
end
end Mine

-- D34
namespace Mine
open PySem PySem.W PySem.Calls PyProof.Rows PySem.SeqAt PySem.MeetsSeq PySem.Spec PyProof.V

noncomputable def locN (sc : Scope) (k : Nat) (e : Expr) : Bool := onN e fun s => encIs s k && decide (s ≠ "__debug__") && decide (sc.names.lookup s = some .local)
/-- a bare call of one def -/
noncomputable def bareC (K : Frag) (sc : Scope) (N ao : Nat) (o : Expr) : Bool := onC o fun f0 es0 ks0 _ => nil es0 && nil ks0 && notAttr f0 && fitE K sc N (.glob (.fn ao)) f0
/-- found = opening_steps().get((state, event)) -/
noncomputable def foundS (K : Frag) (sc : Scope) (N ao ks ke kf : Nat) (st : Stmt) : Bool := onAs st fun us v => one us fun u => onC v fun g0 es kws pp => nil kws && onA g0 (fun o g ap => plainBase o && bareC K sc N ao o && decide (g = Str.ofString "get") && decide (ap.endLine = pp.line)) &&
  one es (fun tu => onT tu fun ts => two ts fun a b => locN sc ks a && locN sc ke b) && onN u fun ft => encIs ft kf && decide (sc.names.lookup ft = some .local)
noncomputable def foundFit (K : Frag) (N a ao : Nat) (ks ke kf : Nat) : Bool := oany (K.lookup a) fun o => onFn o fun fd => onBd fd.body fun body => oany body[3]? fun st => foundS K fd.scope N ao ks ke kf st
noncomputable def keyF (ks ke a b : Nat) : St := { loc := [(ks, .str a), (ke, .str b)], objs := [], next := 0 }

section
variable {C : Cx} {c : Fm} {A : Around} {ρ : Nat → Addr} {σ σ' : St} {s : Shared} {N : Nat} {NT : List Str} {R : Rec} {n k : Nat} {v : AV} {pos : Pos}

theorem empty_ledger {X news : List (Addr × Obj)} {V : Nat → Int} {p : Program} {w : World} (Ob : Objs X V ρ n p w [] news) : news = X := by
  obtain ⟨own, rfl, h⟩ := Ob
  cases h
  rfl
theorem body5 {f : S → Stmt → Bool} {S1 S2 S3 S4 S5 : S} {body : List Stmt} {P : List Stmt → Prop} (h : bodyFit f [S1, S2, S3, S4, S5] body = true) (k : ∀ e1 e2 e3 e4 e5, f S1 e1 = true → f S2 e2 = true → f S3 e3 = true → f S5 e5 = true → P [e1, e2, e3, e4, e5]) : P body := by
  cases body with
  | nil => exact no h
  | cons e1 body => cases body with
    | nil => exact no (ar h)
    | cons e2 body => cases body with
      | nil => exact no (ar (ar h))
      | cons e3 body => cases body with
        | nil => exact no (ar (ar (ar h)))
        | cons e4 body => cases body with
          | nil => exact no (ar (ar (ar (ar h))))
          | cons e5 body => cases body with
            | nil => exact k e1 e2 e3 e4 e5 (al h) (al (ar h)) (al (ar (ar h))) (al (ar (ar (ar (ar h)))))
            | cons => exact no (ar (ar (ar (ar (ar h)))))

/-- what is asked for in the dict -/
theorem ask_sound (O : c.Ok C A (n + 1)) {T : List (Str × Str × Str)} {m : Str → Option Value} {news : List (Addr × Obj)} {d : Addr} {st ev s1 s2 s3 : Str} {sp ep tp : Pos} {kk : Nat} {u1 u2 : Tok} {pl : Sem Bool} {Q Er : Value → Shared → Prop}
    (F : Fr c.h₀ c.L s.heap m) (N' : News c.h₀ c.L s.heap news) (T' : TupTab (strKind C.prog C.w) PyData.str news d (putAllT (tabD T) [])) (hm1 : m st = some (.str s1 u1)) (hl1 : c.sc.names.lookup st = some .local) (hd1 : st ≠ "__debug__") (hm2 : m ev = some (.str s2 u2)) (hl2 : c.sc.names.lookup ev = some .local) (hd2 : ev ≠ "__debug__")
    (hg : (lookup (encTuple PyData.str [s1, s2]) (putAllT (tabD T) [])).getD .none = PyData.str s3)
    (q : ∀ h' t tk, Fr c.h₀ c.L h' m → News c.h₀ c.L h' news → Q (.str s3 t) { s with heap := h', toks := tk }) :
    wpAny (MM C) A (getMethod (.ref d) (Str.ofString "get") pl) (fun fx s₂ => wpAny (MM C) A (callWith pos fx.1 fx.2 (backTo pos (starEach [.Tuple [.Name st sp, .Name ev ep] kk tp] c.env)) []) Q Er s₂) Er s := by
  refine getMethod_tabH PySem.F.slot_dict_get PySem.F.type_dict_get (T'.at N') ?_
  refine callWith_of (P := fun _ => True) rfl (fun h _ => ⟨_, .inr (.inl rfl), .now⟩) (evalArgs_plain ?_)
  refine spliced_more (wpAny_Tuple (spliced_more (ld_get O F hm1 hl1 hd1 (spliced_more (ld_get O F hm2 hl2 hd2 (Calls.spliced_nil ⟨by rw [sizeLine_eq]; show 2 ≤ 16777216; decide, ?_⟩))))))
  refine Calls.spliced_nil ⟨trivial, ?_⟩
  have N₆ := N'.push F { cls := .type "tuple", data := .seq [Value.str s1 u1, Value.str s2 u2].toArray } rfl
  refine call_get1_tupTab same_str (by have := O.units; omega) N₆ (T'.cons _) (.head _) (TupKeyObj.made (.cons (strKind_is _ _ _ _) (.cons (strKind_is _ _ _ _) .nil))) fun v hv9 => ?_
  rw [hg] at hv9
  obtain ⟨t₉, rfl⟩ : ∃ t, v = .str s3 t := by
    cases hv9 s.heap
    exact ⟨_, rfl⟩
  exact q _ t₉ _ (F.push _) fun p hp => N₆ p (.tail _ hp)

theorem found_sound (H : Sound C N R n) (G : C.Ok N NT) (O : c.Ok C A (n + 1)) {ao ks ke kf : Nat} {P : List (X × X)} {T : List (Str × Str × Str)} {l : List (AV × AV)} {σ₇ : St} {x y z : Nat} {s1 s2 s3 : Str} {e : Stmt} (hne : ke ≠ ks)
    (hff : foundS C.K c.sc N ao ks ke kf e = true)
    (hfo : fnFit C.K N ao ⟨[], [], [.any]⟩ = true) (hd : dictFit C.K N ao P = true) (he : evPairs R.E P { loc := [], objs := [], next := 0 } = some (l, σ₇)) (hT : keysOk σ₇ T l = true) (hlen : T.length ≤ 100)
    (hx : enc s1 = some x) (hy : enc s2 = some y) (hz : enc s3 = some z) (hg : (lookup (encTuple PyData.str [s1, s2]) (putAllT (tabD T) [])).getD .none = PyData.str s3)
    (e4 : R.E (keyF ks ke x y) (.glob (.fn ao)) = some (.fn ao, keyF ks ke x y)) (S : SR C c ρ (keyF ks ke x y) s.heap) : GivesF C c A (exec e c.env) ρ (keyF ks ke x y) ((keyF ks ke x y).setLoc kf (.str z)) .next s := by
  have O1 := O.less (Nat.le_succ n)
  have hkp : keepIn C.K (.ref ao) = true := fn_inv hfo fun _ _ _ _ _ _ _ _ _ _ _ _ _ Wo => Wo.keep
  refine onAs_inv hff fun us w p hff => one_inv hff fun u hff => onC_inv hff fun g0 es kws pp hff => ?_
  have hft := ar hff
  refine onN_inv hft fun ft ftp hft => one_inv (ar (al hff)) fun tu h => onT_inv h fun ts kk tp h => two_inv h fun ea eb h => ?_
  refine onN_inv (al h) fun st sp hst => onN_inv (ar h) fun ev ep hev => nil_inv (al (al (al hff))) (onA_inv (ar (al (al hff))) fun o g ap h => ?_)
  have a12 := al (al (al h))
  have a5 := of_decide_eq_true (ar h)
  have a4 := of_decide_eq_true (ar (al h))
  subst a4
  have hbc := ar (al (al h))
  revert a12
  refine onC_inv hbc fun f0 es0 ks0 cp h a12 Q Er q => ?_
  cases nil_inv (P := fun l => l = []) (al (al (al h))) rfl
  cases nil_inv (P := fun l => l = []) (ar (al (al h))) rfl
  rw [exec_Assign]
  refine wpAny_bind (wpAny_standAt (wpAny_bind (wpAny_pure ?_)))
  rw [if_neg (by decide)]
  refine wpAny_bind (arm_meth (few := rfl) a12 a5 ?_)
  refine Call_ (H.E _ _ _ _ _ _ _ _ _ _ O1 (Nat.le_refl N) (ar h) e4 S _ _ fun ρ₄ cf g₄ t₄ x₄ S₄ v₄ => ?_) (call_eq (ar (al h)))
  cases v₄
  refine S₄.elim fun m₄ news₄ F₄ N₄ l₄ Ob₄ nd₄ => ?_
  cases empty_ledger Ob₄
  obtain ⟨v1, hm1, r1, u1, rfl, q1⟩ := l₄ st ks (.str x) (encIs_eq (al (al hst))) (lk_hit rfl rfl)
  obtain ⟨v2, hm2, r2, u2, rfl, q2⟩ := l₄ ev ke (.str y) (encIs_eq (al (al hev))) (lk_miss hne (lk_hit rfl rfl))
  have hr1 := enc_inj q1 hx
  have hr2 := enc_inj q2 hy
  subst hr1 hr2
  refine callWith_of (P := C.K.In) rfl (keeps_K hkp) (evalArgs_nil3 ⟨O.X.keeps F₄.keep, wpAny_call (open_call H O hfo hd he hT hlen F₄ N₄ nd₄ fun h₅ t₅ d news₅ F₅ N₅ T₅ keep pl =>
    ask_sound (s := { s with heap := h₅, toks := t₅ }) O F₅ N₅ T₅ hm1 (of_decide_eq_true (ar hst)) (of_decide_eq_true (ar (al hst))) hm2 (of_decide_eq_true (ar hev)) (of_decide_eq_true (ar (al hev))) hg fun h₆ t₉ tk F₆ N₆ => ?_)⟩)
  have S6 : SR C c ρ₄ (keyF ks ke x y) h₆ := ⟨_, c.X, F₆, fun p hp => N₆ p (keep p hp), l₄, ⟨[], rfl, .nil⟩, nd₄⟩
  refine wpAny_bind (wpAny_pure ?_)
  show wpAny _ _ (assignAll (.str s3 t₉) ((assignEach [Expr.Name ft ftp] c.env).map (·.2)) >>= fun _ => pure Flow.next) _ _ _
  refine wpAny_bind ?_
  show wpAny _ _ (assign (.Name ft ftp) c.env (.str s3 t₉)) _ _ _
  exact wpAny_assign_Name (store_sound (s := { s with heap := h₆, toks := tk }) O1 (encIs_eq (al hft)) (of_decide_eq_true (ar hft)) (v := .str z) ⟨_, _, rfl, hz⟩ S6 _ _ fun ρ₅ h₇ t₇ x₅ S₇ => wpAny_pure (q ρ₅ .next h₇ t₇ (x₄.trans x₅) S₇ rfl))

theorem follow_sound (H : Sound C N R n) (G : C.Ok N NT) (O : c.Ok C A (n + 2)) {a ao ks ke kf : Nat} {S1 S2 S3 S5 : S} {P : List (X × X)} {T : List (Str × Str × Str)} {l : List (AV × AV)} {σ₇ : St} {x y z : Nat} {s1 s2 s3 : Str}
    (hf : fnFit C.K N a ⟨[ks, ke], [], [S1, S2, S3, .any, S5]⟩ = true) (hff : foundFit C.K N a ao ks ke kf = true)
    (hfo : fnFit C.K N ao ⟨[], [], [.any]⟩ = true) (hd : dictFit C.K N ao P = true) (he : evPairs R.E P { loc := [], objs := [], next := 0 } = some (l, σ₇)) (hT : keysOk σ₇ T l = true) (hlen : T.length ≤ 100)
    (hx : enc s1 = some x) (hy : enc s2 = some y) (hz : enc s3 = some z) (hg : (lookup (encTuple PyData.str [s1, s2]) (putAllT (tabD T) [])).getD .none = PyData.str s3)
    (e4 : R.E (keyF ks ke x y) (.glob (.fn ao)) = some (.fn ao, keyF ks ke x y))
    (e1 : execA C.G R (keyF ks ke x y) S1 = some (.next, keyF ks ke x y)) (e2 : execA C.G R (keyF ks ke x y) S2 = some (.next, keyF ks ke x y)) (e3 : execA C.G R (keyF ks ke x y) S3 = some (.next, keyF ks ke x y))
    (e5 : execA C.G R ((keyF ks ke x y).setLoc kf (.str z)) S5 = some (.ret (.str z), (keyF ks ke x y).setLoc kf (.str z)))
    {cvs : List Value} (hv : F2 (VR C.V ρ σ.next) [.str x, .str y] cvs) (S : SR C c ρ σ s.heap) : GivesC C c A (.ref a) cvs ρ σ σ (.str z) s := fun Rr q => fn_inv hf fun name qual params body scope dV kV doc pm cdv ct o an W => S.elim fun m news F N' l' Ob nd => by
  have X := O.X.keeps F.keep
  have hv0 : F2 (VR C.V (fun _ => 0) 0) [AV.str x, AV.str y] cvs := by
    cases hv with
    | cons h1 hr => cases hr with
      | cons h2 hr => cases hr; exact .cons h1 (.cons h2 .nil)
  refine enter W X hv0 rfl (fun binds hb hloc hl => ?_) W.len
  refine callX_plain (cl := []) (binds := binds) O.B F N' O.T.nolimit O.fr rfl O.kind (X _ _ W.at_) W.data (codeRec_of X W.code) O.deep hb hloc (fun g L' h₁ Fg F' N'' B' st' _ => ?_) W.cell W.co W.gen W.kind
  have O' : (c.sub A qual scope L' a cdv g news).Ok C (A.deeper (envOf qual scope L' a cdv)) (n + 1) := O.sub B' st' W.kind
  have S0 : SR C (c.sub A qual scope L' a cdv g news) (fun _ => 0) (keyF ks ke x y) h₁ := ⟨_, news, F', N'', hl, ⟨[], rfl, .nil⟩, nd⟩
  have hb4 := body_of W hff
  have hne : ke ≠ ks := fun z => (List.nodup_cons.mp W.nd).1 (z ▸ .head _)
  revert hb4
  refine body5 (P := fun body => oany body[3]? (foundS C.K scope N ao ks ke kf) = true → wpAny _ _ (execs body (c.sub A qual scope L' a cdv g news).env) _ _ _) W.body fun b1 b2 b3 b4 b5 f1 f2 f3 f5 hff => ?_
  refine wpAny_execs_cons (step_exec (s := { s with heap := h₁, toks := s.toks + binds.length }) H G O' (Nat.le_refl N) f1 e1 S0 _ _ fun ρ₁ f g₁ t₁ x₁ S₁ fl => ?_)
  cases fl
  refine wpAny_execs_cons (step_exec H G O' (Nat.le_refl N) f2 e2 S₁ _ _ fun ρ₂ f g₂ t₂ x₂ S₂ fl => ?_)
  cases fl
  refine wpAny_execs_cons (step_exec H G O' (Nat.le_refl N) f3 e3 S₂ _ _ fun ρ₃ f g₃ t₃ x₃ S₃ fl => ?_)
  cases fl
  refine wpAny_execs_cons (found_sound H G O' hne hff hfo hd he hT hlen hx hy hz hg e4 S₃ _ _ fun ρ₄ f g₄ t₄ x₄ S₄ fl => ?_)
  cases fl
  refine wpAny_execs_cons (step_exec H G O' (Nat.le_refl N) f5 e5 S₄ _ _ fun ρ₆ f g₈ t₈ x₆ S₈ fl => ?_)
  obtain ⟨cv, rfl, hcv⟩ := fl
  refine S₈.elim fun m₈ news₈ F₈ N₈ l₈ Ob₈ nd₈ => ?_
  have e9 : news₈ = news := empty_ledger Ob₈
  subst e9
  exact leaveK_ F₈ N₈ fun F₉ N₉ => q ρ cv g₈ t₈ Ext.refl ⟨m, _, F₉, N₉, l', Ob, nd⟩ hcv
end
end Mine

-- DGamma
namespace Mine
open PySem
noncomputable def f28 : CFn := ⟨[98, 111, 1936355176], [],
  [.ret
   (.bin (.mod) (.bin (.add) (.loc 98) (.loc 111)) (.loc 1936355176))]⟩
noncomputable def f35 : CFn := ⟨[98, 99, 1936355176], [],
  [.ret
   (.bin (.mod) (.bin (.sub) (.loc 99) (.loc 98)) (.loc 1936355176))]⟩
noncomputable def f42 : CFn := ⟨[98, 99, 1936355176], [],
  [.set
   (.loc 6840945)
   (.call (.glob (.fn 35)) [.loc 98, .loc 99, .loc 1936355176]),
 .ret
   (.and
     (.cmp (.gt) (.loc 6840945) (.int 0))
     (.cmp
       (.lt)
       (.bin (.mul) (.int 2) (.loc 6840945))
       (.loc 1936355176)))]⟩
noncomputable def f49 : CFn := ⟨[98, 99, 1936355176], [],
  [.ret
   (.or
     (.cmp (.eq) (.loc 98) (.loc 99))
     (.call (.glob (.fn 42)) [.loc 98, .loc 99, .loc 1936355176]))]⟩
noncomputable def f63 : CFn := ⟨[98, 99, 1936355176], [],
  [.ret
   (.ite
     (.call (.glob (.fn 42)) [.loc 98, .loc 99, .loc 1936355176])
     (.loc 99)
     (.loc 98))]⟩
noncomputable def f77 : CFn := ⟨[1952869735, 1936355176], [],
  [.set (.attr (.loc 1952869735) 1936355176) (.loc 1936355176),
 .set (.attr (.loc 1952869735) 486983038324) (.list [])]⟩
noncomputable def f174 : CFn := ⟨[1952869735, 6976372, 1936355176, 1936748654, 7238772], [.int (.c 1)],
  [.set (.attr (.loc 1952869735) 1936355176) (.loc 1936355176),
 .set (.attr (.loc 1952869735) 1936748654) (.loc 1936748654),
 .set (.attr (.loc 1952869735) 7238772) (.loc 7238772),
 .set
   (.attr (.loc 1952869735) 1868986741)
   (.call (.glob (.fn 28)) [.loc 6976372, .int 1, .loc 1936355176]),
 .set
   (.attr (.loc 1952869735) 495638963578)
   (.call (.glob (.bi (.bytearray))) []),
 .set
   (.attr (.loc 1952869735) 7094423296302869882)
   (.call (.glob (.cls 155)) [.loc 1936355176]),
 .set
   (.attr (.loc 1952869735) 2166370299393436117094)
   (.call
     (.glob (.fn 28))
     [.attr (.loc 1952869735) 1868986741, .loc 1936748654, .loc 1936355176]),
 .set (.attr (.loc 1952869735) 113706832781941) (.none),
 .set (.attr (.loc 1952869735) 29663124527737455) (.bool false),
 .set (.attr (.loc 1952869735) 2185031810038563365493) (.none)]⟩
noncomputable def f181 : CFn := ⟨[1952869735], [],
  [.ret
   (.call
     (.glob (.fn 28))
     [.attr (.loc 1952869735) 1868986741,
      .bin
        (.sub)
        (.attr (.loc 1952869735) 1936748654)
        (.call (.glob (.bi (.len))) [.attr (.loc 1952869735) 495638963578]),
      .attr (.loc 1952869735) 1936355176])]⟩
noncomputable def f188 : CFn := ⟨[1952869735, 7238772], [],
  [.ite
   (.or
     (.attr (.loc 1952869735) 29663124527737455)
     (.not
       (.call
         (.glob (.fn 42))
         [.attr (.loc 1952869735) 2166370299393436117094,
          .meth (.loc 1952869735) 1908330085918290831462 [],
          .attr (.loc 1952869735) 1936355176])))
   [.ret (.bool false)]
   [],
 .any]⟩
noncomputable def f195 : CFn := ⟨[1952869735], [],
  [.ite
   (.call
     (.glob (.fn 42))
     [.attr (.loc 1952869735) 2166370299393436117094,
      .attr (.loc 1952869735) 1868986741,
      .attr (.loc 1952869735) 1936355176])
   [.any]
   [],
 .ret
   (.call
     (.glob (.fn 35))
     [.attr (.loc 1952869735) 1868986741,
      .attr (.loc 1952869735) 2166370299393436117094,
      .attr (.loc 1952869735) 1936355176])]⟩
noncomputable def f202 : CFn := ⟨[1952869735], [],
  [.ite
   (.meth (.loc 1952869735) 140733318124922886381006189 [.attr (.loc 1952869735) 7238772])
   [.any]
   [],
 .ret (.meth (.loc 1952869735) 141975243941068042171412600 [])]⟩
noncomputable def f307 : CFn := ⟨[1952869735, 435510141562], [],
  [.set (.attr (.loc 1952869735) 435510141562) (.loc 435510141562),
 .set (.attr (.loc 1952869735) 33885206581243752) (.int 0),
 .set (.attr (.loc 1952869735) 6649446) (.none),
 .set (.attr (.loc 1952869735) 29663124527800945) (.bool false)]⟩
noncomputable def f322 : CFn := ⟨[1952869735], [],
  [.set (.attr (.loc 1952869735) 33885206581243752) (.glob (.int (.c 2)))]⟩
noncomputable def f329 : CFn := ⟨[1952869735, 7303288], [],
  [.ite
   (.cmp
     (.ge)
     (.attr (.loc 1952869735) 33885206581243752)
     (.glob (.int (.c 2))))
   [.ret (.bool true)]
   [],
 .any]⟩
noncomputable def f336 : CFn := ⟨[1952869735], [],
  [.set (.attr (.loc 1952869735) 33885206581243752) (.int 0),
 .set (.attr (.loc 1952869735) 6649446) (.none)]⟩
noncomputable def f364 : CFn := ⟨[1952869735, 7238772, 444167582837, 1852863605], [],
  [.set (.attr (.loc 1952869735) 7238772) (.loc 7238772),
 .set (.attr (.loc 1952869735) 1852863605) (.loc 1852863605),
 .set (.attr (.loc 1952869735) 1953135462) (.loc 444167582837),
 .set (.attr (.loc 1952869735) 2165867586270492912997) (.loc 1852863605),
 .set (.attr (.loc 1952869735) 7521703423213004389) (.int 0),
 .set (.attr (.loc 1952869735) 479143903876410022127220) (.int 0),
 .set (.attr (.loc 1952869735) 8434202089490929658699170082664) (.bool false),
 .set (.attr (.loc 1952869735) 128695709512068845660042868) (.bool false)]⟩
noncomputable def f371 : CFn := ⟨[1952869735], [],
  [.ret (.attr (.loc 1952869735) 1953135462)]⟩
noncomputable def f448 : CFn := ⟨[1952869735, 7382654789146015078, 521534740171454681867892], [],
  [.set (.attr (.loc 1952869735) 7382654789146015078) (.loc 7382654789146015078),
 .set (.attr (.loc 1952869735) 521534740171454681867892) (.loc 521534740171454681867892),
 .set (.attr (.loc 1952869735) 504447526516) (.int 0),
 .set (.attr (.loc 1952869735) 2165938236425071128421) (.none),
 .set (.attr (.loc 1952869735) 8460696236035433077) (.int 0)]⟩
noncomputable def f455 : CFn := ⟨[1952869735], [],
  [.ret (.cmp (.isNot) (.attr (.loc 1952869735) 2165938236425071128421) (.none))]⟩
noncomputable def f462 : CFn := ⟨[1952869735, 32763738728066917, 7303288], [],
  [.ite
   (.and
     (.cmp (.is) (.attr (.loc 1952869735) 2165938236425071128421) (.none))
     (.cmp (.eq) (.attr (.loc 1952869735) 504447526516) (.int 0)))
   [.set (.attr (.loc 1952869735) 2165938236425071128421) (.loc 32763738728066917),
    .set (.attr (.loc 1952869735) 8460696236035433077) (.loc 7303288)]
   []]⟩
noncomputable def f469 : CFn := ⟨[1952869735], [],
  [.set (.attr (.loc 1952869735) 2165938236425071128421) (.none)]⟩
noncomputable def f476 : CFn := ⟨[1952869735, 6448236, 7303288, 1936355176], [],
  [.set (.attr (.loc 1952869735) 504447526516) (.int 0),
 .ite
   (.or
     (.cmp (.is) (.attr (.loc 1952869735) 2165938236425071128421) (.none))
     (.not
       (.call
         (.glob (.fn 49))
         [.attr (.loc 1952869735) 2165938236425071128421, .loc 6448236, .loc 1936355176])))
   [.ret (.none)]
   [],
 .set
   (.loc 7955154044139562597)
   (.bin (.sub) (.loc 7303288) (.attr (.loc 1952869735) 8460696236035433077)),
 .set (.attr (.loc 1952869735) 2165938236425071128421) (.none),
 .expr
   (.meth
     (.attr (.loc 1952869735) 7382654789146015078)
     127966108544358
     [.loc 7955154044139562597]),
 .ret (.loc 7955154044139562597)]⟩
noncomputable def f497 : CFn := ⟨[1952869735], [],
  [.set
   (.loc 504296139892)
   (.meth (.attr (.loc 1952869735) 7382654789146015078) 33049594672739957 []),
 .forR
   1970697071
   (.ite
     (.cmp
       (.gt)
       (.attr (.loc 1952869735) 504447526516)
       (.glob (.int (.c 7))))
     (.glob (.int (.c 7)))
     (.attr (.loc 1952869735) 504447526516))
   [.any],
 .ret
   (.meth (.attr (.loc 1952869735) 7382654789146015078) 27989676671723109 [.loc 504296139892])]⟩
noncomputable def f504 : CFn := ⟨[1952869735, 7303288], [],
  [.ret (.bin (.add) (.loc 7303288) (.meth (.loc 1952869735) 132364088206949 []))]⟩
noncomputable def f525 : CFn := ⟨[1952869735, 444167582837, 469869163637, 1852863605], [],
  [.set (.attr (.loc 1952869735) 444167582837) (.loc 444167582837),
 .set (.attr (.loc 1952869735) 469869163637) (.loc 469869163637),
 .set (.attr (.loc 1952869735) 1852863605) (.loc 1852863605),
 .set (.attr (.loc 1952869735) 474164129593) (.int 0),
 .set (.attr (.loc 1952869735) 32775837751338293) (.int 0),
 .set (.attr (.loc 1952869735) 7955154044139562597) (.int 0)]⟩
noncomputable def f532 : CFn := ⟨[1952869735, 7955154044139562597], [],
  [.ite
   (.cmp (.eq) (.attr (.loc 1952869735) 7955154044139562597) (.int 0))
   [.set
      (.attr (.loc 1952869735) 474164129593)
      (.bin (.mul) (.int 8) (.loc 7955154044139562597)),
    .set
      (.attr (.loc 1952869735) 32775837751338293)
      (.bin (.mul) (.int 2) (.loc 7955154044139562597))]
   [.any, .any, .any, .any],
 .set
   (.attr (.loc 1952869735) 7955154044139562597)
   (.bin (.add) (.attr (.loc 1952869735) 7955154044139562597) (.int 1))]⟩
noncomputable def f546 : CFn := ⟨[1952869735], [],
  [.ite
   (.cmp (.eq) (.attr (.loc 1952869735) 7955154044139562597) (.int 0))
   [.ret (.attr (.loc 1952869735) 444167582837)]
   [],
 .any]⟩
noncomputable def f553 : CFn := ⟨[1952869735], [],
  [.ret
   (.meth
     (.loc 1952869735)
     27989676671723109
     [.meth (.loc 1952869735) 8986635207538105349207055431285 []])]⟩
noncomputable def f560 : CFn := ⟨[1952869735, 504296139892], [],
  [.ite
   (.cmp (.lt) (.loc 504296139892) (.attr (.loc 1952869735) 469869163637))
   [.any]
   [],
 .ret
   (.ite
     (.cmp (.gt) (.loc 504296139892) (.attr (.loc 1952869735) 1852863605))
     (.attr (.loc 1952869735) 1852863605)
     (.loc 504296139892))]⟩
noncomputable def f637 : CFn := ⟨[1952869735, 1936748654], [],
  [.ite (.cmp (.lt) (.loc 1936748654) (.int 1)) [.any] [],
 .set (.attr (.loc 1952869735) 1936748654) (.loc 1936748654),
 .set (.attr (.loc 1952869735) 1768320357) (.bytes [])]⟩
noncomputable def f644 : CFn := ⟨[1952869735], [],
  [.ret (.call (.glob (.bi (.len))) [.attr (.loc 1952869735) 1768320357])]⟩
noncomputable def f672 : CFn := ⟨[1952869735, 1851944826], [],
  [.ite
   (.or
     (.cmp (.lt) (.loc 1851944826) (.int 0))
     (.cmp
       (.gt)
       (.loc 1851944826)
       (.call (.glob (.bi (.len))) [.attr (.loc 1952869735) 1768320357])))
   [.any]
   [],
 .set
   (.attr (.loc 1952869735) 1768320357)
   (.sliceFrom (.attr (.loc 1952869735) 1768320357) (.loc 1851944826))]⟩
noncomputable def f693 : CFn := ⟨[1952869735, 1936355176], [],
  [.set (.attr (.loc 1952869735) 1936355176) (.loc 1936355176),
 .set (.attr (.loc 1952869735) 1953135462) (.int 0),
 .set (.attr (.loc 1952869735) 1852863605) (.int 0),
 .set (.attr (.loc 1952869735) 8462383982006527602) (.none),
 .set (.attr (.loc 1952869735) 8462383982005347436) (.int 0)]⟩
noncomputable def f700 : CFn := ⟨[1952869735, 7628402, 6448236], [],
  [.ite
   (.cmp (.is) (.attr (.loc 1952869735) 8462383982006527602) (.none))
   [.ret (.bool true)]
   [],
 .any,
 .any,
 .any]⟩
noncomputable def f707 : CFn := ⟨[1952869735, 7628402, 6448236, 1953135462], [],
  [.ite
   (.not (.meth (.loc 1952869735) 7670862096895600243 [.loc 7628402, .loc 6448236]))
   [.ret (.bool false)]
   [],
 .set (.attr (.loc 1952869735) 8462383982006527602) (.loc 7628402),
 .set (.attr (.loc 1952869735) 8462383982005347436) (.loc 6448236),
 .set (.attr (.loc 1952869735) 1953135462) (.loc 1953135462),
 .set
   (.attr (.loc 1952869735) 1852863605)
   (.call
     (.glob (.bi (.max)))
     [.attr (.loc 1952869735) 1852863605, .loc 1953135462]),
 .ret (.bool true)]⟩
noncomputable def f728 : CFn := ⟨[1952869735, 6976628, 1936355176, 7238772, 1936748654], [],
  [.set (.attr (.loc 1952869735) 6976628) (.loc 6976628),
 .set (.attr (.loc 1952869735) 1936355176) (.loc 1936355176),
 .set (.attr (.loc 1952869735) 7238772) (.loc 7238772),
 .set (.attr (.loc 1952869735) 7761762) (.loc 6976628),
 .set (.attr (.loc 1952869735) 1868986741) (.loc 6976628),
 .set (.attr (.loc 1952869735) 7526471975328707701) (.loc 6976628),
 .set
   (.attr (.loc 1952869735) 1902536307)
   (.call (.glob (.cls 710)) [.loc 1936355176]),
 .set
   (.attr (.loc 1952869735) 491612698214)
   (.call (.glob (.cls 675)) [.loc 1936748654]),
 .set (.attr (.loc 1952869735) 140813578324247591380479848) (.bool true),
 .set (.attr (.loc 1952869735) 1907684094258495383141) (.bool false),
 .set (.attr (.loc 1952869735) 7451890993498320757) (.bool false)]⟩
noncomputable def f735 : CFn := ⟨[1952869735], [],
  [.ret (.attr (.attr (.loc 1952869735) 1902536307) 1953135462)]⟩
noncomputable def f743 : CFn := ⟨[1952869735, 7628402, 6448236, 132398530785400], [],
  [.ret
   (.meth
     (.attr (.loc 1952869735) 1902536307)
     1969384550
     [.loc 7628402, .loc 6448236, .loc 132398530785400])]⟩
noncomputable def f764 : CFn := ⟨[1952869735], [],
  [.ret
   (.call
     (.glob (.fn 35))
     [.attr (.loc 1952869735) 7761762,
      .attr (.loc 1952869735) 1868986741,
      .attr (.loc 1952869735) 1936355176])]⟩
noncomputable def f778 : CFn := ⟨[1952869735], [],
  [.ret
   (.call
     (.glob (.bi (.min)))
     [.meth (.attr (.loc 1952869735) 491612698214) 1953135462 [],
      .call
        (.glob (.bi (.max)))
        [.int 0,
         .bin
           (.sub)
           (.meth (.loc 1952869735) 113719634323829 [])
           (.call
             (.glob (.bi (.int)))
             [.attr (.loc 1952869735) 140813578324247591380479848])]])]⟩
noncomputable def f785 : CFn := ⟨[1952869735], [],
  [.ret
   (.bin
     (.sub)
     (.meth (.attr (.loc 1952869735) 491612698214) 1953135462 [])
     (.meth (.loc 1952869735) 1870215836399066050421 []))]⟩
noncomputable def f792 : CFn := ⟨[1952869735], [],
  [.set
   (.loc 1936748654)
   (.bin
     (.add)
     (.meth (.attr (.loc 1952869735) 491612698214) 1953135462 [])
     (.call
       (.glob (.bi (.int)))
       [.attr (.loc 1952869735) 140813578324247591380479848])),
 .ret (.and3 (.attr (.loc 1952869735) 1907684094258495383141) (.any) (.any))]⟩
noncomputable def f813 : CFn := ⟨[1952869735, 1851944826], [],
  [.set
   (.attr (.loc 1952869735) 1868986741)
   (.call
     (.glob (.fn 28))
     [.attr (.loc 1952869735) 1868986741,
      .loc 1851944826,
      .attr (.loc 1952869735) 1936355176]),
 .set
   (.attr (.loc 1952869735) 7526471975328707701)
   (.call
     (.glob (.fn 63))
     [.attr (.loc 1952869735) 7526471975328707701,
      .attr (.loc 1952869735) 1868986741,
      .attr (.loc 1952869735) 1936355176])]⟩
noncomputable def f820 : CFn := ⟨[1952869735], [],
  [.ite (.not (.attr (.loc 1952869735) 140813578324247591380479848)) [.any] [],
 .ite
   (.cmp
     (.eq)
     (.attr (.loc 1952869735) 1868986741)
     (.attr (.loc 1952869735) 6976628))
   [.expr (.meth (.loc 1952869735) 448561967215 [.int 1])]
   [],
 .ret (.attr (.loc 1952869735) 6976628)]⟩
noncomputable def f835 : CFn := ⟨[1952869735, 34177688690060967854303219551034262515832, 7670862096827444582], [.bool true],
  [.set (.loc 444268441445) (.list []),
 .ite (.attr (.loc 1952869735) 140813578324247591380479848) [.ret (.loc 444268441445)] [],
 .while0 (.cmp (.gt) (.meth (.loc 1952869735) 130221066317685 []) (.int 0)),
 .ite
   (.and (.meth (.loc 1952869735) 502717616134709534094950 []) (.any))
   [.any, .any, .expr (.meth (.loc 1952869735) 448561967215 [.int 1])]
   [],
 .ret (.loc 444268441445)]⟩
noncomputable def f849 : CFn := ⟨[1952869735], [],
  [.ret
   (.call
     (.glob (.fn 35))
     [.attr (.loc 1952869735) 7761762,
      .attr (.loc 1952869735) 7526471975328707701,
      .attr (.loc 1952869735) 1936355176])]⟩
noncomputable def f877 : CFn := ⟨[1952869735], [],
  [.ite
   (.or
     (.attr (.loc 1952869735) 140813578324247591380479848)
     (.cmp (.gt) (.meth (.loc 1952869735) 113719634323829 []) (.int 0)))
   [.ret (.bool false)]
   [],
 .ret
   (.or
     (.cmp (.gt) (.meth (.loc 1952869735) 130221066317685 []) (.int 0))
     (.meth (.loc 1952869735) 502717616134709534094950 []))]⟩
noncomputable def f884 : CFn := ⟨[1952869735], [],
  [.ite
   (.not (.meth (.loc 1952869735) 36224621959600266744917242072165224837990 []))
   [.ret (.bool false)]
   [],
 .any,
 .any,
 .any]⟩
noncomputable def f898 : CFn := ⟨[1952869735, 6448236], [],
  [.set
   (.loc 1851944826)
   (.call
     (.glob (.fn 35))
     [.attr (.loc 1952869735) 7761762, .loc 6448236, .attr (.loc 1952869735) 1936355176]),
 .ite
   (.or
     (.cmp (.eq) (.loc 1851944826) (.int 0))
     (.cmp (.gt) (.loc 1851944826) (.meth (.loc 1952869735) 1890171586514619101045 [])))
   [.any]
   [],
 .set (.loc 422675112549) (.meth (.loc 1952869735) 113719634323829 []),
 .set (.loc 117048066996847) (.attr (.loc 1952869735) 140813578324247591380479848),
 .set (.attr (.loc 1952869735) 140813578324247591380479848) (.bool false),
 .set
   (.loc 123576768689524)
   (.call
     (.glob (.bi (.min)))
     [.bin
        (.sub)
        (.loc 1851944826)
        (.call (.glob (.bi (.int))) [.loc 117048066996847]),
      .meth (.attr (.loc 1952869735) 491612698214) 1953135462 []]),
 .expr (.meth (.attr (.loc 1952869735) 491612698214) 1702064241 [.loc 123576768689524]),
 .set (.attr (.loc 1952869735) 7761762) (.loc 6448236),
 .ite (.cmp (.lt) (.loc 422675112549) (.loc 1851944826)) [.any] [],
 .ret
   (.tup
     [.loc 123576768689524,
      .loc 117048066996847,
      .cmp
        (.gt)
        (.bin
          (.sub)
          (.loc 1851944826)
          (.call (.glob (.bi (.int))) [.loc 117048066996847]))
        (.loc 123576768689524)])]⟩
noncomputable def f912 : CFn := ⟨[111], [],
  [.ret
   (.call
     (.glob (.bi (.bytes)))
     [.list
        [.bin (.band) (.bin (.shr) (.loc 111) (.int 8)) (.int 255),
         .bin (.band) (.loc 111) (.int 255)]])]⟩
noncomputable def f941 : CFn := ⟨[1952869735, 140766485152062458695807861, 141909241708630599919498101, 7628402, 6448236, 444216797300, 132398530785400,
 130238044860277, 31649946502459252, 31914950329918053], [.int (.c 0), .bytes [], .bytes []],
  [.set (.attr (.loc 1952869735) 140766485152062458695807861) (.loc 140766485152062458695807861),
 .set (.attr (.loc 1952869735) 141909241708630599919498101) (.loc 141909241708630599919498101),
 .set (.attr (.loc 1952869735) 7628402) (.loc 7628402),
 .set (.attr (.loc 1952869735) 6448236) (.loc 6448236),
 .set (.attr (.loc 1952869735) 444216797300) (.loc 444216797300),
 .set (.attr (.loc 1952869735) 132398530785400) (.loc 132398530785400),
 .set (.attr (.loc 1952869735) 130238044860277) (.loc 130238044860277),
 .set (.attr (.loc 1952869735) 31649946502459252) (.loc 31649946502459252),
 .set (.attr (.loc 1952869735) 31914950329918053) (.loc 31914950329918053)]⟩
noncomputable def f948 : CFn := ⟨[1952869735, 1735221864], [],
  [.ret
   (.cmp
     (.ne)
     (.bin (.band) (.attr (.loc 1952869735) 444216797300) (.loc 1735221864))
     (.int 0))]⟩
noncomputable def f955 : CFn := ⟨[1952869735], [],
  [.set
   (.loc 1851944826)
   (.call (.glob (.bi (.len))) [.attr (.loc 1952869735) 31914950329918053]),
 .ite (.meth (.loc 1952869735) 6906484 [.glob (.int (.c 2))]) [.any] [],
 .ite (.meth (.loc 1952869735) 6906484 [.glob (.int (.c 1))]) [.any] [],
 .ret (.loc 1851944826)]⟩
noncomputable def f962 : CFn := ⟨[1952869735], [],
  [.set
   (.loc 31373938901021556)
   (.tup
     [.attr (.loc 1952869735) 140766485152062458695807861,
      .attr (.loc 1952869735) 141909241708630599919498101,
      .attr (.loc 1952869735) 7628402,
      .attr (.loc 1952869735) 6448236,
      .attr (.loc 1952869735) 444216797300,
      .attr (.loc 1952869735) 132398530785400,
      .attr (.loc 1952869735) 130238044860277]),
 .ret
   (.bin
     (.add)
     (.loc 31373938901021556)
     (.tup
       [.call (.glob (.bi (.bytes))) [.attr (.loc 1952869735) 31649946502459252],
        .call
          (.glob (.bi (.bytes)))
          [.attr (.loc 1952869735) 31914950329918053]]))]⟩
noncomputable def f976 : CFn := ⟨[122554448832115, 1667921268], [],
  [.ite
   (.or
     (.cmp (.lt) (.loc 122554448832115) (.int 0))
     (.cmp
       (.ne)
       (.bin (.shr) (.loc 122554448832115) (.loc 1667921268))
       (.int 0)))
   [.any]
   []]⟩
noncomputable def f983 : CFn := ⟨[111], [],
  [.expr (.call (.glob (.fn 976)) [.loc 111, .int 16]),
 .ret
   (.bin
     (.add)
     (.call
       (.glob (.bi (.bytes)))
       [.list [.glob (.int (.c 2)), .glob (.int (.c 4))]])
     (.call (.glob (.fn 912)) [.loc 111]))]⟩
noncomputable def f990 : CFn := ⟨[31649946502459252], [],
  [.set (.loc 25205) (.int 0),
 .while0
   (.cmp
     (.lt)
     (.loc 25205)
     (.call (.glob (.bi (.len))) [.loc 31649946502459252])),
 .ret (.none)]⟩
noncomputable def f1018 : CFn := ⟨[500185593190], [],
  [.ret
   (.cmp
     (.in_)
     (.loc 500185593190)
     (.tup
       [.glob (.str 123860393471392221080675941),
        .glob (.str 488367110421363199123762),
        .glob (.str 488367110421363199123763)]))]⟩
noncomputable def f1032 : CFn := ⟨[500185593190], [],
  [.ret
   (.cmp
     (.in_)
     (.loc 500185593190)
     (.tup
       [.glob (.str 123860393471392221080675941),
        .glob (.str 488367110421363199123762),
        .glob (.str 474255446604922348530293),
        .glob (.str 28267827427962728),
        .glob (.str 7881990344271881324)]))]⟩
noncomputable def f1045 : CFn := ⟨[1952869735, 1953135462], [.int (.c 16)],
  [.set (.attr (.loc 1952869735) 1953135462) (.loc 1953135462),
 .set
   (.attr (.loc 1952869735) 500052292980)
   (.compR (.list []) 487166469222 (.loc 1953135462)),
 .set (.attr (.loc 1952869735) 1835169126) (.list []),
 .set (.attr (.loc 1952869735) 28832997862696564) (.dict0),
 .set (.attr (.loc 1952869735) 32482195099182693) (.none),
 .set (.attr (.loc 1952869735) 448462808687) (.int 0)]⟩
noncomputable def f1052 : CFn := ⟨[1952869735, 7104122, 1969909350], [],
  [.expr (.meth (.loc 1952869735) 110373938423405 [.loc 7104122]),
 .set
   (.attr (.loc 1952869735) 448462808687)
   (.bin (.add) (.attr (.loc 1952869735) 448462808687) (.int 1)),
 .set
   (.item (.attr (.loc 1952869735) 28832997862696564) (.loc 7104122))
   (.tup [.loc 1969909350, .attr (.loc 1952869735) 448462808687]),
 .expr
   (.meth
     (.meth (.loc 1952869735) 30797820879466599 [.loc 1969909350])
     108239373365093
     [.loc 7104122])]⟩
noncomputable def f1059 : CFn := ⟨[1952869735, 1969909350], [],
  [.ite
   (.and
     (.cmp (.isNot) (.attr (.loc 1952869735) 32482195099182693) (.none))
     (.any))
   [.any]
   [],
 .ret
   (.sub
     (.attr (.loc 1952869735) 500052292980)
     (.bin (.mod) (.loc 1969909350) (.attr (.loc 1952869735) 1953135462)))]⟩
noncomputable def f1066 : CFn := ⟨[1952869735, 7104122], [],
  [.ite
   (.cmp (.in_) (.loc 7104122) (.attr (.loc 1952869735) 28832997862696564))
   [.set
      (.tup [1969909350, 482972362355])
      (.meth (.attr (.loc 1952869735) 28832997862696564) 7434353 [.loc 7104122]),
    .forL
      (.loc 1818655348)
      (.tup
        [.attr (.loc 1952869735) 1835169126,
         .sub
           (.attr (.loc 1952869735) 500052292980)
           (.bin (.mod) (.loc 1969909350) (.attr (.loc 1952869735) 1953135462))])
      [.ite
         (.cmp (.in_) (.loc 7104122) (.loc 1818655348))
         [.expr (.meth (.loc 1818655348) 126883776722790 [.loc 7104122])]
         []]]
   []]⟩
noncomputable def f1073 : CFn := ⟨[1952869735, 7104122], [],
  [.ret
   (.ite
     (.cmp (.in_) (.loc 7104122) (.attr (.loc 1952869735) 28832997862696564))
     (.sub
       (.sub (.attr (.loc 1952869735) 28832997862696564) (.loc 7104122))
       (.int 0))
     (.none))]⟩
noncomputable def f1113 : CFn := ⟨[1952869735, 1936355176, 7238772, 2147203542329519534190, 35714560688943270616754057326,
 8193445726439276679900121036405, 8667556209746643876490515609205, 34179300731876444152469157493,
 521534740171454681867892, 1815017183913440010874, 2165938236403998681717], [],
  [.set (.attr (.loc 1952869735) 1936355176) (.loc 1936355176),
 .set (.attr (.loc 1952869735) 7238772) (.loc 7238772),
 .set (.attr (.loc 1952869735) 2147203542329519534190) (.loc 2147203542329519534190),
 .set
   (.attr (.loc 1952869735) 35714560688943270616754057326)
   (.loc 35714560688943270616754057326),
 .set
   (.attr (.loc 1952869735) 8193445726439276679900121036405)
   (.loc 8193445726439276679900121036405),
 .set
   (.attr (.loc 1952869735) 8667556209746643876490515609205)
   (.loc 8667556209746643876490515609205),
 .set
   (.attr (.loc 1952869735) 34179300731876444152469157493)
   (.loc 34179300731876444152469157493),
 .set (.attr (.loc 1952869735) 521534740171454681867892) (.loc 521534740171454681867892),
 .set (.attr (.loc 1952869735) 1815017183913440010874) (.loc 1815017183913440010874),
 .set (.attr (.loc 1952869735) 2165938236403998681717) (.loc 2165938236403998681717)]⟩
noncomputable def f1127 : CFn := ⟨[120303886431604], [],
  [.set
   (.loc 7382654789146015078)
   (.call
     (.glob (.cls 563))
     [.attr (.loc 120303886431604) 8193445726439276679900121036405,
      .attr (.loc 120303886431604) 8667556209746643876490515609205,
      .attr (.loc 120303886431604) 34179300731876444152469157493]),
 .ret
   (.call
     (.glob (.cls 507))
     [.loc 7382654789146015078, .attr (.loc 120303886431604) 521534740171454681867892])]⟩
noncomputable def f1141 : CFn := ⟨[1952869735, 120303886431604, 470037062253, 126883776722278, 6976628], [],
  [.set (.attr (.loc 1952869735) 120303886431604) (.loc 120303886431604),
 .set (.attr (.loc 1952869735) 470037062253) (.loc 470037062253),
 .set (.attr (.loc 1952869735) 126883776722278) (.loc 126883776722278),
 .set (.attr (.loc 1952869735) 500185593190) (.glob (.str 110421200889445)),
 .set
   (.attr (.loc 1952869735) 127983304402547)
   (.call
     (.glob (.cls 901))
     [.loc 6976628,
      .attr (.loc 120303886431604) 1936355176,
      .attr (.loc 120303886431604) 7238772,
      .attr (.loc 120303886431604) 2147203542329519534190]),
 .set (.attr (.loc 1952869735) 8315444153021851251) (.none),
 .set
   (.attr (.loc 1952869735) 431332811884)
   (.call (.glob (.fn 1127)) [.loc 120303886431604]),
 .set
   (.attr (.loc 1952869735) 474310711402206151209071)
   (.call
     (.glob (.cls 430))
     [.attr (.loc 120303886431604) 7238772,
      .bin (.mul) (.int 2) (.attr (.loc 120303886431604) 7238772),
      .bin
        (.add)
        (.attr (.loc 120303886431604) 2147203542329519534190)
        (.attr (.loc 120303886431604) 7238772)]),
 .set
   (.attr (.loc 1952869735) 1650748532)
   (.call (.glob (.cls 346)) [.attr (.loc 120303886431604) 1815017183913440010874]),
 .set (.attr (.loc 1952869735) 517164394093) (.call (.glob (.cls 1095)) []),
 .set (.attr (.loc 1952869735) 440023609459) (.none),
 .set (.attr (.loc 1952869735) 124740620740212) (.int 0),
 .set (.attr (.loc 1952869735) 559293926586798491002469) (.int 0),
 .set (.attr (.loc 1952869735) 7670862096827444582) (.bool true)]⟩
noncomputable def f1148 : CFn := ⟨[1952869735], [],
  [.ite
   (.cmp (.is) (.attr (.loc 1952869735) 8315444153021851251) (.none))
   [.ret
      (.call
        (.glob (.bi (.min)))
        [.attr (.attr (.loc 1952869735) 120303886431604) 35714560688943270616754057326,
         .glob (.int (.c 65535))])]
   [],
 .ret
   (.call
     (.glob (.bi (.min)))
     [.meth (.attr (.loc 1952869735) 8315444153021851251) 132398530785400 [],
      .glob (.int (.c 65535))])]⟩
noncomputable def f1156 : CFn := ⟨[1952869735, 444216797300, 7628402, 31914950329918053], [.bytes []],
  [.set (.loc 6448236) (.int 0),
 .ite
   (.cmp (.isNot) (.attr (.loc 1952869735) 8315444153021851251) (.none))
   [.set
      (.loc 444216797300)
      (.bin (.bor) (.loc 444216797300) (.glob (.int (.c 16)))),
    .set (.loc 6448236) (.attr (.attr (.loc 1952869735) 8315444153021851251) 1868986741),
    .expr (.meth (.attr (.loc 1952869735) 1650748532) 31647657452007285 []),
    .expr
      (.meth
        (.attr (.loc 1952869735) 517164394093)
        110373938423405
        [.glob (.int (.c 3))])]
   [],
 .set
   (.loc 31649946502459252)
   (.ite
     (.cmp
       (.ne)
       (.bin (.band) (.loc 444216797300) (.glob (.int (.c 2))))
       (.int 0))
     (.call
       (.glob (.fn 983))
       [.call
          (.glob (.bi (.min)))
          [.attr (.attr (.loc 1952869735) 120303886431604) 7238772,
           .glob (.int (.c 65535))]])
     (.bytes [])),
 .set (.loc 132398530785400) (.meth (.loc 1952869735) 568647359761743812194424 []),
 .ret
   (.call
     (.glob (.cls 965))
     [.sub (.attr (.loc 1952869735) 470037062253) (.int 1),
      .sub (.attr (.loc 1952869735) 126883776722278) (.int 1),
      .loc 7628402,
      .loc 6448236,
      .loc 444216797300,
      .loc 132398530785400,
      .int 0,
      .loc 31649946502459252,
      .loc 31914950329918053])]⟩
noncomputable def f1170 : CFn := ⟨[7693411, 440089866101], [],
  [.set
   (.loc 500185593190)
   (.call
     (.glob (.fn 1011))
     [.attr (.loc 7693411) 500185593190, .loc 440089866101]),
 .ite (.cmp (.is) (.loc 500185593190) (.none)) [.any] [],
 .set (.attr (.loc 7693411) 500185593190) (.loc 500185593190)]⟩
noncomputable def f1177 : CFn := ⟨[7693411, 440023609459], [],
  [.set (.attr (.loc 7693411) 500185593190) (.glob (.str 110421200889445)),
 .ite
   (.cmp (.isNot) (.loc 440023609459) (.none))
   [.set (.attr (.loc 7693411) 440023609459) (.loc 440023609459)]
   [],
 .forL
   (.loc 7104122)
   (.tup
     [.glob (.int (.c 1)),
      .glob (.int (.c 2)),
      .glob (.int (.c 3)),
      .glob (.int (.c 4))])
   [.expr (.meth (.attr (.loc 7693411) 517164394093) 110373938423405 [.loc 7104122])]]⟩
noncomputable def f1191 : CFn := ⟨[7693411, 7303288], [],
  [.expr (.call (.glob (.fn 1170)) [.loc 7693411, .str 28271121583727733]),
 .ret (.call (.glob (.fn 1233)) [.loc 7693411, .loc 7303288])]⟩
noncomputable def f1198 : CFn := ⟨[7693411], [],
  [.ret
   (.meth
     (.loc 7693411)
     1851944038
     [.glob (.int (.c 16)),
      .attr (.attr (.loc 7693411) 127983304402547) 1868986741])]⟩
noncomputable def f1205 : CFn := ⟨[7693411], [],
  [.ret
   (.meth
     (.loc 7693411)
     1851944038
     [.glob (.int (.c 2)),
      .meth (.attr (.loc 7693411) 127983304402547) 500185592693 []])]⟩
noncomputable def f1219 : CFn := ⟨[7693411], [],
  [.ite
   (.and
     (.attr (.attr (.loc 7693411) 127983304402547) 1907684094258495383141)
     (.call (.glob (.fn 1032)) [.attr (.loc 7693411) 500185593190]))
   [.any, .any]
   []]⟩
noncomputable def f1226 : CFn := ⟨[7693411, 7303288], [],
  [.set (.loc 444268441445) (.list []),
 .set (.loc 1936355176) (.attr (.attr (.loc 7693411) 120303886431604) 1936355176),
 .set
   (.loc 422675112549)
   (.attr (.attr (.loc 7693411) 127983304402547) 7526471975328707701),
 .forL
   (.tup [7628402, 123576768689524, 7593759879269348457, 29663124527737455])
   (.meth
     (.attr (.loc 7693411) 127983304402547)
     124701798327924
     [.meth (.attr (.loc 7693411) 474310711402206151209071) 132398530785400 [],
      .attr (.loc 7693411) 7670862096827444582])
   [.any, .any, .any],
 .ret (.loc 444268441445)]⟩
noncomputable def f1233 : CFn := ⟨[7693411, 7303288], [],
  [.expr (.call (.glob (.fn 1219)) [.loc 7693411]),
 .set (.loc 444268441445) (.list []),
 .ite
   (.cmp
     (.in_)
     (.attr (.loc 7693411) 500185593190)
     (.tup
       [.glob (.str 8393143045035814773), .glob (.str 36048274889006609847444530789)]))
   [.ite
      (.cmp
        (.eq)
        (.attr (.attr (.loc 7693411) 127983304402547) 1868986741)
        (.attr (.attr (.loc 7693411) 127983304402547) 6976628))
      [.expr
         (.meth
           (.loc 444268441445)
           108239373365093
           [.call (.glob (.fn 1205)) [.loc 7693411]]),
       .expr
         (.meth
           (.attr (.loc 7693411) 431332811884)
           1952870261
           [.attr (.attr (.loc 7693411) 127983304402547) 1868986741, .loc 7303288])]
      []]
   [.ite
      (.call (.glob (.fn 1032)) [.attr (.loc 7693411) 500185593190])
      [.set
         (.loc 444268441445)
         (.call (.glob (.fn 1226)) [.loc 7693411, .loc 7303288])]
      []],
 .expr (.call (.glob (.fn 1247)) [.loc 7693411, .loc 7303288]),
 .ret (.loc 444268441445)]⟩
noncomputable def f1240 : CFn := ⟨[7693411, 7303288], [],
  [.ite
   (.cmp
     (.gt)
     (.meth (.attr (.loc 7693411) 127983304402547) 113719634323829 [])
     (.int 0))
   [.expr
      (.meth
        (.attr (.loc 7693411) 517164394093)
        7435893
        [.glob (.int (.c 1)),
         .meth (.attr (.loc 7693411) 431332811884) 7306635633222119270 [.loc 7303288]])]
   [.expr
      (.meth
        (.attr (.loc 7693411) 517164394093)
        110373938423405
        [.glob (.int (.c 1))])]]⟩
noncomputable def f1247 : CFn := ⟨[7693411, 7303288], [],
  [.ite
   (.cmp
     (.in_)
     (.attr (.loc 7693411) 500185593190)
     (.tup
       [.glob (.str 110421200889445),
        .glob (.str 120303987811951),
        .glob (.str 2165938236133415742069)]))
   [.ret0]
   [],
 .ite
   (.cmp
     (.eq)
     (.meth (.attr (.loc 7693411) 127983304402547) 113719634323829 [])
     (.int 0))
   [.expr
      (.meth
        (.attr (.loc 7693411) 517164394093)
        110373938423405
        [.glob (.int (.c 1))])]
   [.ite
      (.cmp
        (.is)
        (.meth
          (.attr (.loc 7693411) 517164394093)
          33049594671689831
          [.glob (.int (.c 1))])
        (.none))
      [.expr
         (.meth
           (.attr (.loc 7693411) 517164394093)
           7435893
           [.glob (.int (.c 1)),
            .meth (.attr (.loc 7693411) 431332811884) 7306635633222119270 [.loc 7303288]])]
      []],
 .ite
   (.or
     (.not (.call (.glob (.fn 1032)) [.attr (.loc 7693411) 500185593190]))
     (.not (.meth (.attr (.loc 7693411) 127983304402547) 134674336236946196091921254 [])))
   [.expr
      (.meth
        (.attr (.loc 7693411) 517164394093)
        110373938423405
        [.glob (.int (.c 2))]),
    .set (.attr (.loc 7693411) 124740620740212) (.int 0)]
   [.any]]⟩
noncomputable def f1275 : CFn := ⟨[6448236, 7761762, 1908115891226617212776, 1936355176], [],
  [.set
   (.loc 6840945)
   (.call (.glob (.fn 35)) [.loc 7761762, .loc 6448236, .loc 1936355176]),
 .ret
   (.cmp2
     (.lt)
     (.le)
     (.int 0)
     (.loc 6840945)
     (.call
       (.glob (.fn 35))
       [.loc 7761762, .loc 1908115891226617212776, .loc 1936355176]))]⟩
noncomputable def f1282 : CFn := ⟨[7693411, 32763696013274997, 7303288], [],
  [.ite
   (.cmp
     (.eq)
     (.attr (.loc 7693411) 500185593190)
     (.glob (.str 110421200889445)))
   [.any]
   [],
 .ite
   (.cmp
     (.eq)
     (.attr (.loc 7693411) 500185593190)
     (.glob (.str 120303987811951)))
   [.any]
   [],
 .ite
   (.cmp
     (.eq)
     (.attr (.loc 7693411) 500185593190)
     (.glob (.str 8393143045035814773)))
   [.ret
      (.call
        (.glob (.fn 1318))
        [.loc 7693411, .loc 32763696013274997, .loc 7303288])]
   [],
 .any]⟩
noncomputable def f1289 : CFn := ⟨[32763696013274997], [],
  [.ret
   (.ite
     (.cmp (.is) (.loc 32763696013274997) (.none))
     (.list [])
     (.list [.loc 32763696013274997]))]⟩
noncomputable def f1297 : CFn := ⟨[32763696013274997, 1936355176], [.int (.c 4294967296)],
  [.ite
   (.meth (.loc 32763696013274997) 6906484 [.glob (.int (.c 4))])
   [.ret (.none)]
   [],
 .ite
   (.meth (.loc 32763696013274997) 6906484 [.glob (.int (.c 16))])
   [.ret
      (.call
        (.glob (.cls 965))
        [.attr (.loc 32763696013274997) 141909241708630599919498101,
         .attr (.loc 32763696013274997) 140766485152062458695807861,
         .attr (.loc 32763696013274997) 6448236,
         .int 0,
         .glob (.int (.c 4)),
         .int 0])]
   [],
 .any,
 .any]⟩
noncomputable def f1304 : CFn := ⟨[7693411, 32763696013274997], [],
  [.set (.loc 120303886431604) (.attr (.loc 7693411) 120303886431604),
 .set
   (.attr (.loc 7693411) 8315444153021851251)
   (.call
     (.glob (.cls 289))
     [.attr (.loc 32763696013274997) 7628402,
      .attr (.loc 120303886431604) 1936355176,
      .attr (.loc 120303886431604) 35714560688943270616754057326,
      .attr (.loc 120303886431604) 7238772]),
 .set
   (.loc 1970302309)
   (.call (.glob (.fn 990)) [.attr (.loc 32763696013274997) 31649946502459252]),
 .set
   (.attr (.attr (.loc 7693411) 127983304402547) 7238772)
   (.call
     (.glob (.bi (.max)))
     [.int 1,
      .call
        (.glob (.bi (.min)))
        [.attr (.loc 120303886431604) 7238772,
         .ite
           (.cmp (.is) (.loc 1970302309) (.none))
           (.glob (.int (.c 536)))
           (.loc 1970302309)]]),
 .set
   (.attr (.attr (.loc 7693411) 474310711402206151209071) 7238772)
   (.attr (.attr (.loc 7693411) 127983304402547) 7238772)]⟩
noncomputable def f1318 : CFn := ⟨[7693411, 32763696013274997, 7303288], [],
  [.set (.loc 1936355176) (.attr (.attr (.loc 7693411) 120303886431604) 1936355176),
 .ite
   (.and
     (.meth (.loc 32763696013274997) 6906484 [.glob (.int (.c 16))])
     (.not
       (.call
         (.glob (.fn 1275))
         [.attr (.loc 32763696013274997) 6448236,
          .attr (.attr (.loc 7693411) 127983304402547) 7761762,
          .attr (.attr (.loc 7693411) 127983304402547) 7526471975328707701,
          .loc 1936355176])))
   [.ret
      (.call
        (.glob (.fn 1289))
        [.call (.glob (.fn 1297)) [.loc 32763696013274997, .loc 1936355176]])]
   [],
 .ite
   (.meth (.loc 32763696013274997) 6906484 [.glob (.int (.c 4))])
   [.ite
      (.meth (.loc 32763696013274997) 6906484 [.glob (.int (.c 16))])
      [.expr (.call (.glob (.fn 1177)) [.loc 7693411, .str 32482216876729957])]
      [],
    .ret (.list [])]
   [],
 .ite
   (.not (.meth (.loc 32763696013274997) 6906484 [.glob (.int (.c 2))]))
   [.ret (.list [])]
   [],
 .expr (.call (.glob (.fn 1304)) [.loc 7693411, .loc 32763696013274997]),
 .ite
   (.not (.meth (.loc 32763696013274997) 6906484 [.glob (.int (.c 16))]))
   [.ret
      (.call
        (.glob (.fn 1325))
        [.loc 7693411, .loc 32763696013274997, .loc 7303288])]
   [],
 .expr
   (.call
     (.glob (.fn 1381))
     [.loc 7693411, .attr (.loc 32763696013274997) 6448236, .loc 7303288]),
 .expr
   (.meth
     (.attr (.loc 7693411) 127983304402547)
     141909112435621387466797176
     [.attr (.loc 32763696013274997) 7628402,
      .attr (.loc 32763696013274997) 6448236,
      .attr (.loc 32763696013274997) 132398530785400]),
 .expr (.call (.glob (.fn 1170)) [.loc 7693411, .str 32785715018490988]),
 .expr (.meth (.attr (.loc 7693411) 1650748532) 27713604781302886 []),
 .expr
   (.call
     (.glob (.fn 1409))
     [.loc 7693411,
      .call (.glob (.fn 1332)) [.loc 32763696013274997, .loc 1936355176],
      .loc 7303288]),
 .ret (.call (.glob (.fn 1423)) [.loc 7693411, .loc 7303288])]⟩
noncomputable def f1325 : CFn := ⟨[7693411, 32763696013274997, 7303288], [],
  [.expr
   (.meth
     (.attr (.loc 7693411) 127983304402547)
     141909112435621387466797176
     [.attr (.loc 32763696013274997) 7628402,
      .attr (.attr (.loc 7693411) 127983304402547) 7761762,
      .attr (.loc 32763696013274997) 132398530785400]),
 .expr (.call (.glob (.fn 1170)) [.loc 7693411, .str 7633519]),
 .expr (.meth (.attr (.loc 7693411) 431332811884) 113732670219893 []),
 .set (.loc 444268441445) (.list [.call (.glob (.fn 1205)) [.loc 7693411]]),
 .expr (.call (.glob (.fn 1240)) [.loc 7693411, .loc 7303288]),
 .ret (.loc 444268441445)]⟩
noncomputable def f1332 : CFn := ⟨[32763696013274997, 1936355176], [],
  [.ite
   (.not (.meth (.loc 32763696013274997) 6906484 [.glob (.int (.c 2))]))
   [.any]
   [],
 .ret
   (.call
     (.glob (.cls 965))
     [.attr (.loc 32763696013274997) 140766485152062458695807861,
      .attr (.loc 32763696013274997) 141909241708630599919498101,
      .call
        (.glob (.fn 28))
        [.attr (.loc 32763696013274997) 7628402, .int 1, .loc 1936355176],
      .attr (.loc 32763696013274997) 6448236,
      .bin
        (.sub)
        (.attr (.loc 32763696013274997) 444216797300)
        (.glob (.int (.c 2))),
      .attr (.loc 32763696013274997) 132398530785400,
      .attr (.loc 32763696013274997) 130238044860277,
      .attr (.loc 32763696013274997) 31649946502459252,
      .attr (.loc 32763696013274997) 31914950329918053])]⟩
noncomputable def f1381 : CFn := ⟨[7693411, 6448236, 7303288], [],
  [.set
   (.tup [123576768689524, 117048066996847, 117048066140783])
   (.meth (.attr (.loc 7693411) 127983304402547) 422591620709 [.loc 6448236]),
 .expr
   (.meth
     (.attr (.loc 7693411) 431332811884)
     422591620709
     [.loc 6448236,
      .loc 7303288,
      .attr (.attr (.loc 7693411) 120303886431604) 1936355176]),
 .ite
   (.or
     (.cmp (.gt) (.loc 123576768689524) (.int 0))
     (.attr (.attr (.loc 7693411) 474310711402206151209071) 8434202089490929658699170082664))
   [.any]
   [],
 .expr (.call (.glob (.fn 1240)) [.loc 7693411, .loc 7303288]),
 .ret (.loc 117048066140783)]⟩
noncomputable def f1409 : CFn := ⟨[7693411, 32763696013274997, 7303288], [],
  [.set (.loc 8315444153021851251) (.attr (.loc 7693411) 8315444153021851251),
 .ite
   (.not (.call (.glob (.fn 1018)) [.attr (.loc 7693411) 500185593190]))
   [.any, .any, .ret0]
   [],
 .ite
   (.meth (.loc 32763696013274997) 6906484 [.glob (.int (.c 32))])
   [.any]
   [],
 .ite
   (.cmp (.eq) (.meth (.loc 32763696013274997) 120286723208553 []) (.int 0))
   [.ret0]
   [],
 .any,
 .any,
 .any,
 .any,
 .any]⟩
noncomputable def f1423 : CFn := ⟨[7693411, 7303288], [],
  [.set
   (.loc 444268441445)
   (.call (.glob (.fn 1233)) [.loc 7693411, .loc 7303288]),
 .ite
   (.meth (.attr (.loc 7693411) 1650748532) 117048066012774 [.loc 7303288])
   [.expr
      (.meth
        (.loc 444268441445)
        108239373365093
        [.call (.glob (.fn 1198)) [.loc 7693411]])]
   [.any],
 .ret (.loc 444268441445)]⟩
noncomputable def f1430 : CFn := ⟨[127974781907317, 108], [],
  [.set
   (.loc 1684434285)
   (.ite
     (.cmp
       (.lt)
       (.loc 108)
       (.call (.glob (.bi (.len))) [.loc 127974781907317]))
     (.sub (.loc 127974781907317) (.loc 108))
     (.int 0)),
 .set
   (.loc 448612688501)
   (.call
     (.glob (.bi (.max)))
     [.loc 1684434285, .bin (.sub) (.neg (.int 1)) (.loc 1684434285)]),
 .set
   (.loc 474232743525)
   (.bin
     (.mod)
     (.bin
       (.mul)
       (.bin
         (.add)
         (.bin
           (.add)
           (.bin
             (.add)
             (.bin (.mod) (.loc 448612688501) (.int 2147483629))
             (.bin
               (.mul)
               (.bin (.mul) (.int 7919) (.loc 108))
               (.loc 108)))
           (.bin (.mul) (.int 31) (.loc 108)))
         (.int 17))
       (.int 48271))
     (.int 2147483647)),
 .ret
   (.list
     [.bin
        (.mul)
        (.loc 448612688501)
        (.call
          (.glob (.bi (.int)))
          [.cmp
             (.ge)
             (.loc 448612688501)
             (.bin (.pow) (.int 10) (.int 18))]),
      .loc 474232743525])]⟩
noncomputable def f1437 : CFn := ⟨[128026372432998, 7696497], [],
  [.ite
   (.cmp (.gt) (.sub (.loc 128026372432998) (.int 0)) (.int 0))
   [.set
      (.loc 435727530095)
      (.bin (.mod) (.sub (.loc 128026372432998) (.int 0)) (.loc 7696497)),
    .set
      (.item (.loc 128026372432998) (.int 0))
      (.bin (.div) (.sub (.loc 128026372432998) (.int 0)) (.loc 7696497)),
    .ret (.loc 435727530095)]
   [],
 .set
   (.item (.loc 128026372432998) (.int 1))
   (.bin
     (.mod)
     (.bin
       (.add)
       (.bin (.mul) (.sub (.loc 128026372432998) (.int 1)) (.int 39373))
       (.int 7))
     (.int 2147483647)),
 .ret
   (.bin
     (.mod)
     (.bin
       (.div)
       (.bin
         (.mod)
         (.bin
           (.mul)
           (.sub (.loc 128026372432998) (.int 1))
           (.sub (.loc 128026372432998) (.int 1)))
         (.int 2147483629))
       (.int 32))
     (.loc 7696497))]⟩
noncomputable def f1444 : CFn := ⟨[128026372432998, 129095617702004], [],
  [.ret
   (.sub
     (.loc 129095617702004)
     (.call
       (.glob (.fn 1437))
       [.loc 128026372432998,
        .call (.glob (.bi (.len))) [.loc 129095617702004]]))]⟩
noncomputable def f1451 : CFn := ⟨[444216797300, 7628402, 6448236, 132398530785400, 6976628], [],
  [.swap
   [500185594484, 426919881327]
   (.tup
     [.list
        [.str 8393143045035814773,
         .none,
         .list [],
         .none,
         .int 0,
         .int 0,
         .none,
         .int 6,
         .bool true],
      .bin (.mod) (.bin (.add) (.loc 6976628) (.int 1)) (.int 256)]),
 .swap
   [29663124527408236, 29663124528593519, 29663124528526453]
   (.tup
     [.cmp
        (.eq)
        (.bin (.mod) (.bin (.div) (.loc 444216797300) (.int 16)) (.int 2))
        (.int 1),
      .cmp
        (.eq)
        (.bin (.mod) (.bin (.div) (.loc 444216797300) (.int 2)) (.int 2))
        (.int 1),
      .cmp
        (.eq)
        (.bin (.mod) (.bin (.div) (.loc 444216797300) (.int 4)) (.int 2))
        (.int 1)]),
 .ite
   (.and (.loc 29663124527408236) (.cmp (.ne) (.loc 6448236) (.loc 426919881327)))
   [.set
      (.item (.loc 500185594484) (.int 2))
      (.ite
        (.loc 29663124528526453)
        (.list [])
        (.list
          [.tup
             [.int 10,
              .int 20,
              .loc 6448236,
              .int 0,
              .int 4,
              .int 0,
              .int 0,
              .bytes [],
              .bytes []]])),
    .ret (.loc 500185594484)]
   [],
 .ite
   (.loc 29663124528526453)
   [.ret
      (.ite
        (.loc 29663124527408236)
        (.list
          [.str 110421200889445,
           .str 32482216876729957,
           .list [],
           .none,
           .int 0,
           .int 0,
           .none,
           .none,
           .none])
        (.loc 500185594484))]
   [],
 .ite (.not (.loc 29663124528593519)) [.ret (.loc 500185594484)] [],
 .set
   (.loc 27716911805851237)
   (.bin (.mod) (.bin (.add) (.loc 7628402) (.int 1)) (.int 256)),
 .ite
   (.loc 29663124527408236)
   [.set
      (.loc 1936750708)
      (.list
        [.tup
           [.int 10,
            .int 20,
            .loc 426919881327,
            .loc 27716911805851237,
            .int 16,
            .int 16,
            .int 0,
            .bytes [],
            .bytes []]]),
    .ret
      (.list
        [.str 123860393471392221080675941,
         .none,
         .loc 1936750708,
         .loc 7628402,
         .loc 6448236,
         .loc 132398530785400,
         .loc 27716911805851237,
         .none,
         .bool false])]
   [],
 .set
   (.loc 1936750708)
   (.list
     [.tup
        [.int 10,
         .int 20,
         .loc 6976628,
         .loc 27716911805851237,
         .int 18,
         .int 16,
         .int 0,
         .call
           (.glob (.bi (.bytes)))
           [.list [.int 2, .int 4, .int 0, .int 4]],
         .bytes []]]),
 .ret
   (.list
     [.str 36048274889006609847444530789,
      .none,
      .loc 1936750708,
      .loc 7628402,
      .loc 6976628,
      .loc 132398530785400,
      .loc 27716911805851237,
      .int 9,
      .bool false])]⟩
noncomputable def f1456 : CFn := ⟨[444216797300, 7628402, 6448236, 132398530785400, 6976628], [],
  [.set
   (.loc 7693411)
   (.call
     (.glob (.cls 1159))
     [.call
        (.glob (.cls 1116))
        [.int 256,
         .int 4,
         .int 24,
         .int 16,
         .int 6,
         .int 4,
         .int 24,
         .int 3,
         .int 2,
         .int 12],
      .tup [.int 1, .int 10],
      .tup [.int 2, .int 20],
      .loc 6976628]),
 .expr (.call (.glob (.fn 1191)) [.loc 7693411, .int 0]),
 .setComp
   1936750708
   (.meth (.loc 7368550) 7565432 [])
   7368550
   (.call
     (.glob (.fn 1282))
     [.loc 7693411,
      .call
        (.glob (.cls 965))
        [.int 20,
         .int 10,
         .loc 7628402,
         .loc 6448236,
         .loc 444216797300,
         .loc 132398530785400],
      .int 3]),
 .swap
   [1902536307, 27716911805851237]
   (.tup
     [.attr (.attr (.loc 7693411) 127983304402547) 1902536307,
      .ite
        (.cmp (.is) (.attr (.loc 7693411) 8315444153021851251) (.none))
        (.none)
        (.attr (.attr (.loc 7693411) 8315444153021851251) 1868986741)]),
 .set
   (.loc 1963740703419355787112)
   (.ite
     (.cmp (.eq) (.attr (.loc 7693411) 500185593190) (.str 110421200889445))
     (.none)
     (.meth (.attr (.loc 7693411) 431332811884) 1963740703419355787112 [])),
 .set
   (.loc 1970302309)
   (.list
     [.attr (.loc 7693411) 500185593190,
      .attr (.loc 7693411) 440023609459,
      .loc 1936750708,
      .attr (.loc 1902536307) 8462383982006527602,
      .attr (.loc 1902536307) 8462383982005347436,
      .attr (.attr (.loc 7693411) 127983304402547) 132398530785400,
      .loc 27716911805851237]),
 .ret
   (.bin
     (.add)
     (.loc 1970302309)
     (.list
       [.meth (.attr (.loc 7693411) 517164394093) 33049594671689831 [.int 1],
        .loc 1963740703419355787112]))]⟩
noncomputable def f1463 : CFn := ⟨[127974781907317], [],
  [.set
   (.loc 128026372432998)
   (.call (.glob (.fn 1430)) [.loc 127974781907317, .int 0]),
 .set
   (.loc 6976628)
   (.call
     (.glob (.fn 1444))
     [.loc 128026372432998, .list [.int 255, .int 250, .int 9]]),
 .forL
   (.loc 444216797300)
   (.list
     [.int 0,
      .int 2,
      .int 4,
      .int 6,
      .int 8,
      .int 10,
      .int 16,
      .int 18,
      .int 20,
      .int 22,
      .int 26])
   [.swap
      [7628402, 132398530785400]
      (.tup
        [.call
           (.glob (.fn 1444))
           [.loc 128026372432998,
            .list
              [.int 254,
               .int 255,
               .int 0,
               .call (.glob (.fn 1437)) [.loc 128026372432998, .int 256]]],
         .call (.glob (.fn 1437)) [.loc 128026372432998, .int 40]]),
    .forL
      (.loc 6448236)
      (.list
        [.bin (.mod) (.bin (.add) (.loc 6976628) (.int 1)) (.int 256),
         .loc 6976628,
         .bin (.mod) (.bin (.add) (.loc 6976628) (.int 2)) (.int 256),
         .int 7])
      [.ite
         (.cmp
           (.ne)
           (.call
             (.glob (.fn 1456))
             [.loc 444216797300,
              .loc 7628402,
              .loc 6448236,
              .loc 132398530785400,
              .loc 6976628])
           (.call
             (.glob (.fn 1451))
             [.loc 444216797300,
              .loc 7628402,
              .loc 6448236,
              .loc 132398530785400,
              .loc 6976628]))
         [.ret (.bool false)]
         []]],
 .ret (.bool true)]⟩
noncomputable def c155 : CCls := ⟨77, [], [], [], [1936355176, 486983038324]⟩
noncomputable def c289 : CCls := ⟨174, [(1908330085918290831462, 181), (140733318124922886381006189, 188), (141975243941068042171412600, 195), (132398530785400, 202)], [], [7238772, 1868986741, 1936355176, 1936748654, 495638963578, 29663124527737455, 2166370299393436117094], [7238772, 1868986741, 1936355176, 1936748654, 495638963578, 113706832781941, 29663124527737455, 7094423296302869882, 2166370299393436117094, 2185031810038563365493]⟩
noncomputable def c346 : CCls := ⟨307, [(27713604781302886, 322), (117048066012774, 329), (31647657452007285, 336)], [], [33885206581243752], [6649446, 435510141562, 29663124527800945, 33885206581243752]⟩
noncomputable def c430 : CCls := ⟨364, [(132398530785400, 371)], [], [1953135462, 8434202089490929658699170082664], [7238772, 1852863605, 1953135462, 7521703423213004389, 2165867586270492912997, 479143903876410022127220, 128695709512068845660042868, 8434202089490929658699170082664]⟩
noncomputable def c507 : CCls := ⟨448, [(1963740703419355787112, 455), (1952870261, 462), (113732670219893, 469), (422591620709, 476), (132364088206949, 497), (7306635633222119270, 504)], [], [504447526516, 7382654789146015078, 8460696236035433077, 2165938236425071128421], [504447526516, 7382654789146015078, 8460696236035433077, 2165938236425071128421, 521534740171454681867892]⟩
noncomputable def c563 : CCls := ⟨525, [(127966108544358, 532), (8986635207538105349207055431285, 546), (33049594672739957, 553), (27989676671723109, 560)], [], [1852863605, 444167582837, 469869163637, 7955154044139562597], [1852863605, 444167582837, 469869163637, 474164129593, 32775837751338293, 7955154044139562597]⟩
noncomputable def c675 : CCls := ⟨637, [(1953135462, 644), (1702064241, 672)], [], [1768320357], [1768320357, 1936748654]⟩
noncomputable def c710 : CCls := ⟨693, [(7670862096895600243, 700), (1969384550, 707)], [], [1852863605, 1953135462, 8462383982005347436, 8462383982006527602], [1852863605, 1936355176, 1953135462, 8462383982005347436, 8462383982006527602]⟩
noncomputable def c901 : CCls := ⟨728, [(141909112435621387466797176, 743), (113719634323829, 764), (1870215836399066050421, 778), (130221066317685, 785), (502717616134709534094950, 792), (448561967215, 813), (500185592693, 820), (124701798327924, 835), (1890171586514619101045, 849), (36224621959600266744917242072165224837990, 877), (134674336236946196091921254, 884), (422591620709, 898)], [(132398530785400, 735)], [6976628, 7238772, 7761762, 1868986741, 1902536307, 1936355176, 491612698214, 7526471975328707701, 1907684094258495383141, 140813578324247591380479848], [6976628, 7238772, 7761762, 1868986741, 1902536307, 1936355176, 491612698214, 7451890993498320757, 7526471975328707701, 1907684094258495383141, 140813578324247591380479848]⟩
noncomputable def c965 : CCls := ⟨941, [(6906484, 948), (120286723208553, 955), (7565432, 962)], [], [6448236, 7628402, 444216797300, 130238044860277, 132398530785400, 31649946502459252, 31914950329918053, 140766485152062458695807861, 141909241708630599919498101], [6448236, 7628402, 444216797300, 130238044860277, 132398530785400, 31649946502459252, 31914950329918053, 140766485152062458695807861, 141909241708630599919498101]⟩
noncomputable def c1095 : CCls := ⟨1045, [(7435893, 1052), (30797820879466599, 1059), (110373938423405, 1066), (33049594671689831, 1073)], [], [1835169126, 1953135462, 448462808687, 500052292980, 28832997862696564, 32482195099182693], [1835169126, 1953135462, 448462808687, 500052292980, 28832997862696564, 32482195099182693]⟩
noncomputable def c1116 : CCls := ⟨1113, [], [], [7238772, 1936355176, 1815017183913440010874, 2147203542329519534190, 521534740171454681867892, 34179300731876444152469157493, 35714560688943270616754057326, 8193445726439276679900121036405, 8667556209746643876490515609205], [7238772, 1936355176, 1815017183913440010874, 2147203542329519534190, 2165938236403998681717, 521534740171454681867892, 34179300731876444152469157493, 35714560688943270616754057326, 8193445726439276679900121036405, 8667556209746643876490515609205]⟩
noncomputable def c1159 : CCls := ⟨1141, [(568647359761743812194424, 1148), (1851944038, 1156)], [], [1650748532, 431332811884, 440023609459, 470037062253, 500185593190, 517164394093, 120303886431604, 126883776722278, 127983304402547, 7670862096827444582, 8315444153021851251, 474310711402206151209071], [1650748532, 431332811884, 440023609459, 470037062253, 500185593190, 517164394093, 120303886431604, 124740620740212, 126883776722278, 127983304402547, 7670862096827444582, 8315444153021851251, 474310711402206151209071, 559293926586798491002469]⟩
noncomputable def ntG : List Str := [Str.ofString "ring", Str.ofString "parts", Str.ofString "mss", Str.ofString "next", Str.ofString "room", Str.ofString "ready", Str.ofString "has_fin", Str.ofString "told_edge", Str.ofString "fin_at", Str.ofString "assembly", Str.ofString "urgent_at", Str.ofString "window", Str.ofString "free_edge", Str.ofString "should_tell", Str.ofString "told_window", Str.ofString "waiting", Str.ofString "due", Str.ofString "delay", Str.ofString "has_gap", Str.ofString "is_due", Str.ofString "at_once", Str.ofString "on_sent", Str.ofString "size", Str.ofString "is_recovering", Str.ofString "most", Str.ofString "gathered", Str.ofString "threshold", Str.ofString "duplicates", Str.ofString "is_cautious", Str.ofString "tries", Str.ofString "estimate", Str.ofString "timed_at", Str.ofString "timed_end", Str.ofString "most_tries", Str.ofString "sent", Str.ofString "acked", Str.ofString "forget", Str.ofString "waited", Str.ofString "deadline", Str.ofString "is_timing", Str.ofString "first", Str.ofString "least", Str.ofString "measured", Str.ofString "mean8", Str.ofString "spread4", Str.ofString "sample", Str.ofString "bounded", Str.ofString "timeout", Str.ofString "plain_timeout", Str.ofString "held", Str.ofString "drop", Str.ofString "told_ack", Str.ofString "told_seq", Str.ofString "take", Str.ofString "is_newer", Str.ofString "iss", Str.ofString "una", Str.ofString "peer", Str.ofString "queue", Str.ofString "greatest", Str.ofString "fin_asked", Str.ofString "syn_pending", Str.ofString "fin_sent", Str.ofString "go_on", Str.ofString "start", Str.ofString "flight", Str.ofString "pieces", Str.ofString "unsent", Str.ofString "data_sent", Str.ofString "ever_sent", Str.ofString "is_fin_due", Str.ofString "needs_probe", Str.ofString "take_window", Str.ofString "is_idle_with_more", Str.ofString "ack", Str.ofString "seq", Str.ofString "flags", Str.ofString "urgent", Str.ofString "options", Str.ofString "payload", Str.ofString "source_port", Str.ofString "target_port", Str.ofString "has", Str.ofString "row", Str.ofString "length", Str.ofString "late", Str.ofString "given", Str.ofString "slots", Str.ofString "entries", Str.ofString "reached", Str.ofString "put", Str.ofString "cancel", Str.ofString "list_of", Str.ofString "time_of", Str.ofString "ack_delay", Str.ofString "send_room", Str.ofString "most_timeout", Str.ofString "receive_room", Str.ofString "first_timeout", Str.ofString "least_timeout", Str.ofString "time_wait", Str.ofString "acks", Str.ofString "clock", Str.ofString "error", Str.ofString "local", Str.ofString "state", Str.ofString "wheel", Str.ofString "limits", Str.ofString "remote", Str.ofString "sender", Str.ofString "is_nagle", Str.ofString "receiver", Str.ofString "congestion", Str.ofString "probes", Str.ofString "unanswered", Str.ofString "make", Str.ofString "window_now"]
noncomputable def fnsG : List (Nat × CFn) := [(28, f28), (35, f35), (42, f42), (49, f49), (63, f63), (77, f77), (174, f174), (181, f181), (188, f188), (195, f195), (202, f202), (307, f307), (322, f322), (329, f329), (336, f336), (364, f364), (371, f371), (448, f448), (455, f455), (462, f462), (469, f469), (476, f476), (497, f497), (504, f504), (525, f525), (532, f532), (546, f546), (553, f553), (560, f560), (637, f637), (644, f644), (672, f672), (693, f693), (700, f700), (707, f707), (728, f728), (735, f735), (743, f743), (764, f764), (778, f778), (785, f785), (792, f792), (813, f813), (820, f820), (835, f835), (849, f849), (877, f877), (884, f884), (898, f898), (912, f912), (941, f941), (948, f948), (955, f955), (962, f962), (976, f976), (983, f983), (990, f990), (1018, f1018), (1032, f1032), (1045, f1045), (1052, f1052), (1059, f1059), (1066, f1066), (1073, f1073), (1113, f1113), (1127, f1127), (1141, f1141), (1148, f1148), (1156, f1156), (1170, f1170), (1177, f1177), (1191, f1191), (1198, f1198), (1205, f1205), (1219, f1219), (1226, f1226), (1233, f1233), (1240, f1240), (1247, f1247), (1275, f1275), (1282, f1282), (1289, f1289), (1297, f1297), (1304, f1304), (1318, f1318), (1325, f1325), (1332, f1332), (1381, f1381), (1409, f1409), (1423, f1423), (1430, f1430), (1437, f1437), (1444, f1444), (1451, f1451), (1456, f1456), (1463, f1463)]
noncomputable def clsG : List (Nat × CCls) := [(155, c155), (289, c289), (346, c346), (430, c430), (507, c507), (563, c563), (675, c675), (710, c710), (901, c901), (965, c965), (1095, c1095), (1116, c1116), (1159, c1159)]
noncomputable def ctG : List (Nat × List AV × AV) := [(1011, [.str 110421200889445, .str 28271121583727733], .str 8393143045035814773), (1011, [.str 8393143045035814773, .str 7633519], .str 36048274889006609847444530789), (1011, [.str 8393143045035814773, .str 32785715018490988], .str 123860393471392221080675941)]
end Mine

-- D35
namespace Mine
open PySem PySem.W PySem.Calls PyProof.Rows PySem.SeqAt PySem.MeetsSeq PySem.Spec PyProof.V

noncomputable def P7 : List (X × X) := [(.tup [.glob (.str 110421200889445), .str 120303987811951], .glob (.str 120303987811951)),
 (.tup [.glob (.str 110421200889445), .str 28271121583727733], .glob (.str 8393143045035814773)),
 (.tup [.glob (.str 120303987811951), .str 28271121583727733], .glob (.str 8393143045035814773)),
 (.tup [.glob (.str 120303987811951), .str 7633519], .glob (.str 36048274889006609847444530789)),
 (.tup [.glob (.str 8393143045035814773), .str 7633519], .glob (.str 36048274889006609847444530789)),
 (.tup [.glob (.str 8393143045035814773), .str 32785715018490988], .glob (.str 123860393471392221080675941)),
 (.tup [.glob (.str 36048274889006609847444530789), .str 464644381361014758996591], .glob (.str 123860393471392221080675941))]
noncomputable def T7 : List (Str × Str × Str) := [("closed", "listen", "listen"), ("closed", "connect", "syn sent"), ("listen", "connect", "syn sent"), ("listen", "syn", "syn received"), ("syn sent", "syn", "syn received"), ("syn sent", "syn ack", "established"), ("syn received", "ack of syn", "established")]
noncomputable def G0 : Cfg := ⟨[], [], [], []⟩
noncomputable def ev7 : Option (List (AV × AV) × St) := evPairs (recs G0 8).E P7 { loc := [], objs := [], next := 0 }
noncomputable def l7 : List (AV × AV) := match ev7 with | some r => r.1 | none => []
noncomputable def σ7 : St := match ev7 with | some r => r.2 | none => {}
noncomputable def SF1 : S := .ite (.cmp (.eq) (.loc 440089866101) (.str 495640143477)) [.any] []
noncomputable def SF2 : S := .ite (.cmp (.eq) (.loc 440089866101) (.str 422575108981)) [.any] []
noncomputable def SF3 : S := .ite (.cmp (.eq) (.loc 440089866101) (.str 33049594672739957)) [.any] []
noncomputable def SF5 : S := .ret (.ite (.cmp (.is) (.loc 444268441445) (.none)) .any (.loc 444268441445))
theorem he7 : evPairs (recs G0 8).E P7 { loc := [], objs := [], next := 0 } = some (l7, σ7) := by rfl
theorem hT7 : keysOk σ7 T7 l7 = true := by decide +kernel

section
variable {C : Cx} {F : Facts}
structure Fits (K : Frag) : Prop where
  fns : fnsG.all (fun p => fnFit K 12 p.1 p.2) = true
  cls : clsG.all (fun p => clsFit K ntG p.1 p.2) = true
  fol : fnFit K 12 1011 ⟨[500185593190, 440089866101], [], [SF1, SF2, SF3, .any, SF5]⟩ = true
  fnd : foundFit K 12 1011 997 500185593190 440089866101 444268441445 = true
  opn : fnFit K 12 997 ⟨[], [], [.any]⟩ = true
  dct : dictFit K 12 997 P7 = true

theorem lk_all {α : Type} {f : Nat × α → Bool} : ∀ {l : List (Nat × α)} {a : Nat} {x : α}, l.all f = true → l.lookup a = some x → f (a, x) = true := by
  intro l a x h e
  exact List.all_eq_true.mp h _ (mem_lookup e)
theorem follow_case (W : Fits C.K) {x y z : Nat} {s1 s2 s3 : Str} (hx : enc s1 = some x) (hy : enc s2 = some y) (hz : enc s3 = some z) (hg : (lookup (encTuple PyData.str [s1, s2]) (putAllT (tabD T7) [])).getD .none = PyData.str s3)
    (e1 : execA G0 (recs G0 8) (keyF 500185593190 440089866101 x y) SF1 = some (.next, keyF 500185593190 440089866101 x y)) (e2 : execA G0 (recs G0 8) (keyF 500185593190 440089866101 x y) SF2 = some (.next, keyF 500185593190 440089866101 x y))
    (e3 : execA G0 (recs G0 8) (keyF 500185593190 440089866101 x y) SF3 = some (.next, keyF 500185593190 440089866101 x y))
    (e5 : execA G0 (recs G0 8) ((keyF 500185593190 440089866101 x y).setLoc 444268441445 (.str z)) SF5 = some (.ret (.str z), (keyF 500185593190 440089866101 x y).setLoc 444268441445 (.str z)))
    (c : Fm) (A : Around) (σ : St) (ρ : Nat → Addr) (s : Shared) (cvs : List Value) (O : c.Ok C A 12) (hv : F2 (VR C.V ρ σ.next) [.str x, .str y] cvs) (S : SR C c ρ σ s.heap) : GivesC C c A (.ref 1011) cvs ρ σ σ (.str z) s := by
  have G : ({ C with G := G0 } : Cx).Ok 12 ntG := { fns := fun a f e => (nomatch e), cls := fun a f e => (nomatch e), F := fun p hp => (nomatch hp), ctk := fun t ht => (nomatch ht), ct := fun t ht => (nomatch ht) }
  have O' : c.Ok { C with G := G0 } A (8 + 2) := { B := O.B, fr := O.fr, hd := O.hd, scr := O.scr, X := O.X, T := O.T, kind := O.kind, room := by have := O.room; omega, units := by have := O.units; omega }
  have key := follow_sound (C := { C with G := G0 }) (H := recs_sound G 0 (.inr rfl) 8 |> fun h => (Nat.zero_add 8) ▸ h) G O' W.fol W.fnd W.opn W.dct he7 hT7 (by decide) hx hy hz hg rfl e1 e2 e3 e5 hv S
  exact key
theorem ctx_ok (W : Fits C.K) (hG : C.G = ⟨F, fnsG, clsG, ctG⟩) (hF : F.Ok C.V) : C.Ok 12 ntG := by
  refine { fns := fun a f e => ?_, cls := fun a k e => ?_, F := by rw [hG]; exact hF, ctk := fun t ht => ?_, ct := fun t ht c A σ ρ s cvs O hv S => ?_ }
  · rw [hG] at e
    exact lk_all W.fns e
  · rw [hG] at e
    exact lk_all W.cls e
  · rw [hG] at ht
    have h1 : t.1 = 1011 := by
      simp only [ctG, List.mem_cons, List.not_mem_nil, or_false] at ht
      rcases ht with rfl | rfl | rfl <;> rfl
    rw [h1]
    exact fn_inv W.fol fun _ _ _ _ _ _ _ _ _ _ _ _ _ Wo => Wo.keep
  · rw [hG] at ht
    simp only [ctG, List.mem_cons, List.not_mem_nil, or_false] at ht
    rcases ht with rfl | rfl | rfl
    · exact follow_case W (s1 := "closed") (s2 := "connect") (s3 := "syn sent") (by decide +kernel) (by decide +kernel) (by decide +kernel) (by rfl) (by rfl) (by rfl) (by rfl) (by rfl) c A σ ρ s cvs O hv S
    · exact follow_case W (s1 := "syn sent") (s2 := "syn") (s3 := "syn received") (by decide +kernel) (by decide +kernel) (by decide +kernel) (by rfl) (by rfl) (by rfl) (by rfl) (by rfl) c A σ ρ s cvs O hv S
    · exact follow_case W (s1 := "syn sent") (s2 := "syn ack") (s3 := "established") (by decide +kernel) (by decide +kernel) (by decide +kernel) (by rfl) (by rfl) (by rfl) (by rfl) (by rfl) c A σ ρ s cvs O hv S
end
end Mine

-- D36
namespace Mine
open PySem PySem.W PySem.Calls PyProof.Rows PySem.SeqAt PySem.MeetsSeq

/-! the head, for a walk that is run in mode C: where the stack is not clean the call is passed over -/
noncomputable def cleanB (st : List (Code × Pos)) : Bool := st.all fun x => !isDec x.1
noncomputable def guarded {α : Type} (t e : Sem α) : Sem α := stack >>= fun st => if cleanB st = true then t else e
theorem clean_of {Γ : Ctx} {p : Pos} (h : cleanB ((Γ.code, p) :: Γ.below) = true) : Clean Γ := by
  unfold cleanB at h
  rw [List.all_cons, Bool.and_eq_true, List.all_eq_true] at h
  refine ⟨by have := h.1; simpa using this, fun x hx => by have := h.2 x hx; simpa using this⟩
theorem wp_guarded {α : Type} {M : Model} {Γ : Ctx} {p : Pos} {s : Shared} {t e : Sem α} {Q : α → Pos → Shared → Prop} {E : Value → Pos → Shared → Prop} :
    Sem.wp M Γ (guarded t e) Q E p s = Sem.wp M Γ (if cleanB ((Γ.code, p) :: Γ.below) = true then t else e) Q E p s := by
  show Sem.wp M Γ (Sem.bind stack _) Q E p s = _
  unfold stack
  rw [Sem.wp_bind, Sem.wp_stack]
  rfl
theorem wpAny_guarded {α : Type} {M : Model} {A : Around} {t e : Sem α} {Q : α → Shared → Prop} {E : Value → Shared → Prop} {s : Shared} (h : wpC M A t Q E s) (he : wpAny M A e Q E s) : wpAny M A (guarded t e) Q E s := fun Γ p hΓ => by
  rw [wp_guarded]
  cases hc : cleanB ((Γ.code, p) :: Γ.below) with
  | true => rw [if_pos rfl]; exact h Γ p hΓ (clean_of hc)
  | false => rw [if_neg (by decide)]; exact he Γ p hΓ

noncomputable def tree0 (name : Str) (vs : List Value) : Sem Fin := do match ← nsGet mainNs name with
  | some f => do ret (← PySem.call f vs)
  | none => unsupported "claim.caller:no-such-global"
noncomputable def tree1 (name : Str) (vs : List Value) : Sem Fin := guarded (tree0 name vs) (pure (.done (.ret (.bool true))))

theorem tree1_of {M : Model} {A : Around} {name : Str} {vs : List Value} {s : Shared} {mg : Str → Option Value} {f : Value} {Q : Fin → Shared → Prop} {E : Value → Shared → Prop} (hg : s.heap.Ns mainGlobals mg) (hf : mg name = some f)
    (h : wpAny M A (guarded (PySem.call f vs) (pure (.bool true))) (fun v s' => Q (.done (.ret v)) s') E s) : wpAny M A (tree1 name vs) Q E s := fun Γ p hΓ => by
  unfold tree1
  rw [wp_guarded]
  cases hc : cleanB ((Γ.code, p) :: Γ.below) with
  | true =>
    rw [if_pos rfl]
    have hcl := clean_of hc
    have key : wpC M A (tree0 name vs) Q E s := by
      unfold tree0
      refine wpC_bind (wpC_of (wpAny_nsGet hg ?_))
      rw [hf]
      refine wpC_bind (wpC_mono (Q := fun v s' => Q (.done (.ret v)) s') (fun Γ' p' hΓ' hc' => ?_) (fun v s' hq => wpC_pure hq) fun _ _ x => x)
      have := h Γ' p' hΓ'
      rw [wp_guarded] at this
      have e : cleanB ((Γ'.code, p') :: Γ'.below) = true := by
        unfold cleanB
        rw [List.all_cons, Bool.and_eq_true, List.all_eq_true]
        exact ⟨by simpa using hc'.1, fun x hx => by simpa using hc'.2 x hx⟩
      rw [if_pos e] at this
      exact this
    exact key Γ p hΓ hcl
  | false =>
    rw [if_neg (by decide)]
    have := h Γ p hΓ
    rw [wp_guarded, hc, if_neg (by decide)] at this
    exact this

theorem sched_stack {prog : Program} {w : World} {s s' : Shared} {k : List (Code × Pos) → Sem Fin} {o : Outcome} (hz : s.asleep) : ∀ {n : Nat},
    schedN (denote table) prog w n (.single s ⟨.stack k, .builtin "claim.caller" {}, default, []⟩) = .halted o s' → ∃ n', schedN (denote table) prog w n' (.single s ⟨k [(.builtin "claim.caller" {}, default)], .builtin "claim.caller" {}, default, []⟩) = .halted o s'
  | 0, h => by cases h
  | n + 1, h => by
    refine ⟨n, ?_⟩
    have hc : (⟨.stack k, .builtin "claim.caller" {}, default, []⟩ : Thread).calm = true := by
      simp [Thread.calm, Thread.yieldsInsideHandler, Thread.atCollectorCode]
    rcases sstep_single (denote table) prog w s _ hc hz with e | e
    · unfold schedN at h
      rw [e] at h
      exact h
    · cases e
end Mine

-- D37
namespace Mine
open PySem PySem.W PySem.Calls PyProof.Rows PySem.SeqAt PySem.MeetsSeq

theorem sched_tree1 {prog : Program} {w : World} {s s' : Shared} {name : Str} {vs : List Value} {o : Outcome} (hz : s.asleep) {n : Nat}
    (h : schedN (denote table) prog w n (.single s ⟨tree1 name vs, .builtin "claim.caller" {}, default, []⟩) = .halted o s') : ∃ n', schedN (denote table) prog w n' (.single s (callStub name vs)) = .halted o s' := by
  obtain ⟨n', e⟩ := sched_stack (k := fun st => if cleanB st = true then tree0 name vs else pure (.done (.ret (.bool true)))) hz h
  refine ⟨n', ?_⟩
  rw [if_pos (by decide +kernel)] at e
  exact e

theorem holdsOpen_map {c : ClaimW} {name : Str} {defs kps : List Str} {writes : Bool} (h : c.HoldsOpenBy (fun vs => ⟨tree1 name vs, .builtin "claim.caller" {}, default, []⟩) defs kps writes) : c.HoldsOpenBy (callStub name) defs kps writes := by
  obtain ⟨h1, h2, h3⟩ := h
  refine ⟨h1, h2, fun w => ⟨(h3 w).1, fun s hs => Classical.byContradiction fun hn => ?_⟩⟩
  obtain ⟨s₀, a1, a2, s₁, a3, a4, a5, a6, a7⟩ := (h3 w).2 s hs
  refine hn ⟨s₀, a1, a2, s₁, a3, a4, a5, a6, fun args hp hl ord ho => Classical.byContradiction fun hn => ?_⟩
  have z₀ : s₀.asleep := Shared.asleep_of_life (fence_lifeW a1) (AfterImport.life (prog := opening c.prog) (w := w) hs)
  have z₁ : s₁.asleep := Shared.asleep_of_life a3.2.1 z₀
  obtain ⟨vs, s₂, b1, n, o, s', b2, b3⟩ := a7 args hp hl ord ho
  have z₂ : s₂.asleep := Shared.asleep_of_life (layAllW_rest _ _ _ b1).2.2.2 z₁
  obtain ⟨n', e⟩ := sched_tree1 z₂ b2
  exact hn ⟨vs, s₂, b1, n', o, s', e, b3⟩

end Mine
open PySem PySem.W PySem.Calls PyProof.Rows PySem.SeqAt PySem.MeetsSeq Mine
theorem MineHd.holds_open {r : OpenRow} {q : Program} {loose : List Str} {Xt : Shared → Bool} {XP : (Str → Option Value) → Heap → Prop} {α : Type} {Yf : Shared → α} {Ya : World → α} {YP : World → Heap → Prop} {d : DefRec} {kwd : List (Str × Expr)} {N : Nat}
    (left : LeftO r.prog q loose Xt Yf Ya N) (hY : ∀ w s, Yf s = Ya w → YP w s.heap) (hYk : ∀ w h h', YP w h → (∀ b o, h.get? b = some o → h'.get? b = some o) → YP w h')
    (hX : ∀ s, Xt s = true → XP (s.heap.nsMap mainGlobals) s.heap) (hXk : ∀ mg h h', XP mg h → (∀ b o, h.get? b = some o → h'.get? b = some o) → XP mg h')
    (hdef : defOf q r.name = some (d, kwd)) (hp : r.prog.theDef r.name = some (d.params, d.body, d.scope)) (hk : kwWritten? d.params.kwonlyargs d.params.kw_defaults = some kwd) (hRf : ∀ s, Xt s = true → RecFacts r.records s.heap) (hwr : (!r.writes || r.records.isEmpty) = true)
    (k1 : r.wellSaid = true) (ok : (chainsOk q && opensWell r.prog && (frees r.toRowW && r.within.isEmpty)) = true) (hb : r.prog.bare) (hw : r.toRowW.promised)
    (call : WalkO q loose XP YP r.toRowW d kwd fun f vs => guarded (PySem.call f vs) (pure (.bool true))) : r.Holds := by
  refine ⟨k1, hw, holdsOpen_map (open_anyG (r := r.toRowW) (run := fun f vs => guarded (PySem.call f vs) (pure (.bool true))) (tree := tree1 r.name) left hY hYk hX hXk hRf hwr ok hb hw
    (fun vs w s mg f Q E hg hf h => tree1_of hg hf h) (fun w s hg G n hn => ?_) fun w s₀ s₁ mg mb G Y args vs as hpre hlay L low => ?_)⟩
  · have e : n = r.name := by
      split at hn
      · exact List.mem_singleton.mp hn
      · cases hn
    subst e
    exact pinned_of_view hg G hdef hp hk
  · obtain ⟨a, o, pm, cd, doc, dV, kV, h1, h2, h3, h4, h5⟩ := G.fn hdef
    exact ⟨.ref a, h1, call w s₀ s₁ mg mb G Y a o pm cd doc dV kV h2 h3 h4 h5 (defOf_name hdef ▸ h1) L.gens args vs as hpre hlay L.reads L.well (L.low low)⟩

-- D38
namespace Mine
open PySem PySem.W PySem.Calls PyProof.Rows PySem.SeqAt PySem.MeetsSeq

noncomputable def cfg (F : Facts) : Cfg := ⟨F, fnsG, clsG, ctG⟩
noncomputable def CV (B : Cx) (V : Nat → Int) (F : Facts) : Cx := { B with V := V, G := cfg F }
noncomputable def Agree (V V' : Nat → Int) : Prop := V 100 = V' 100 ∧ V 101 = V' 101 ∧ V 102 = V' 102

section
variable {B : Cx} {c : Fm} {A : Around} {V V' : Nat → Int} {F F' : Facts} {n : Nat} {ρ : Nat → Addr} {σ : St} {h : Heap} {X : List (Addr × Obj)}
theorem Ok_view (O : c.Ok (CV B V F) A n) (ag : Agree V' V) : c.Ok (CV B V' F') A n :=
  { B := O.B, fr := O.fr, hd := O.hd, X := O.X, T := O.T, kind := O.kind, room := O.room, units := O.units
    scr := by
      obtain ⟨vs, ns, il, r1, r2, r3, r4⟩ := O.scr
      have a2 : V' 102 = V 102 := ag.2.2
      refine ⟨vs, ns, ?_, r1, ag.1.trans r2, r3, fun x r e => ag.2.1.trans (r4 x r e)⟩
      show c.h₀.IsList (V' 102).toNat vs.toArray
      rw [a2]; exact il }
theorem SR_facts (S : SR (CV B V F) c ρ σ h) : SR (CV B V F') c ρ σ h := S

/-- what is known is said anew: the source alone, and names out of plain values -/
theorem SR.anew (S : SR (CV B V F) (c.at X) ρ σ h) {ks j : Nat} {e0 e1 : SI} {l : List (Nat × AV)} (hs : σ.loc.lookup ks = some (.own j)) (hj : σ.obj j = some (.list [.int e0, .int e1])) (h0 : V' 0 = e0.den V) (h1 : V' 1 = e1.den V)
    (hl : ∀ p ∈ l, (p.1 = ks ∧ p.2 = .own 0) ∨ ∃ av, σ.loc.lookup p.1 = some av ∧ ∀ v, VR V ρ σ.next av v → VR V' (fun _ => ρ j) 1 p.2 v) :
    SR (CV B V' F') (c.at X) (fun _ => ρ j) { loc := l, objs := [(0, .list [.int (.v 0), .int (.v 1)])], next := 1 } h := by
  have ne := fun p (hp : p ∈ X) => S.ne_own hp hj
  refine S.own fun m own Fr' N lr Ob nd => ?_
  obtain ⟨_, o, mo, its, k1, rfl, r⟩ := Ob.get hj
  have nX : (X.map (·.1)).Nodup := S.nodup
  have hob : OR V' (fun _ => ρ j) 1 (CV B V' F').prog (CV B V' F').w (.list [.int (.v 0), .int (.v 1)]) (PySem.W.listOf its.toArray k1) := by
    cases r with
    | cons ra rr => cases rr with
      | cons rb rn =>
        cases rn
        obtain ⟨t0, rfl⟩ := ra
        obtain ⟨t1, rfl⟩ := rb
        exact ⟨_, k1, rfl, .cons ⟨t0, congrArg (Value.int · t0) h0.symm⟩ (.cons ⟨t1, congrArg (Value.int · t1) h1.symm⟩ .nil)⟩
  refine ⟨m, [(ρ j, _)] ++ X, Fr', fun p hp => ?_, fun s k av' hk e => ?_, ⟨[(ρ j, _)], rfl, .cons ⟨Nat.zero_lt_one, rfl, hob, fun q => nomatch q⟩ .nil⟩, List.nodup_cons.mpr ⟨fun hm => (List.mem_map.mp hm).elim fun p z => ne p z.1 z.2.symm, nX⟩⟩
  · rcases List.mem_append.mp hp with hp | hp
    · cases List.mem_singleton.mp hp
      exact N _ (List.mem_append_left _ mo)
    · exact N _ (List.mem_append_right _ hp)
  · rcases hl _ (mem_lookup e) with ⟨rfl, rfl⟩ | ⟨av, e1, e2⟩
    · obtain ⟨v, a, _, rfl⟩ := lr s _ _ hk hs
      exact ⟨_, a, Nat.zero_lt_one, rfl⟩
    · obtain ⟨v, a, b⟩ := lr s k av hk e1
      exact ⟨v, a, e2 v b⟩
end
end Mine

-- D39
namespace Mine
open PySem PySem.W PySem.Calls PyProof.Rows PySem.SeqAt PySem.MeetsSeq

abbrev kScr : Nat := 127974781907317
abbrev kSrc : Nat := 128026372432998
abbrev kIss : Nat := 6976628
abbrev kFlg : Nat := 444216797300
abbrev kSeq : Nat := 7628402
abbrev kWin : Nat := 132398530785400
noncomputable def flagsL : List Int := [0, 2, 4, 6, 8, 10, 16, 18, 20, 22, 26]
noncomputable def sA : S := match f1463.body with | [a, _, _, _] => a | _ => .any
noncomputable def sB : S := match f1463.body with | [_, b, _, _] => b | _ => .any
noncomputable def sSwap : S := match f1463.body with | [_, _, .forL _ _ [a, _], _] => a | _ => .any
noncomputable def sInner : S := match f1463.body with | [_, _, .forL _ _ [_, b], _] => b | _ => .any
noncomputable def xFlags : X := .list (flagsL.map .int)
theorem law_body : f1463.body = [sA, sB, .forL (.loc kFlg) xFlags [sSwap, sInner], .ret (.bool true)] := rfl
/-- what has been drawn stands: the source is a list of two ints -/
noncomputable def srcOk (σ : St) : Bool := (ob (σ.loc.lookup kSrc) fun v => onOwn v fun j => σ.list j fun l => on2 l fun a b => onInt a fun _ => onInt b fun _ => some ()).isSome
noncomputable def isScr (σ : St) : Bool := decide (σ.loc.lookup kScr = some .scr)
noncomputable def intIs (σ : St) (k : Nat) (p : SI → Bool) : Bool := (ob (σ.loc.lookup k) fun v => onInt v fun e => gd (p e) (some ())).isSome
noncomputable def isInt (σ : St) (k : Nat) : Bool := intIs σ k fun _ => true
noncomputable def chk (p : St → Bool) (r : Option (AFlow × St)) : Bool := match r with
  | some q => match q.1 with
    | .next => p q.2
    | .ret _ => false
  | none => false
theorem chk_of {p : St → Bool} {r : Option (AFlow × St)} (h : chk p r = true) : ∃ σ, r = some (.next, σ) ∧ p σ = true := by
  cases r with
  | none => exact no h
  | some q =>
    obtain ⟨a, σ⟩ := q
    cases a with
    | next => exact ⟨σ, rfl, h⟩
    | ret => exact no h
theorem onInt_eq {β : Type} {r : β} {v : AV} {f : SI → Option β} (h : onInt v f = some r) : ∃ e, v = .int e ∧ f e = some r := by
  cases v <;> first | exact nso h | exact ⟨_, rfl, h⟩
theorem onOwn_eq {β : Type} {r : β} {v : AV} {f : Nat → Option β} (h : onOwn v f = some r) : ∃ e, v = .own e ∧ f e = some r := by
  cases v <;> first | exact nso h | exact ⟨_, rfl, h⟩
theorem on2_eq {β : Type} {r : β} {l : List AV} {f : AV → AV → Option β} (h : on2 l f = some r) : ∃ a b, l = [a, b] ∧ f a b = some r := by
  cases l with
  | nil => exact nso h
  | cons a l => cases l with
    | nil => exact nso h
    | cons b l =>
      have h' := gr h
      cases isEmpty_eq (gl h)
      exact ⟨a, b, rfl, h'⟩
theorem srcOk_of {σ : St} (h : srcOk σ = true) : ∃ j e0 e1, σ.loc.lookup kSrc = some (.own j) ∧ σ.obj j = some (.list [.int e0, .int e1]) := by
  obtain ⟨_, h⟩ := Option.isSome_iff_exists.mp h
  refine ob_inv h fun v ev h => ?_
  obtain ⟨j, rfl, h⟩ := onOwn_eq h
  refine list_inv h fun l el h => ?_
  obtain ⟨a, b, rfl, h⟩ := on2_eq h
  obtain ⟨e0, rfl, h⟩ := onInt_eq h
  obtain ⟨e1, rfl, h⟩ := onInt_eq h
  exact ⟨j, e0, e1, ev, el⟩
theorem isScr_of {σ : St} (h : isScr σ = true) : σ.loc.lookup kScr = some .scr := of_decide_eq_true h
theorem intIs_of {σ : St} {k : Nat} {p : SI → Bool} (h : intIs σ k p = true) : ∃ e, σ.loc.lookup k = some (.int e) ∧ p e = true := by
  obtain ⟨_, h⟩ := Option.isSome_iff_exists.mp h
  refine ob_inv h fun v ev h => ?_
  obtain ⟨e, rfl, h⟩ := onInt_eq h
  exact ⟨e, ev, gl h⟩
theorem isInt_of {σ : St} {k : Nat} (h : isInt σ k = true) : ∃ e, σ.loc.lookup k = some (.int e) := (intIs_of h).imp fun _ z => z.1
/-- the runs -/
noncomputable def lead : SI := .max (.v 101) (.sub (.c (-1)) (.v 101))
noncomputable def F1 (b0 b1 : Bool) : Facts := [(.lt (.c 0) (.v 100), b0), (.lt lead (.c 1000000000000000000), b1)]
noncomputable def σ1 : St := { loc := [(kScr, .scr)], objs := [], next := 0 }
noncomputable def p1 (σ : St) : Bool := srcOk σ && isScr σ
noncomputable def s1 : SI := .mod (.add (.mul (.v 1) (.c 39373)) (.c 7)) (.c 2147483647)
noncomputable def draw1 (m : Int) : SI := .mod (.div (.mod (.mul s1 s1) (.c 2147483629)) (.c 32)) (.c m)
noncomputable def σ2 : St := { loc := [(kScr, .scr), (kSrc, .own 0)], objs := [(0, .list [.int (.v 0), .int (.v 1)])], next := 1 }
noncomputable def F2a (b : Bool) (k : Int) : Facts := [(.lt (.c 0) (.v 0), b), (.eq (if b then .mod (.v 0) (.c 3) else draw1 3) (.c k), true)]
noncomputable def isC3 : SI → Bool
  | .c i => decide (i = 255 ∨ i = 250 ∨ i = 9)
  | _ => false
noncomputable def p2 (σ : St) : Bool := srcOk σ && isScr σ && intIs σ kIss isC3
noncomputable def nextS (s : SI) : SI := .mod (.add (.mul s (.c 39373)) (.c 7)) (.c 2147483647)
noncomputable def drawS (s : SI) (m : Int) : SI := .mod (.div (.mod (.mul s s) (.c 2147483629)) (.c 32)) (.c m)
noncomputable def σ3 : St := { loc := [(kScr, .scr), (kSrc, .own 0), (kIss, .int (.v 61)), (kFlg, .int (.v 60))], objs := [(0, .list [.int (.v 0), .int (.v 1)])], next := 1 }
noncomputable def idx3 (b0 b1 : Bool) : SI := if b0 then (if b1 then .mod (.div (.v 0) (.c 256)) (.c 4) else drawS (nextS (.v 1)) 4) else drawS (nextS (nextS (.v 1))) 4
noncomputable def F3 (b0 b1 b2 : Bool) (k : Int) : Facts := [(.lt (.c 0) (.v 0), b0), (.lt (.c 0) (.div (.v 0) (.c 256)), b1), (.lt (.c 0) (.div (.div (.v 0) (.c 256)) (.c 4)), b2), (.eq (idx3 b0 b1) (.c k), true)]
noncomputable def isV (k : Nat) (e : SI) : Bool := decide (e = .v k)
noncomputable def p3 (σ : St) : Bool := srcOk σ && isScr σ && intIs σ kIss (isV 61) && intIs σ kFlg (isV 60) && isInt σ kSeq && isInt σ kWin
theorem t3 : ∀ b0 b1 b2, ∀ k : Fin 4, chk p3 (execA (cfg (F3 b0 b1 b2 (k.val : Int))) (recs (cfg (F3 b0 b1 b2 (k.val : Int))) 20) σ3 sSwap) = true := by decide +kernel
theorem t1 : ∀ b0 b1, chk p1 (execA (cfg (F1 b0 b1)) (recs (cfg (F1 b0 b1)) 20) σ1 sA) = true := by decide +kernel
theorem t2 : ∀ b, ∀ k : Fin 3, chk p2 (execA (cfg (F2a b (k.val : Int))) (recs (cfg (F2a b (k.val : Int))) 20) σ2 sB) = true := by decide +kernel
end Mine

-- D40
namespace Mine
open PySem PySem.W PySem.Calls PyProof.Rows PySem.SeqAt PySem.MeetsSeq

section
variable {V : Nat → Int}
theorem fin_of {x : Int} {m : Nat} (h0 : 0 ≤ x) (h1 : x < (m : Int)) : ∃ k : Fin m, x = ((k.val : Nat) : Int) := ⟨⟨x.toNat, by omega⟩, by show x = ((x.toNat : Nat) : Int); omega⟩
theorem facts_cons {p : _} {l : Facts} (h : p.1.den V ↔ p.2 = true) (hl : Facts.Ok V l) : Facts.Ok V (p :: l) := fun x hx => by
  rcases List.mem_cons.mp hx with rfl | hx
  · exact h
  · exact hl x hx
theorem facts_nil : Facts.Ok V [] := fun _ h => nomatch h
theorem dec_iff {p : Prop} [Decidable p] : p ↔ decide p = true := decide_eq_true_iff.symm
theorem mod_fin (m : Nat) (hm : (0 : Int) < (m : Int)) (e : SI) : ∃ k : Fin m, (SI.mod e (.c (m : Int))).den V = ((k.val : Nat) : Int) := fin_of (Int.fmod_nonneg_of_pos (e.den V) hm) (Int.fmod_lt_of_pos (e.den V) hm)
theorem F1_ok (V : Nat → Int) : ∃ b0 b1, (F1 b0 b1).Ok V :=
  ⟨decide ((0 : Int) < V 100), decide (lead.den V < 1000000000000000000), facts_cons (dec_iff (p := (0 : Int) < V 100)) (facts_cons (dec_iff (p := lead.den V < 1000000000000000000)) facts_nil)⟩
theorem F2_ok (V : Nat → Int) : ∃ b, ∃ k : Fin 3, (F2a b (k.val : Int)).Ok V := by
  have idx : ∀ b : Bool, ∃ k : Fin 3, (if b then SI.mod (.v 0) (.c 3) else draw1 3 : SI).den V = ((k.val : Nat) : Int) := fun b => by
    cases b
    · exact mod_fin 3 (by decide) _
    · exact mod_fin 3 (by decide) _
  obtain ⟨k, hk⟩ := idx (decide ((0 : Int) < V 0))
  exact ⟨_, k, facts_cons (dec_iff (p := (0 : Int) < V 0)) (facts_cons ⟨fun _ => rfl, fun _ => hk⟩ facts_nil)⟩
theorem F3_ok (V : Nat → Int) : ∃ b0 b1 b2, ∃ k : Fin 4, (F3 b0 b1 b2 (k.val : Int)).Ok V := by
  have idx : ∀ b0 b1 : Bool, ∃ k : Fin 4, (idx3 b0 b1).den V = ((k.val : Nat) : Int) := fun b0 b1 => by
    cases b0 <;> cases b1 <;> exact mod_fin 4 (by decide) _
  obtain ⟨k, hk⟩ := idx (decide ((0 : Int) < V 0)) (decide ((0 : Int) < (SI.div (.v 0) (.c 256)).den V))
  exact ⟨_, _, decide ((0 : Int) < (SI.div (.div (.v 0) (.c 256)) (.c 4)).den V), k, facts_cons (dec_iff (p := (0 : Int) < V 0)) (facts_cons (dec_iff (p := (0 : Int) < (SI.div (.v 0) (.c 256)).den V)) (facts_cons (dec_iff (p := (0 : Int) < (SI.div (.div (.v 0) (.c 256)) (.c 4)).den V)) (facts_cons ⟨fun _ => rfl, fun _ => hk⟩ facts_nil)))⟩
noncomputable def FA : Facts := [(.lt (.c 0) (.mod (.sub (.mod (.add (.mod (.add (.v 2) (.c 1)) (.c 256)) (.c 16)) (.c 256)) (.mod (.add (.mod (.add (.v 2) (.c 1)) (.c 256)) (.c 16)) (.c 256))) (.c 256)), false), (.lt (.c 0) (.mod (.sub (.mod (.add (.v 2) (.c 1)) (.c 256)) (.mod (.add (.mod (.add (.v 2) (.c 1)) (.c 256)) (.c 16)) (.c 256))) (.c 256)), true), (.lt (.mul (.c 2) (.mod (.sub (.mod (.add (.v 2) (.c 1)) (.c 256)) (.mod (.add (.mod (.add (.v 2) (.c 1)) (.c 256)) (.c 16)) (.c 256))) (.c 256))) (.c 256), false), (.lt (.c 65535) (.mod (.sub (.mod (.add (.mod (.add (.v 2) (.c 1)) (.c 256)) (.c 16)) (.c 256)) (.mod (.add (.v 2) (.c 1)) (.c 256))) (.c 256)), false), (.eq (.mod (.sub (.mod (.add (.mod (.add (.v 2) (.c 1)) (.c 256)) (.c 16)) (.c 256)) (.mod (.add (.v 2) (.c 1)) (.c 256))) (.c 256)) (.c 16), true)]
theorem FA_ok (V : Nat → Int) : FA.Ok V := by
  have e : ∀ x : Int, Int.fmod x 256 = x % 256 := fun x => Int.fmod_eq_emod_of_nonneg _ (by decide)
  have tt : ∀ {p : Prop}, p → (p ↔ true = true) := fun h => ⟨fun _ => rfl, fun _ => h⟩
  have ff : ∀ {p : Prop}, ¬ p → (p ↔ false = true) := fun h => ⟨fun q => absurd q h, fun q => by cases q⟩
  refine facts_cons (ff ?_) (facts_cons (tt ?_) (facts_cons (ff ?_) (facts_cons (ff ?_) (facts_cons (tt ?_) facts_nil))))
  · show ¬ (0 : Int) < Int.fmod (Int.fmod (Int.fmod (V 2 + 1) 256 + 16) 256 - Int.fmod (Int.fmod (V 2 + 1) 256 + 16) 256) 256
    simp only [e]; omega
  · show (0 : Int) < Int.fmod (Int.fmod (V 2 + 1) 256 - Int.fmod (Int.fmod (V 2 + 1) 256 + 16) 256) 256
    simp only [e]; omega
  · show ¬ 2 * Int.fmod (Int.fmod (V 2 + 1) 256 - Int.fmod (Int.fmod (V 2 + 1) 256 + 16) 256) 256 < 256
    simp only [e]; omega
  · show ¬ (65535 : Int) < Int.fmod (Int.fmod (Int.fmod (V 2 + 1) 256 + 16) 256 - Int.fmod (V 2 + 1) 256) 256
    simp only [e]; omega
  · show Int.fmod (Int.fmod (Int.fmod (V 2 + 1) 256 + 16) 256 - Int.fmod (V 2 + 1) 256) 256 = 16
    simp only [e]; omega
end
end Mine

-- D41
namespace Mine
open PySem PySem.W PySem.Calls PyProof.Rows PySem.SeqAt PySem.MeetsSeq

noncomputable def σB (iss : Int) : St := { loc := [(kScr, .scr), (kSrc, .own 0), (kIss, .int (.c iss))], objs := [(0, .list [.int (.v 0), .int (.v 1)])], next := 1 }
noncomputable def σA (iss flags : Int) : St := { loc := [(kScr, .scr), (kSrc, .own 0), (kIss, .int (.c iss)), (kFlg, .int (.c flags)), (kSeq, .int (.v 2)), (kWin, .int (.v 3))], objs := [(0, .list [.int (.v 0), .int (.v 1)])], next := 1 }
noncomputable def isCI (i : Int) (e : SI) : Bool := decide (e = .c i)
noncomputable def pA (iss : Int) (σ : St) : Bool := srcOk σ && isScr σ && intIs σ kIss (isCI iss)
noncomputable def runA (iss f : Int) : Option (AFlow × St) := (recsC (cfg FA) 60).B (σA iss f) [sInner]

section
variable {B : Cx} {c : Fm} {A : Around} {V V' : Nat → Int} {F F' : Facts} {n k : Nat} {ρ : Nat → Addr} {σ : St} {s : Shared} {X : List (Addr × Obj)} {pos : Pos}

theorem c_at (c : Fm) : c.at c.X = c := rfl
theorem ac {α : Type} {P : α → Prop} {a : α} {l : List α} (h : P a) (k : ∀ p ∈ l, P p) : ∀ p ∈ a :: l, P p := List.forall_mem_cons.mpr ⟨h, k⟩
theorem an {α : Type} {P : α → Prop} : ∀ p ∈ ([] : List α), P p := fun _ h => nomatch h
noncomputable def set2 (V : Nat → Int) (a b : Int) : Nat → Int
  | 0 => a
  | 1 => b
  | n => V n
theorem set2_agree (V : Nat → Int) (a b : Int) : Agree (set2 V a b) V := ⟨rfl, rfl, rfl⟩

theorem stage1 (W : Fits B.K) (O : c.Ok (CV B V F) A 40) {e : Stmt} (hf : fitS B.K c.sc 12 sA e = true) (S : SR (CV B V F) c ρ σ1 s.heap) {Q : Flow → Shared → Prop} {Er : Value → Shared → Prop}
    (q : ∀ V1 ρ1 h' tk, Agree V1 V → SR (CV B V1 F) c ρ1 σ2 h' → Q .next { s with heap := h', toks := tk }) : wpAny (MM B) A (exec e c.env) Q Er s := by
  obtain ⟨b0, b1, hF⟩ := F1_ok V
  obtain ⟨σ', er, hp⟩ := chk_of (t1 b0 b1)
  have G : (CV B V (F1 b0 b1)).Ok 12 ntG := ctx_ok (C := CV B V (F1 b0 b1)) W rfl hF
  have O' : c.Ok (CV B V (F1 b0 b1)) A (12 + 20 + 1) := (Ok_view O ⟨rfl, rfl, rfl⟩).less (by decide)
  refine step_exec (recs_sound G 12 (.inl (Nat.le_refl _)) 20) G O' (Nat.le_refl 12) hf er S _ _ fun ρ' f h' tk x' S' fl => ?_
  cases fl
  obtain ⟨j, e0, e1, l0, l1⟩ := srcOk_of (al hp)
  exact q (set2 V (e0.den V) (e1.den V)) _ h' tk (set2_agree ..) (SR.anew (X := c.X) S' l0 l1 rfl rfl (ac (.inr ⟨_, isScr_of (ar hp), fun v h => h⟩) (ac (.inl ⟨rfl, rfl⟩) an)))

theorem stage2 (W : Fits B.K) (O : c.Ok (CV B V F) A 40) {e : Stmt} (hf : fitS B.K c.sc 12 sB e = true) (S : SR (CV B V F) c ρ σ2 s.heap) {Q : Flow → Shared → Prop} {Er : Value → Shared → Prop}
    (q : ∀ V1 ρ1 h' tk iss, (iss = 255 ∨ iss = 250 ∨ iss = 9) → Agree V1 V → SR (CV B V1 F) c ρ1 (σB iss) h' → Q .next { s with heap := h', toks := tk }) : wpAny (MM B) A (exec e c.env) Q Er s := by
  obtain ⟨b, k, hF⟩ := F2_ok V
  obtain ⟨σ', er, hp⟩ := chk_of (t2 b k)
  have G : (CV B V (F2a b (k.val : Int))).Ok 12 ntG := ctx_ok (C := CV B V (F2a b (k.val : Int))) W rfl hF
  have O' : c.Ok (CV B V (F2a b (k.val : Int))) A (12 + 20 + 1) := (Ok_view O ⟨rfl, rfl, rfl⟩).less (by decide)
  refine step_exec (recs_sound G 12 (.inl (Nat.le_refl _)) 20) G O' (Nat.le_refl 12) hf er S _ _ fun ρ' f h' tk x' S' fl => ?_
  cases fl
  obtain ⟨j, e0, e1, l0, l1⟩ := srcOk_of (al (al hp))
  obtain ⟨ei, l2, hi⟩ := intIs_of (ar hp)
  cases ei with
  | c i => exact q (set2 V (e0.den V) (e1.den V)) _ h' tk i (of_decide_eq_true hi) (set2_agree ..) (SR.anew (X := c.X) S' l0 l1 rfl rfl (ac (.inr ⟨_, isScr_of (ar (al hp)), fun v h => h⟩) (ac (.inl ⟨rfl, rfl⟩) (ac (.inr ⟨_, l2, fun v h => h⟩) an))))
  | _ => exact no hi

noncomputable def set6 (V : Nat → Int) (f iss : Int) : Nat → Int
  | 60 => f
  | 61 => iss
  | n => V n
noncomputable def set4 (V : Nat → Int) (a b x y : Int) : Nat → Int
  | 0 => a
  | 1 => b
  | 2 => x
  | 3 => y
  | n => V n
theorem stage3 (W : Fits B.K) (O : c.Ok (CV B V F) A 40) (hk : k ≤ 12) {e : Stmt} (hf : fitS B.K c.sc k sSwap e = true) {iss f : Int} (S : SR (CV B V F) c ρ ((σB iss).setLoc kFlg (.int (.c f))) s.heap) {Q : Flow → Shared → Prop} {Er : Value → Shared → Prop}
    (q : ∀ V1 ρ1 h' tk, Agree V1 V → SR (CV B V1 FA) c ρ1 (σA iss f) h' → Q .next { s with heap := h', toks := tk }) : wpAny (MM B) A (exec e c.env) Q Er s := by
  have S3 : SR (CV B (set6 V f iss) F) c (fun _ => ρ 0) σ3 s.heap := SR.anew (X := c.X) (ks := kSrc) (j := 0) (e0 := .v 0) (e1 := .v 1) S rfl rfl rfl rfl
    (ac (.inr ⟨.scr, rfl, fun v h => h⟩) (ac (.inl ⟨rfl, rfl⟩) (ac (.inr ⟨.int (.c iss), rfl, fun v h => h⟩) (ac (.inr ⟨.int (.c f), rfl, fun v h => h⟩) an))))
  generalize hV : set6 V f iss = V6 at S3
  obtain ⟨b0, b1, b2, kk, hF⟩ := F3_ok V6
  obtain ⟨σ', er, hp⟩ := chk_of (t3 b0 b1 b2 kk)
  have ag : Agree V6 V := by subst hV; exact ⟨rfl, rfl, rfl⟩
  have G : (CV B V6 (F3 b0 b1 b2 (kk.val : Int))).Ok 12 ntG := ctx_ok (C := CV B V6 (F3 b0 b1 b2 (kk.val : Int))) W rfl hF
  have O' : c.Ok (CV B V6 (F3 b0 b1 b2 (kk.val : Int))) A (12 + 20 + 1) := (Ok_view (F' := F3 b0 b1 b2 (kk.val : Int)) O ag).less (by decide)
  refine step_exec (recs_sound G 12 (.inl (Nat.le_refl _)) 20) G O' hk hf er S3 _ _ fun ρ' fl h' tk x' S' fl' => ?_
  cases fl'
  obtain ⟨j, e0, e1, l0, l1⟩ := srcOk_of (al (al (al (al (al hp)))))
  obtain ⟨ei, l2, hi⟩ := intIs_of (ar (al (al (al hp))))
  obtain ⟨ef, l3, hf2⟩ := intIs_of (ar (al (al hp)))
  obtain ⟨es, l4⟩ := isInt_of (ar (al hp))
  obtain ⟨ew, l5⟩ := isInt_of (ar hp)
  cases of_decide_eq_true hi
  cases of_decide_eq_true hf2
  refine q (set4 V6 (e0.den V6) (e1.den V6) (es.den V6) (ew.den V6)) _ h' tk ⟨ag.1, ag.2.1, ag.2.2⟩ (SR.anew (X := c.X) S' l0 l1 rfl rfl
    (ac (.inr ⟨_, isScr_of (ar (al (al (al (al hp))))), fun v h => h⟩) (ac (.inl ⟨rfl, rfl⟩) (ac (.inr ⟨_, l2, fun v h => ?_⟩) (ac (.inr ⟨_, l3, fun v h => ?_⟩) (ac (.inr ⟨_, l4, fun v h => h⟩) (ac (.inr ⟨_, l5, fun v h => h⟩) an)))))))
  · subst hV; exact h
  · subst hV; exact h
end
end Mine

-- D42
namespace Mine
open PySem PySem.W PySem.Calls PyProof.Rows PySem.SeqAt PySem.MeetsSeq

section
variable {B : Cx} {c : Fm} {A : Around} {V V' : Nat → Int} {F F' : Facts} {n k : Nat} {ρ : Nat → Addr} {σ : St} {s : Shared} {X : List (Addr × Obj)} {pos : Pos}
theorem Agree.trans {V1 V2 V3 : Nat → Int} (h : Agree V1 V2) (h' : Agree V2 V3) : Agree V1 V3 := ⟨h.1.trans h'.1, h.2.1.trans h'.2.1, h.2.2.trans h'.2.2⟩
noncomputable def RunsOk : Prop := ∀ iss f, (iss = 255 ∨ iss = 250 ∨ iss = 9) → f ∈ flagsL → chk (pA iss) (runA iss f) = true
/-- one turn over the flags -/
theorem law_turn (W : Fits B.K) (tA : RunsOk) (O : c.Ok (CV B V F) A 80) (hk : k ≤ 12) {body : List Stmt} (hb : bodyFit (fitS B.K c.sc k) [sSwap, sInner] body = true) {iss f : Int} (hi : iss = 255 ∨ iss = 250 ∨ iss = 9) (hfl : f ∈ flagsL)
    (S : SR (CV B V F) c ρ ((σB iss).setLoc kFlg (.int (.c f))) s.heap) {Q : Flow → Shared → Prop} {Er : Value → Shared → Prop}
    (q : ∀ V1 ρ1 h' tk, Agree V1 V → SR (CV B V1 F) c ρ1 (σB iss) h' → Q .next { s with heap := h', toks := tk }) : wpC (MM B) A (execs body c.env) Q Er s := by
  cases body with
  | nil => exact no hb
  | cons e1 rest =>
    rw [execs_cons]
    refine wpC_bind (wpC_of (stage3 W (O.less (by decide)) hk (al hb) S fun V5 ρ5 h5 t5 ag S5 => ?_))
    have G5 : (CV B V5 FA).Ok 12 ntG := ctx_ok (C := CV B V5 FA) W rfl (FA_ok V5)
    obtain ⟨σ6, er6, hp6⟩ := chk_of (tA iss f hi hfl)
    refine (recsC_sound G5 60).B c A [sInner] rest (σA iss f) σ6 .next _ { s with heap := h5, toks := t5 } k ((Ok_view (F' := FA) O ag).less (by decide)) hk (ar hb) er6 S5 _ _ fun ρ6 fl h6 t6 x6 S6 fl' => ?_
    cases fl'
    obtain ⟨j6, a0, a1, r0, r1⟩ := srcOk_of (al (al hp6))
    obtain ⟨ei6, r2, hi6⟩ := intIs_of (ar hp6)
    cases of_decide_eq_true hi6
    exact q (set2 V5 (a0.den V5) (a1.den V5)) (fun _ => ρ6 j6) h6 t6 ⟨ag.1, ag.2.1, ag.2.2⟩ (SR.anew (X := c.X) S6 r0 r1 rfl rfl (ac (.inr ⟨_, isScr_of (ar (al hp6)), fun v h => h⟩) (ac (.inl ⟨rfl, rfl⟩) (ac (.inr ⟨_, r2, fun v h => h⟩) an))))

theorem drop_cons {α : Type} {l ys : List α} {i : Nat} {y : α} (h : l.drop i = y :: ys) : l[i]? = some y ∧ l.drop (i + 1) = ys := by
  have h1 := List.getElem?_drop (xs := l) (i := i) (j := 0)
  have h2 := List.drop_drop (i := 1) (j := i) (l := l)
  rw [h] at h1 h2
  exact ⟨h1.symm, h2.symm⟩
/-- the turns -/
theorem law_turns (W : Fits B.K) (tA : RunsOk) (hk : k ≤ 12) {x : Str} {px : Pos} {body : List Stmt} (hx : enc x = some kFlg) (hl : c.sc.names.lookup x = some .local)
    (hb : bodyFit (fitS B.K c.sc k) [sSwap, sInner] body = true) {iss : Int} (hi : iss = 255 ∨ iss = 250 ∨ iss = 9) {I J : Addr} {its : List Value} {k9 : Nat} {Rr : Result → Shared → Prop} {fs : List Int} : ∀ {i : Nat} {V : Nat → Int} {ρ : Nat → Addr} {s : Shared} {oI : Obj}, (∀ f ∈ fs, f ∈ flagsL) →
    F2 (fun (f : Int) (v : Value) => ∃ t, v = .int f t) fs (its.drop i) → c.Ok (CV B V F) A 80 → s.heap.IsListIter I J i → SR (CV B V F) (c.at ((I, oI) :: (J, PySem.W.listOf its.toArray k9) :: c.X)) ρ (σB iss) s.heap →
    (∀ V1 ρ1 h' tk, Agree V1 V → SR (CV B V1 F) c ρ1 (σB iss) h' → Rr (.ok .next) { s with heap := h', toks := tk }) → codeC (MM B) A (.forLoop (.Name x px) (.ref I) body [] c.env) Rr s := by
  induction fs with
  | nil =>
    intro i V ρ s oI hfs hd O hit S' q
    have it1 : s.heap.IsList J its.toArray := ⟨_, S'.kept (p := (J, PySem.W.listOf its.toArray k9)) (.tail _ (.head _)), rfl, _, rfl⟩
    have hlen : its.drop i = [] := List.eq_nil_of_length_eq_zero hd.len.symm
    refine codeC_forTurn (wpAny_pyNext_list_end O.hd hit it1 (by rw [List.getElem?_toArray, List.getElem?_eq_none_iff]; exact List.drop_eq_nil_iff.mp hlen) fun h₁ he => ?_)
    exact q V ρ h₁ s.toks ⟨rfl, rfl, rfl⟩ ((S'.gone he).sub (Y := c.X) (List.sublist_cons_self _ _))
  | cons f fs ih =>
    intro i V ρ s oI hfs hd O hit S' q
    have it1 : s.heap.IsList J its.toArray := ⟨_, S'.kept (p := (J, PySem.W.listOf its.toArray k9)) (.tail _ (.head _)), rfl, _, rfl⟩
    cases hdr : its.drop i with
    | nil => rw [hdr] at hd; cases hd
    | cons y ys =>
      rw [hdr] at hd
      obtain ⟨ey, hys'⟩ := drop_cons hdr
      cases hd with
      | cons hy hys =>
        obtain ⟨t, rfl⟩ := hy
        rw [← hys'] at hys
        refine codeC_forTurn (wpAny_pyNext_list_item hit it1 (x := .int f t) (arr_get ey) fun h₁ hit₁ hs₁ => ?_)
        obtain ⟨oI', hoI', hr⟩ := hit₁
        refine store_sound (C := CV B V F) (c := c.at ((I, oI') :: (J, PySem.W.listOf its.toArray k9) :: c.X)) (s := { s with heap := h₁ }) (O.at _) hx hl (v := .int (.c f)) ⟨t, rfl⟩ (SR.chg (pre := []) S' hs₁.extBut hoI') _ _ fun ρ₂ h₂ t₂ x₂ S₂ => ?_
        refine law_turn (c := c.at ((I, oI') :: (J, PySem.W.listOf its.toArray k9) :: c.X)) (s := { s with heap := h₂, toks := t₂ }) W tA (O.at _) hk hb hi (hfs f (.head _)) S₂ fun V3 ρ3 h3 t3 ag S3 => ?_
        exact ih (s := { s with heap := h3, toks := t3 }) (fun g hg => hfs g (.tail _ hg)) hys (Ok_view O ag) ⟨oI', S3.kept (p := (I, oI')) (.head _), hr⟩ S3 fun V1 ρ1 h' tk ag1 => q V1 ρ1 h' tk (ag1.trans ag)
end
end Mine

-- D43
namespace Mine
open PySem PySem.W PySem.Calls PyProof.Rows PySem.SeqAt PySem.MeetsSeq

section
variable {B : Cx} {c : Fm} {A : Around} {V V' : Nat → Int} {F F' : Facts} {n k : Nat} {ρ : Nat → Addr} {σ : St} {s : Shared} {X : List (Addr × Obj)} {pos : Pos}

theorem flags_ev : evs (recs (cfg F) 20).E (flagsL.map .int) σ = some (flagsL.map fun i => .int (.c i), σ) := rfl
theorem flags_vals {V : Nat → Int} {ρ : Nat → Addr} {m : Nat} {l : List Int} : ∀ {cvs : List Value}, F2 (VR V ρ m) (l.map fun i => AV.int (.c i)) cvs → F2 (fun (f : Int) (v : Value) => ∃ t, v = .int f t) l cvs := by
  induction l with
  | nil => intro cvs h; cases h; exact .nil
  | cons i l ih =>
    intro cvs h
    cases h with
    | cons h hs => exact .cons h (ih hs)

theorem law_for (W : Fits B.K) (tA : RunsOk) (O : c.Ok (CV B V F) A 80) (hF : F.Ok V) {e : Stmt} (hf : fitS B.K c.sc 12 (.forL (.loc kFlg) xFlags [sSwap, sInner]) e = true) {iss : Int} (hi : iss = 255 ∨ iss = 250 ∨ iss = 9)
    (S : SR (CV B V F) c ρ (σB iss) s.heap) {Q : Flow → Shared → Prop} {Er : Value → Shared → Prop}
    (q : ∀ V1 ρ1 h' tk, Agree V1 V → SR (CV B V1 F) c ρ1 (σB iss) h' → Q .next { s with heap := h', toks := tk }) : wpC (MM B) A (exec e c.env) Q Er s := by
  refine onFo_inv hf fun u i body r p hf => nil_inv (ar hf) ?_
  have h4 := ar (al hf)
  have h3 := ar (al (al hf))
  have h2 := ar (al (al (al hf)))
  refine onN_inv (al (al (al (al hf)))) fun sx sp h1 => ?_
  revert h3
  refine onL_inv h2 fun es lp h2 h3 => ?_
  rw [exec_For]
  refine wpC_bind (wpC_of (wpAny_standAt ?_))
  have G : (CV B V F).Ok 12 ntG := ctx_ok (C := CV B V F) W rfl hF
  have O' : c.Ok (CV B V F) A (12 + 20) := O.less (by decide)
  refine wpC_bind (wpC_of (wpAny_List (args_sound (C := CV B V F) (k := 10) (recs_sound G 12 (.inl (Nat.le_refl _)) 20) O' (by decide) h2 flags_ev S _ _ fun ρ₁ cvs g₁ t₁ x₁ S₁ v₁ => ⟨by rw [← v₁.len, sizeLine_eq]; decide, ?_⟩)))
  refine wpC_bind (wpC_of (wpAny_of_eq (noSet h3 c.env _) ?_))
  refine wpC_bind (wpC_of (wpAny_standAt ?_))
  have S2 : SR (CV B V F) (c.at ((g₁.objs.size, PySem.W.listOf cvs.toArray 0) :: c.X)) ρ₁ (σB iss) (g₁.push (PySem.W.listOf cvs.toArray 0)) := SR.keepNew (X := c.X) S₁ _ rfl
  generalize g₁.push (PySem.W.listOf cvs.toArray 0) = g₂ at S2 ⊢
  generalize g₁.objs.size = J at S2 ⊢
  have il : g₂.IsList J cvs.toArray := ⟨_, S2.kept (p := (J, PySem.W.listOf cvs.toArray 0)) (.head _), rfl, _, rfl⟩
  refine wpC_bind (wpC_holding (wpC_of (wpAny_pyIter_list (s := { s with heap := g₂, toks := t₁ }) il (wpC_runOwn ?_))))
  exact law_turns (V := V) (s := { s with heap := g₂.push _, toks := t₁ }) W tA (k := 11) (by decide) (encIs_eq (al h1)) (of_decide_eq_true (ar h1)) h4 hi (i := 0) (fun f hf => hf) (flags_vals v₁) O ⟨_, Heap.get?_push_size _ rfl, rfl, rfl⟩ (SR.keepNew (X := (J, PySem.W.listOf cvs.toArray 0) :: c.X) S2 _ rfl) q

theorem body4 {f : S → Stmt → Bool} {S1 S2 S3 S4 : S} {body : List Stmt} {P : List Stmt → Prop} (h : bodyFit f [S1, S2, S3, S4] body = true) (k : ∀ e1 e2 e3 e4, f S1 e1 = true → f S2 e2 = true → f S3 e3 = true → f S4 e4 = true → P [e1, e2, e3, e4]) : P body := by
  cases body with
  | nil => exact no h
  | cons e1 body => cases body with
    | nil => exact no (ar h)
    | cons e2 body => cases body with
      | nil => exact no (ar (ar h))
      | cons e3 body => cases body with
        | nil => exact no (ar (ar (ar h)))
        | cons e4 body => cases body with
          | nil => exact k e1 e2 e3 e4 (al h) (al (ar h)) (al (ar (ar h))) (al (ar (ar (ar h))))
          | cons => exact no (ar (ar (ar (ar h))))
theorem law_body_sound (W : Fits B.K) (tA : RunsOk) (O : c.Ok (CV B V []) A 80) {body : List Stmt} (hb : bodyFit (fitS B.K c.sc 12) f1463.body body = true)
    (S : SR (CV B V []) c ρ σ1 s.heap) {Q : Flow → Shared → Prop} {Er : Value → Shared → Prop}
    (q : ∀ V1 ρ1 h' tk σ', SR (CV B V1 []) c ρ1 σ' h' → Q (.ret (.bool true)) { s with heap := h', toks := tk }) : wpC (MM B) A (execs body c.env) Q Er s := by
  rw [law_body] at hb
  refine body4 (P := fun body => wpC (MM B) A (execs body c.env) Q Er s) hb fun ea eb ef er fa fb ff fr => ?_
  rw [execs_cons]
  refine wpC_bind (wpC_of (stage1 W (O.less (by decide)) fa S fun V1 ρ1 h1 t1 ag1 S1 => ?_))
  dsimp only
  rw [execs_cons]
  refine wpC_bind (wpC_of (stage2 (s := { s with heap := h1, toks := t1 }) W ((Ok_view O ag1).less (by decide)) fb S1 fun V2 ρ2 h2 t2 iss hi ag2 S2 => ?_))
  dsimp only
  rw [execs_cons]
  refine wpC_bind (law_for (s := { s with heap := h2, toks := t2 }) W tA (Ok_view O (ag2.trans ag1)) facts_nil ff hi S2 fun V3 ρ3 h3 t3 ag3 S3 => ?_)
  dsimp only
  rw [execs_cons]
  have G : (CV B V3 []).Ok 12 ntG := ctx_ok (C := CV B V3 []) W rfl facts_nil
  have O3 : c.Ok (CV B V3 []) A (12 + 20 + 1) := (Ok_view (V' := V3) (F' := []) O (ag3.trans (ag2.trans ag1))).less (by decide)
  refine wpC_bind (wpC_of (step_exec (s := { s with heap := h3, toks := t3 }) (σ' := σB iss) (fl := .ret (.bool true)) (recs_sound G 12 (.inl (Nat.le_refl _)) 20) G O3 (Nat.le_refl 12) fr rfl S3 _ _ fun ρ4 fl h4 t4 x4 S4 fl' => ?_))
  obtain ⟨cv, rfl, hcv⟩ := fl'
  cases hcv
  exact wpC_pure (q V3 ρ4 h4 t4 _ S4)
end
end Mine

-- D44
namespace Mine
open PySem PySem.W PySem.Calls PyProof.Rows PySem.SeqAt PySem.MeetsSeq

noncomputable def view0 (scr : Addr) (ns : List Int) : Nat → Int
  | 100 => (ns.length : Int)
  | 101 => ns.headD 0
  | 102 => ((scr : Nat) : Int)
  | _ => 0
theorem enc_script : enc (Str.ofString "script") = some kScr := by decide +kernel

theorem law_entry {B : Cx} {s : Shared} {R : Result → Shared → Prop} {name : Str} {params : Arguments} {body : List Stmt} {scope : Scope} {pm cd doc kV : Value} {fa scr : Addr} {o : Obj} {vs : List Value} {ns : List Int}
    (W : Fits B.K) (tA : RunsOk)
    (X : B.K.In s.heap) (T : Top B.p B.loose B.mean B.mg B.mb s.heap) (ho : s.heap.get? fa = some o) (hd : o.data = .func { docDef name params body scope pm cd doc with defaults := .none, kwdefaults := kV }) (hcd : s.heap.CodeRec cd name)
    (hbind : bindArgs { docDef name params body scope pm cd doc with defaults := .none, kwdefaults := kV } ⟨[.ref scr], []⟩ = pure [(Str.ofString "script", .ref scr)])
    (hloc : scope.names.lookup (Str.ofString "script") = some .local) (hb : bodyFit (fitS B.K scope 12) f1463.body body = true) (hco : scope.isCoroutine = false) (hgen : scope.isGenerator = false) (hk : scope.kind = .function) (hcell : ∀ x ∈ scope.names, x.2 ≠ .cell)
    (il : s.heap.IsList scr vs.toArray) (hi : IntsAre vs ns) (hlen : ns.length ≤ 63)
    (q : ∀ h' tk, (∀ b o, s.heap.get? b = some o → h'.get? b = some o) → R (.ok (.ret (.bool true))) { s with heap := h', toks := tk }) : codeC (MM B) callerA (.call (.ref fa) ⟨[.ref scr], []⟩) R s := by
  refine codeC_call_function (fd := { docDef name params body scope pm cd doc with defaults := .none, kwdefaults := kV }) (body := body) (by decide) ho hd hco hgen rfl hcd (BindsTo.of_eq hbind _ _ _ _ ?_)
  refine wpAny_newFunctionEnv hcell (fun x hx => by cases List.mem_singleton.mp hx; exact hloc) (fun h₁ hns hsb => ⟨T.nolimit.fresh _ hsb, codeC_func ?_⟩) hk
  have hk₁ : ∀ b o, s.heap.get? b = some o → h₁.get? b = some o := fun b o e => hsb.extBut b o (Nat.ne_of_lt (Heap.lt_size e)) (Heap.get?_push_of_some _ e)
  have F' : Fr s.heap s.heap.objs.size h₁ (fun x => [(Str.ofString "script", Value.ref scr)].reverse.lookup x) := ⟨hns, hk₁, Nat.le_refl _⟩
  have O : Fm.Ok (CV B (view0 scr ns) []) { nm := name, sc := scope, L := s.heap.objs.size, a := fa, cd := cd, h₀ := s.heap, base := s.heap, outer := [], A₀ := callerA, X := [] } (callerA.deeper (envOf name scope s.heap.objs.size fa cd)) 80 :=
    { B := below_caller s.heap, fr := Around.frames_deeper rfl, hd := rfl, X := X, T := T, kind := hk,
      scr := ⟨vs, ns, il, hi, rfl, by omega, fun x r e => by subst e; rfl⟩,
      room := by show callerA.depth + 1 + 2 * 80 + 2 < recursionLimit; decide
      units := by show callerA.units + 3 + 10 * 80 + 20 < cLine; decide }
  have S : SR (CV B (view0 scr ns) []) { nm := name, sc := scope, L := s.heap.objs.size, a := fa, cd := cd, h₀ := s.heap, base := s.heap, outer := [], A₀ := callerA, X := [] } (fun _ => 0) σ1 h₁ := by
    refine ⟨_, [], F', News.nil, fun x k av hx e => ?_, ⟨[], rfl, .nil⟩, List.nodup_nil⟩
    refine lkc e (fun hk hv => ?_) fun _ e => nomatch e
    subst hk hv
    cases enc_inj hx enc_script
    exact ⟨.ref scr, rfl, rfl⟩
  refine law_body_sound (s := { s with heap := h₁, toks := s.toks + 1 }) W tA O hb S fun V1 ρ1 h' tk σ' S' => ?_
  obtain ⟨m, news, F2, _⟩ := S'
  exact q h' tk F2.keep
end Mine

-- D45
namespace Mine
open PySem PySem.W
theorem run_255_0 : chk (pA 255) (runA 255 0) = true := by decide +kernel
theorem run_255_2 : chk (pA 255) (runA 255 2) = true := by decide +kernel
theorem run_255_4 : chk (pA 255) (runA 255 4) = true := by decide +kernel
theorem run_255_6 : chk (pA 255) (runA 255 6) = true := by decide +kernel
theorem run_255_8 : chk (pA 255) (runA 255 8) = true := by decide +kernel
theorem run_255_10 : chk (pA 255) (runA 255 10) = true := by decide +kernel
theorem run_255_16 : chk (pA 255) (runA 255 16) = true := by decide +kernel
theorem run_255_18 : chk (pA 255) (runA 255 18) = true := by decide +kernel
theorem run_255_20 : chk (pA 255) (runA 255 20) = true := by decide +kernel
theorem run_255_22 : chk (pA 255) (runA 255 22) = true := by decide +kernel
theorem run_255_26 : chk (pA 255) (runA 255 26) = true := by decide +kernel
theorem run_250_0 : chk (pA 250) (runA 250 0) = true := by decide +kernel
theorem run_250_2 : chk (pA 250) (runA 250 2) = true := by decide +kernel
theorem run_250_4 : chk (pA 250) (runA 250 4) = true := by decide +kernel
theorem run_250_6 : chk (pA 250) (runA 250 6) = true := by decide +kernel
theorem run_250_8 : chk (pA 250) (runA 250 8) = true := by decide +kernel
theorem run_250_10 : chk (pA 250) (runA 250 10) = true := by decide +kernel
theorem run_250_16 : chk (pA 250) (runA 250 16) = true := by decide +kernel
theorem run_250_18 : chk (pA 250) (runA 250 18) = true := by decide +kernel
theorem run_250_20 : chk (pA 250) (runA 250 20) = true := by decide +kernel
theorem run_250_22 : chk (pA 250) (runA 250 22) = true := by decide +kernel
theorem run_250_26 : chk (pA 250) (runA 250 26) = true := by decide +kernel
theorem run_9_0 : chk (pA 9) (runA 9 0) = true := by decide +kernel
theorem run_9_2 : chk (pA 9) (runA 9 2) = true := by decide +kernel
theorem run_9_4 : chk (pA 9) (runA 9 4) = true := by decide +kernel
theorem run_9_6 : chk (pA 9) (runA 9 6) = true := by decide +kernel
theorem run_9_8 : chk (pA 9) (runA 9 8) = true := by decide +kernel
theorem run_9_10 : chk (pA 9) (runA 9 10) = true := by decide +kernel
theorem run_9_16 : chk (pA 9) (runA 9 16) = true := by decide +kernel
theorem run_9_18 : chk (pA 9) (runA 9 18) = true := by decide +kernel
theorem run_9_20 : chk (pA 9) (runA 9 20) = true := by decide +kernel
theorem run_9_22 : chk (pA 9) (runA 9 22) = true := by decide +kernel
theorem run_9_26 : chk (pA 9) (runA 9 26) = true := by decide +kernel
theorem runs : RunsOk := by
  intro iss f hi hf
  simp only [flagsL, List.mem_cons, List.not_mem_nil, or_false] at hf
  rcases hi with rfl | rfl | rfl
  · rcases hf with rfl | rfl | rfl | rfl | rfl | rfl | rfl | rfl | rfl | rfl | rfl
    · exact run_255_0
    · exact run_255_2
    · exact run_255_4
    · exact run_255_6
    · exact run_255_8
    · exact run_255_10
    · exact run_255_16
    · exact run_255_18
    · exact run_255_20
    · exact run_255_22
    · exact run_255_26
  · rcases hf with rfl | rfl | rfl | rfl | rfl | rfl | rfl | rfl | rfl | rfl | rfl
    · exact run_250_0
    · exact run_250_2
    · exact run_250_4
    · exact run_250_6
    · exact run_250_8
    · exact run_250_10
    · exact run_250_16
    · exact run_250_18
    · exact run_250_20
    · exact run_250_22
    · exact run_250_26
  · rcases hf with rfl | rfl | rfl | rfl | rfl | rfl | rfl | rfl | rfl | rfl | rfl
    · exact run_9_0
    · exact run_9_2
    · exact run_9_4
    · exact run_9_6
    · exact run_9_8
    · exact run_9_10
    · exact run_9_16
    · exact run_9_18
    · exact run_9_20
    · exact run_9_22
    · exact run_9_26
end Mine

-- H1
namespace MineHd
open PySem PySem.W
noncomputable section
noncomputable def pw : Program := PySem.Challenge.pw_pf0405_01
abbrev N : Value := .none
abbrev I (i : Int) (t : Nat) : Value := .int i t
abbrev T (x : String) (t : Nat) : Value := .str (Str.ofString x) t
abbrev B (b : Bool) : Value := .bool b
abbrev Y (n : String) : Value := .type n
abbrev U (n : String) : Value := .builtin n
abbrev R (a : Nat) : Value := .ref a
noncomputable def sa (k : Nat) : Stmt := pw.main.body.getD k (.Pass default)
noncomputable def sb (k i : Nat) : Stmt := match sa k with
  | .ClassDef _ _ _ body .. => body.getD i (.Pass default)
  | s => s
noncomputable def nameOf : Stmt → Str
  | .FunctionDef n .. => n
  | .ClassDef n .. => n
  | _ => Str.ofString ""
noncomputable def argsOf : Stmt → Arguments
  | .FunctionDef _ a .. => a
  | _ => ⟨[], [], none, [], [], none, []⟩
noncomputable def bodyOf : Stmt → List Stmt
  | .FunctionDef _ _ b .. => b
  | .ClassDef _ _ _ b .. => b
  | _ => []
noncomputable def scopeOf : Stmt → Scope
  | .FunctionDef _ _ _ _ _ _ sc .. => sc
  | .ClassDef _ _ _ _ _ _ sc .. => sc
  | _ => default
noncomputable def e (P : Params) (x : String) (t : Nat) (v : Value) : DictEntry := ⟨PyData.keyHash P (Str.ofString x), .str (Str.ofString x) t, v⟩
noncomputable def sq (c : Value) (d : Option Addr) (l : List Value) (n : Nat) : Obj := ⟨c, d, .seq l.toArray n, #[]⟩
noncomputable def fl (c : Value) (d : Option Addr) (l : List Value) : Obj := ⟨c, d, .fields l.toArray, #[]⟩
noncomputable def di (c : Value) (d : Option Addr) (l : List DictEntry) (n : Nat) : Obj := ⟨c, d, .dict l.toArray n, #[]⟩
noncomputable def pl (c : Value) (d : Option Addr) : Obj := ⟨c, d, .plain, #[]⟩
noncomputable def cl (c : Value) (d : Option Addr) (name : String) (bases mro : List Value) (ns : Addr) (qual : String) (hasDict : Bool) (slots : List Str) (subs : List Value) (abs hd : Bool) : Obj :=
  ⟨c, d, .cls { name := Str.ofString name, bases := bases, mro := mro, ns := ns, qualname := Str.ofString qual, hasDict := hasDict, slotNames := slots, subclasses := subs, abstract := abs, hasDel := hd }, #[]⟩
noncomputable def fn (c : Value) (d : Option Addr) (st : Stmt) (qual : String) (gl : Addr) (cls : List (Str × Addr)) (dv kv doc pm : Value) (an : Option Addr) (code ct : Value) (bi : Addr) : Obj :=
  ⟨c, d, .func { name := nameOf st, qualname := Str.ofString qual, params := argsOf st, body := .stmts (bodyOf st), scope := scopeOf st, globals := gl, closure := cls, defaults := dv, kwdefaults := kv, doc := doc, pyModule := pm, annotations := an, code := code, closureTuple := ct, builtins := bi }, #[]⟩
noncomputable def sl (o : Obj) (l : List (Option Value)) : Obj := { o with slots := l.toArray }
noncomputable def c0 (P : Params) : List Obj := [
  di (Y "dict") none [e P "__name__" 1 (T "builtins" 160), e P "__doc__" 2 (U "builtins.__doc__:str#opaque"), e P "__package__" 3 (U "builtins.__package__:str#opaque"), e P "__loader__" 4 (U "builtins.__loader__:shared#opaque"), e P "__spec__" 5 (U "builtins.__spec__#opaque"), e P "__build_class__" 6 (U "__build_class__"), e P "__import__" 7 (U "__import__"), e P "abs" 8 (U "abs"), e P "all" 9 (U "all"), e P "any" 10 (U "any"), e P "ascii" 11 (U "ascii"), e P "bin" 12 (U "bin"), e P "breakpoint" 13 (U "breakpoint"), e P "callable" 14 (U "callable"), e P "chr" 15 (U "chr"), e P "compile" 16 (U "compile"), e P "delattr" 17 (U "delattr"), e P "dir" 18 (U "dir"), e P "divmod" 19 (U "divmod"), e P "eval" 20 (U "eval"), e P "exec" 21 (U "exec"), e P "format" 22 (U "format"), e P "getattr" 23 (U "getattr"), e P "globals" 24 (U "globals"), e P "hasattr" 25 (U "hasattr"), e P "hash" 26 (U "hash"), e P "hex" 27 (U "hex"), e P "id" 28 (U "id"), e P "input" 29 (U "input"), e P "isinstance" 30 (U "isinstance"), e P "issubclass" 31 (U "issubclass"), e P "iter" 32 (U "iter"), e P "aiter" 33 (U "aiter"), e P "len" 34 (U "len"), e P "locals" 35 (U "locals"), e P "max" 36 (U "max"), e P "min" 37 (U "min"), e P "next" 38 (U "next"), e P "anext" 39 (U "anext"), e P "oct" 40 (U "oct"), e P "ord" 41 (U "ord"), e P "pow" 42 (U "pow"), e P "print" 43 (U "print"), e P "repr" 44 (U "repr"), e P "round" 45 (U "round"), e P "setattr" 46 (U "setattr"), e P "sorted" 47 (U "sorted"), e P "sum" 48 (U "sum"), e P "vars" 49 (U "vars"), e P "None" 50 N, e P "Ellipsis" 51 Value.ellipsis, e P "NotImplemented" 52 Value.notImplemented, e P "False" 53 (B false), e P "True" 54 (B true), e P "bool" 55 (Y "bool"), e P "memoryview" 56 (Y "memoryview"), e P "bytearray" 57 (Y "bytearray"), e P "bytes" 58 (Y "bytes"), e P "classmethod" 59 (Y "classmethod"), e P "complex" 60 (Y "complex"), e P "dict" 61 (Y "dict"), e P "enumerate" 62 (Y "enumerate"), e P "filter" 63 (Y "filter"), e P "float" 64 (Y "float"), e P "frozenset" 65 (Y "frozenset"), e P "property" 66 (Y "property"), e P "int" 67 (Y "int"), e P "list" 68 (Y "list"), e P "map" 69 (Y "map"), e P "object" 70 (Y "object"), e P "range" 71 (Y "range"), e P "reversed" 72 (Y "reversed"), e P "set" 73 (Y "set"), e P "slice" 74 (Y "slice"), e P "staticmethod" 75 (Y "staticmethod"), e P "str" 76 (Y "str"), e P "super" 77 (Y "super"), e P "tuple" 78 (Y "tuple"), e P "type" 79 (Y "type"), e P "zip" 80 (Y "zip"), e P "__debug__" 81 (B true), e P "BaseException" 82 (Y "BaseException"), e P "BaseExceptionGroup" 83 (Y "BaseExceptionGroup"), e P "Exception" 84 (Y "Exception"), e P "GeneratorExit" 85 (Y "GeneratorExit"), e P "KeyboardInterrupt" 86 (Y "KeyboardInterrupt"), e P "SystemExit" 87 (Y "SystemExit"), e P "ArithmeticError" 88 (Y "ArithmeticError"), e P "AssertionError" 89 (Y "AssertionError"), e P "AttributeError" 90 (Y "AttributeError"), e P "BufferError" 91 (Y "BufferError"), e P "EOFError" 92 (Y "EOFError"), e P "ImportError" 93 (Y "ImportError"), e P "LookupError" 94 (Y "LookupError"), e P "MemoryError" 95 (Y "MemoryError"), e P "NameError" 96 (Y "NameError"), e P "OSError" 97 (Y "OSError"), e P "ReferenceError" 98 (Y "ReferenceError"), e P "RuntimeError" 99 (Y "RuntimeError"), e P "StopAsyncIteration" 100 (Y "StopAsyncIteration"), e P "StopIteration" 101 (Y "StopIteration"), e P "SyntaxError" 102 (Y "SyntaxError"), e P "SystemError" 103 (Y "SystemError"), e P "TypeError" 104 (Y "TypeError"), e P "ValueError" 105 (Y "ValueError"), e P "Warning" 106 (Y "Warning"), e P "FloatingPointError" 107 (Y "FloatingPointError"), e P "OverflowError" 108 (Y "OverflowError"), e P "ZeroDivisionError" 109 (Y "ZeroDivisionError"), e P "BytesWarning" 110 (Y "BytesWarning"), e P "DeprecationWarning" 111 (Y "DeprecationWarning"), e P "EncodingWarning" 112 (Y "EncodingWarning"), e P "FutureWarning" 113 (Y "FutureWarning"), e P "ImportWarning" 114 (Y "ImportWarning"), e P "PendingDeprecationWarning" 115 (Y "PendingDeprecationWarning"), e P "ResourceWarning" 116 (Y "ResourceWarning"), e P "RuntimeWarning" 117 (Y "RuntimeWarning"), e P "SyntaxWarning" 118 (Y "SyntaxWarning"), e P "UnicodeWarning" 119 (Y "UnicodeWarning"), e P "UserWarning" 120 (Y "UserWarning"), e P "BlockingIOError" 121 (Y "BlockingIOError"), e P "ChildProcessError" 122 (Y "ChildProcessError"), e P "ConnectionError" 123 (Y "ConnectionError"), e P "FileExistsError" 124 (Y "FileExistsError"), e P "FileNotFoundError" 125 (Y "FileNotFoundError"), e P "InterruptedError" 126 (Y "InterruptedError"), e P "IsADirectoryError" 127 (Y "IsADirectoryError"), e P "NotADirectoryError" 128 (Y "NotADirectoryError"), e P "PermissionError" 129 (Y "PermissionError"), e P "ProcessLookupError" 130 (Y "ProcessLookupError"), e P "TimeoutError" 131 (Y "TimeoutError"), e P "IndentationError" 132 (Y "IndentationError"), e P "_IncompleteInputError" 133 (Y "_IncompleteInputError"), e P "IndexError" 134 (Y "IndexError"), e P "KeyError" 135 (Y "KeyError"), e P "ModuleNotFoundError" 136 (Y "ModuleNotFoundError"), e P "NotImplementedError" 137 (Y "NotImplementedError"), e P "PythonFinalizationError" 138 (Y "PythonFinalizationError"), e P "RecursionError" 139 (Y "RecursionError"), e P "UnboundLocalError" 140 (Y "UnboundLocalError"), e P "UnicodeError" 141 (Y "UnicodeError"), e P "BrokenPipeError" 142 (Y "BrokenPipeError"), e P "ConnectionAbortedError" 143 (Y "ConnectionAbortedError"), e P "ConnectionRefusedError" 144 (Y "ConnectionRefusedError"), e P "ConnectionResetError" 145 (Y "ConnectionResetError"), e P "TabError" 146 (Y "TabError"), e P "UnicodeDecodeError" 147 (Y "UnicodeDecodeError"), e P "UnicodeEncodeError" 148 (Y "UnicodeEncodeError"), e P "UnicodeTranslateError" 149 (Y "UnicodeTranslateError"), e P "ExceptionGroup" 150 (Y "ExceptionGroup"), e P "EnvironmentError" 151 (Y "OSError"), e P "IOError" 152 (Y "OSError"), e P "open" 153 (U "open"), e P "quit" 154 (U "builtins.quit#opaque"), e P "exit" 155 (U "builtins.exit#opaque"), e P "copyright" 156 (U "builtins.copyright#opaque"), e P "credits" 157 (U "builtins.credits#opaque"), e P "license" 158 (U "builtins.license#opaque"), e P "help" 159 (U "builtins.help#opaque")] 159,
  di (Y "dict") none [e P "builtins" 162 (R 4), e P "__main__" 163 (R 5)] 2,
  di N none [e P "type.__subclasses__.Exception.0" 980 (I 584 0), e P "type.__subclasses__.Exception.n" 981 (I 1 0)] 2,
  di (Y "dict") none [e P "__name__" 165 (T "law_pf0405_01" 2201), e P "__doc__" 166 N, e P "__package__" 167 N, e P "__loader__" 168 (U "__main__.__loader__#opaque"), e P "__spec__" 169 N, e P "__annotations__" 170 (R 6), e P "__builtins__" 171 (R 4), e P "__file__" 173 (T "/claim/cut.py" 172), e P "__cached__" 174 N, e P "_wall" 193 (R 21), e P "plus" 204 (R 28), e P "distance" 213 (R 35), e P "is_before" 223 (R 42), e P "is_at_most" 232 (R 49), e P "is_within" 242 (R 56), e P "latest" 251 (R 63), e P "Assembly" 409 (R 155), e P "Receiver" 583 (R 289), e P "EVERY" 587 (I 2 586), e P "AckPolicy" 659 (R 346), e P "DUPLICATES" 663 (I 3 662), e P "Congestion" 773 (R 430), e P "MOST_SHIFT_retransmit" 777 (I 7 776), e P "RetransmitClock" 876 (R 507), e P "RttEstimate" 952 (R 563), e P "StackError" 983 (R 584), e P "FormError" 999 (R 597), e P "SizeError" 1015 (R 609), e P "StateError" 1031 (R 621), e P "SendQueue" 1103 (R 675), e P "PeerWindow" 1158 (R 710), e P "Sender" 1399 (R 901), e P "put16" 1408 (R 912), e P "need" 1417 (R 919), e P "get16" 1425 (R 926), e P "FIN" 1429 (I 1 1428), e P "SYN" 1431 (I 2 1430), e P "RST" 1433 (I 4 1432), e P "PSH" 1435 (I 8 1434), e P "ACK" 1437 (I 16 1436), e P "URG" 1439 (I 32 1438), e P "OPTIONS_END" 1441 (I 0 1440), e P "OPTION_NOTHING" 1443 (I 1 1442), e P "OPTION_MSS" 1445 (I 2 1444), e P "MSS_SIZE" 1447 (I 4 1446), e P "Segment" 1519 (R 965), e P "check_number" 1527 (R 976), e P "mss_option" 1534 (R 983), e P "mss_of" 1544 (R 990), e P "CLOSED" 1548 (T "closed" 1547), e P "LISTEN" 1550 (T "listen" 1549), e P "SYN_SENT" 1552 (T "syn sent" 1551), e P "SYN_RECEIVED" 1554 (T "syn received" 1553), e P "ESTABLISHED" 1556 (T "established" 1555), e P "FIN_WAIT_1" 1558 (T "fin wait 1" 1557), e P "FIN_WAIT_2" 1560 (T "fin wait 2" 1559), e P "CLOSE_WAIT" 1562 (T "close wait" 1561), e P "CLOSING" 1564 (T "closing" 1563), e P "LAST_ACK" 1566 (T "last ack" 1565), e P "TIME_WAIT" 1568 (T "time wait" 1567), e P "opening_steps" 1574 (R 997), e P "closing_steps" 1580 (R 1004), e P "follow" 1589 (R 1011), e P "may_receive" 1596 (R 1018), e P "is_synchronized" 1603 (R 1025), e P "is_sending" 1610 (R 1032), e P "Wheel" 1704 (R 1095), e P "RESEND" 1708 (I 1 1707), e P "PERSIST" 1710 (I 2 1709), e P "DELAYED" 1712 (I 3 1711), e P "WAIT" 1714 (I 4 1713), e P "MOST_WINDOW" 1716 (I 65535 1715), e P "Limits" 1763 (R 1116), e P "clock_of" 1771 (R 1127), e P "Tcb" 1837 (R 1159), e P "MOST_SHIFT_tcp_user" 1841 (I 7 1840), e P "change_state" 1850 (R 1170), e P "closed" 1859 (R 1177), e P "enter_time_wait" 1868 (R 1184), e P "open_active" 1876 (R 1191), e P "ack_segment" 1883 (R 1198), e P "syn_segment" 1890 (R 1205), e P "flags_of" 1899 (R 1212), e P "take_asked_fin" 1907 (R 1219), e P "data_segments" 1923 (R 1226), e P "output" 1932 (R 1233), e P "set_resend" 1940 (R 1240), e P "keep_timers" 1948 (R 1247), e P "probe_wait" 1956 (R 1254), e P "segment_again" 1967 (R 1261), e P "is_acceptable" 1980 (R 1268), e P "is_new_ack" 1991 (R 1275), e P "WHOLE_RING" 1995 (I 4294967296 1994), e P "PLAIN_MSS" 1997 (I 536 1996), e P "arrive" 2006 (R 1282), e P "listed" 2013 (R 1289), e P "reset_for" 2022 (R 1297), e P "take_syn" 2032 (R 1304), e P "in_listen" 2041 (R 1311), e P "in_syn_sent" 2051 (R 1318), e P "opened_from_both" 2061 (R 1325), e P "without_syn" 2069 (R 1332), e P "in_others" 2080 (R 1339), e P "is_let_in" 2090 (R 1346), e P "turned_down" 2100 (R 1353), e P "is_old_acknowledgement" 2108 (R 1360), e P "take_reset" 2116 (R 1367), e P "is_too_far" 2126 (R 1374), e P "take_ack" 2138 (R 1381), e P "take_acknowledgement" 2151 (R 1388), e P "take_duplicate" 2162 (R 1395), e P "end_of_sending" 2170 (R 1402), e P "take_octets" 2183 (R 1409), e P "end_of_receiving" 2191 (R 1416), e P "replies" 2200 (R 1423), e P "_law_pool" 2213 (R 1430), e P "_law_take" 2222 (R 1437), e P "_law_one" 2230 (R 1444), e P "_law_due" 2248 (R 1451), e P "_law_told" 2254 (R 1456), e P "law" 2267 (R 1463)] 121,
  pl (Y "module") (some 0),
  pl (Y "module") (some 3),
  di (Y "dict") none [] 0,
  sq (Y "tuple") none [] 0,
  fl N none [],
  fl (Y "code") none [(T "<module>" 176), (T "<module>" 177), (T "/claim/cut.py" 178), (I 1 0), (I 0 0), (I 0 0), (I 0 0), (I 0 0), (R 7), (B false), (I 175 0), (R 8), N, N, N, N, (I 179 0), (I 1 0), (T "/claim/cut.py" 180)],
  sl (pl (Y "frame") none) [some (R 9), some (R 3), some (R 3), none, some (T "__main__" 164), none, some (R 0)],
  sq (Y "tuple") none [] 0,
  fl N none [(I 1 0), (I 0 0), (R 20), (I 5 0), (I 0 0), (R 27), (I 7 0), (I 0 0), (R 34), (I 9 0), (I 0 0), (R 41), (I 12 0), (I 0 0), (R 48), (I 14 0), (I 0 0), (R 55), (I 16 0), (I 0 0), (R 62), (I 19 0), (I 0 0), (R 69), (I 118 0), (I 0 0), (R 165), (I 216 0), (I 0 0), (R 299), (I 251 0), (I 0 0), (R 356), (I 322 0), (I 0 0), (R 440), (I 366 0), (I 0 0), (R 517), (I 404 0), (I 0 0), (R 573), (I 408 0), (I 0 0), (R 593), (I 410 0), (I 0 0), (R 605), (I 412 0), (I 0 0), (R 617), (I 415 0), (I 0 0), (R 629), (I 444 0), (I 0 0), (R 685), (I 469 0), (I 0 0), (R 720), (I 623 0), (I 0 0), (R 911), (I 625 0), (I 0 0), (R 918), (I 628 0), (I 0 0), (R 925), (I 642 0), (I 0 0), (R 932), (I 669 0), (I 0 0), (R 975), (I 672 0), (I 0 0), (R 982), (I 675 0), (I 0 0), (R 989), (I 705 0), (I 0 0), (R 996), (I 707 0), (I 0 0), (R 1003), (I 709 0), (I 0 0), (R 1010), (I 718 0), (I 0 0), (R 1017), (I 720 0), (I 0 0), (R 1024), (I 722 0), (I 0 0), (R 1031), (I 725 0), (I 0 0), (R 1038), (I 784 0), (I 0 0), (R 1105), (I 797 0), (I 0 0), (R 1126), (I 800 0), (I 0 0), (R 1133), (I 835 0), (I 0 0), (R 1169), (I 840 0), (I 0 0), (R 1176), (I 846 0), (I 0 0), (R 1183), (I 851 0), (I 0 0), (R 1190), (I 854 0), (I 0 0), (R 1197), (I 856 0), (I 0 0), (R 1204), (I 858 0), (I 0 0), (R 1211), (I 865 0), (I 0 0), (R 1218), (I 870 0), (I 0 0), (R 1225), (I 880 0), (I 0 0), (R 1232), (I 891 0), (I 0 0), (R 1239), (I 896 0), (I 0 0), (R 1246), (I 908 0), (I 0 0), (R 1253), (I 911 0), (I 0 0), (R 1260), (I 918 0), (I 0 0), (R 1267), (I 926 0), (I 0 0), (R 1274), (I 932 0), (I 0 0), (R 1281), (I 940 0), (I 0 0), (R 1288), (I 942 0), (I 0 0), (R 1296), (I 949 0), (I 0 0), (R 1303), (I 955 0), (I 0 0), (R 1310), (I 966 0), (I 0 0), (R 1317), (I 985 0), (I 0 0), (R 1324), (I 992 0), (I 0 0), (R 1331), (I 996 0), (I 0 0), (R 1338), (I 1019 0), (I 0 0), (R 1345), (I 1025 0), (I 0 0), (R 1352), (I 1037 0), (I 0 0), (R 1359), (I 1041 0), (I 0 0), (R 1366), (I 1051 0), (I 0 0), (R 1373), (I 1055 0), (I 0 0), (R 1380), (I 1062 0), (I 0 0), (R 1387), (I 1077 0), (I 0 0), (R 1394), (I 1086 0), (I 0 0), (R 1401), (I 1093 0), (I 0 0), (R 1408), (I 1113 0), (I 0 0), (R 1415), (I 1119 0), (I 0 0), (R 1422), (I 1127 0), (I 0 0), (R 1429), (I 1132 0), (I 0 0), (R 1436), (I 1139 0), (I 0 0), (R 1443), (I 1141 0), (I 0 0), (R 1450), (I 1157 0), (I 0 0), (R 1455), (I 1165 0), (I 0 0), (R 1462)],
  fl (Y "code") none [(T "<module>" 182), (T "<module>" 183), (T "/claim/cut.py" 184), (I 1 0), (I 0 0), (I 0 0), (I 0 0), (I 0 0), (R 11), (B false), (I 181 0), (R 12), N, N, N, N, (I 185 0), (I 1 0), (T "/claim/cut.py" 186)],
  sl (pl (Y "frame") none) [some (R 13), some (R 3), some (R 3), none, some (T "__main__" 164), none, some (R 0)],
  sq (Y "tuple") none [] 0,
  fl N none [],
  sq (Y "tuple") none [(T "k" 190)] 0,
  sq (Y "tuple") none [] 0,
  fn N none (sa 0) "_wall" 0 [] N N N N none N N 0,
  fl (Y "code") none [(T "_wall" 187), (T "_wall" 188), (T "/claim/cut.py" 189), (I 1 0), (I 1 0), (I 0 0), (I 0 0), (I 3 0), (R 15), (B true), (I 181 0), (R 16), N, (R 17), (R 18), (R 19), (I 191 0), (I 1 0), (T "/claim/cut.py" 192)],
  fn (Y "function") none (sa 0) "_wall" 3 [] N N N (T "__main__" 164) none (R 20) N 0,
  sq (Y "tuple") none [] 0,
  fl N none [],
  sq (Y "tuple") none [(T "a" 199), (T "n" 200), (T "ring" 201)] 0,
  sq (Y "tuple") none [] 0,
  fn N none (sa 2) "plus" 0 [] N N N N none N N 0,
  fl (Y "code") none [(T "plus" 196), (T "plus" 197), (T "/claim/cut.py" 198), (I 5 0), (I 3 0), (I 0 0), (I 0 0), (I 3 0), (R 22), (B true), (I 181 0), (R 23), N, (R 24), (R 25), (R 26), (I 202 0), (I 5 0), (T "/claim/cut.py" 203)],
  fn (Y "function") none (sa 2) "plus" 3 [] N N N (T "thinstack.sequence" 194) none (R 27) N 0,
  sq (Y "tuple") none [] 0,
  fl N none [],
  sq (Y "tuple") none [(T "a" 208), (T "b" 209), (T "ring" 210)] 0]
noncomputable def c1 (P : Params) : List Obj := [
  sq (Y "tuple") none [] 0,
  fn N none (sa 3) "distance" 0 [] N N N N none N N 0,
  fl (Y "code") none [(T "distance" 205), (T "distance" 206), (T "/claim/cut.py" 207), (I 7 0), (I 3 0), (I 0 0), (I 0 0), (I 3 0), (R 29), (B true), (I 181 0), (R 30), N, (R 31), (R 32), (R 33), (I 211 0), (I 7 0), (T "/claim/cut.py" 212)],
  fn (Y "function") none (sa 3) "distance" 3 [] N N N (T "thinstack.sequence" 194) none (R 34) N 0,
  sq (Y "tuple") none [] 0,
  fl N none [],
  sq (Y "tuple") none [(T "a" 217), (T "b" 218), (T "ring" 219), (T "gap" 220)] 0,
  sq (Y "tuple") none [] 0,
  fn N none (sa 4) "is_before" 0 [] N N N N none N N 0,
  fl (Y "code") none [(T "is_before" 214), (T "is_before" 215), (T "/claim/cut.py" 216), (I 9 0), (I 3 0), (I 0 0), (I 0 0), (I 3 0), (R 36), (B true), (I 181 0), (R 37), N, (R 38), (R 39), (R 40), (I 221 0), (I 9 0), (T "/claim/cut.py" 222)],
  fn (Y "function") none (sa 4) "is_before" 3 [] N N N (T "thinstack.sequence" 194) none (R 41) N 0,
  sq (Y "tuple") none [] 0,
  fl N none [],
  sq (Y "tuple") none [(T "a" 227), (T "b" 228), (T "ring" 229)] 0,
  sq (Y "tuple") none [] 0,
  fn N none (sa 5) "is_at_most" 0 [] N N N N none N N 0,
  fl (Y "code") none [(T "is_at_most" 224), (T "is_at_most" 225), (T "/claim/cut.py" 226), (I 12 0), (I 3 0), (I 0 0), (I 0 0), (I 3 0), (R 43), (B true), (I 181 0), (R 44), N, (R 45), (R 46), (R 47), (I 230 0), (I 12 0), (T "/claim/cut.py" 231)],
  fn (Y "function") none (sa 5) "is_at_most" 3 [] N N N (T "thinstack.sequence" 194) none (R 48) N 0,
  sq (Y "tuple") none [] 0,
  fl N none [],
  sq (Y "tuple") none [(T "x" 236), (T "low" 237), (T "size" 238), (T "ring" 239)] 0,
  sq (Y "tuple") none [] 0,
  fn N none (sa 6) "is_within" 0 [] N N N N none N N 0,
  fl (Y "code") none [(T "is_within" 233), (T "is_within" 234), (T "/claim/cut.py" 235), (I 14 0), (I 4 0), (I 0 0), (I 0 0), (I 3 0), (R 50), (B true), (I 181 0), (R 51), N, (R 52), (R 53), (R 54), (I 240 0), (I 14 0), (T "/claim/cut.py" 241)],
  fn (Y "function") none (sa 6) "is_within" 3 [] N N N (T "thinstack.sequence" 194) none (R 55) N 0,
  sq (Y "tuple") none [] 0,
  fl N none [],
  sq (Y "tuple") none [(T "a" 246), (T "b" 247), (T "ring" 248)] 0,
  sq (Y "tuple") none [] 0,
  fn N none (sa 7) "latest" 0 [] N N N N none N N 0,
  fl (Y "code") none [(T "latest" 243), (T "latest" 244), (T "/claim/cut.py" 245), (I 16 0), (I 3 0), (I 0 0), (I 0 0), (I 3 0), (R 57), (B true), (I 181 0), (R 58), N, (R 59), (R 60), (R 61), (I 249 0), (I 16 0), (T "/claim/cut.py" 250)],
  fn (Y "function") none (sa 7) "latest" 3 [] N N N (T "thinstack.sequence" 194) none (R 62) N 0]
noncomputable def c2 (P : Params) : List Obj := [
  sq (Y "tuple") none [] 0,
  fl (Y "builtin_function_or_method") none [(U "type.__prepare__"), (Y "type")],
  di (Y "dict") none [e P "__module__" 261 (T "thinstack.assembly" 252), e P "__qualname__" 263 (T "Assembly" 262), e P "__firstlineno__" 265 (I 19 264), e P "__init__" 273 (R 77), e P "size" 279 (R 82), e P "is_empty" 286 (R 89), e P "offset" 295 (R 96), e P "put" 307 (R 103), e P "missing" 324 (R 110), e P "merged" 338 (R 117), e P "joined" 353 (R 124), e P "forget" 364 (R 131), e P "take" 372 (R 138), e P "holes" 385 (R 145), e P "cut_behind" 399 (R 152), e P "__static_attributes__" 402 (R 153)] 16,
  sq (Y "tuple") none [] 0,
  fl N none [(I 21 0), (I 4 0), (R 76), (I 25 0), (I 4 0), (R 81), (I 28 0), (I 4 0), (R 88), (I 31 0), (I 4 0), (R 95), (I 36 0), (I 4 0), (R 102), (I 46 0), (I 4 0), (R 109), (I 63 0), (I 4 0), (R 116), (I 72 0), (I 4 0), (R 123), (I 83 0), (I 4 0), (R 130), (I 94 0), (I 4 0), (R 137), (I 100 0), (I 4 0), (R 144), (I 109 0), (I 4 0), (R 151)],
  fl (Y "code") none [(T "Assembly" 256), (T "Assembly" 257), (T "/claim/cut.py" 258), (I 19 0), (I 0 0), (I 0 0), (I 0 0), (I 0 0), (R 67), (B false), (I 181 0), (R 68), N, N, N, N, (I 259 0), (I 19 0), (T "/claim/cut.py" 260)],
  sl (pl (Y "frame") none) [some (R 69), some (R 3), some (R 66), none, some (T "thinstack.assembly" 252), none, some (R 0)],
  sq (Y "tuple") none [] 0,
  fl N none [],
  sq (Y "tuple") none [(T "self" 269), (T "ring" 270)] 0,
  sq (Y "tuple") none [] 0,
  fn N none (sb 9 0) "Assembly.__init__" 0 [] N N N N none N N 0,
  fl (Y "code") none [(T "__init__" 266), (T "Assembly.__init__" 267), (T "/claim/cut.py" 268), (I 21 0), (I 2 0), (I 0 0), (I 0 0), (I 3 0), (R 71), (B true), (I 181 0), (R 72), N, (R 73), (R 74), (R 75), (I 271 0), (I 21 0), (T "/claim/cut.py" 272)],
  fn (Y "function") none (sb 9 0) "Assembly.__init__" 3 [] N N N (T "thinstack.assembly" 252) none (R 76) N 0,
  sq (Y "tuple") none [] 0,
  fl N none [],
  fn N none (sb 9 1) "Assembly.size" 0 [] N N N N none N N 0,
  fl (Y "code") none [(T "size" 274), (T "Assembly.size" 275), (T "/claim/cut.py" 276), (I 25 0), (I 1 0), (I 0 0), (I 0 0), (I 3 0), (R 78), (B true), (I 181 0), (R 79), N, N, N, (R 80), (I 277 0), (I 25 0), (T "/claim/cut.py" 278)],
  fn (Y "function") none (sb 9 1) "Assembly.size" 3 [] N N N (T "thinstack.assembly" 252) none (R 81) N 0,
  sq (Y "tuple") none [] 0,
  fl N none [],
  sq (Y "tuple") none [(T "self" 283)] 0,
  sq (Y "tuple") none [] 0,
  fn N none (sb 9 2) "Assembly.is_empty" 0 [] N N N N none N N 0,
  fl (Y "code") none [(T "is_empty" 280), (T "Assembly.is_empty" 281), (T "/claim/cut.py" 282), (I 28 0), (I 1 0), (I 0 0), (I 0 0), (I 3 0), (R 83), (B true), (I 181 0), (R 84), N, (R 85), (R 86), (R 87), (I 284 0), (I 28 0), (T "/claim/cut.py" 285)],
  fn (Y "function") none (sb 9 2) "Assembly.is_empty" 3 [] N N N (T "thinstack.assembly" 252) none (R 88) N 0,
  sq (Y "tuple") none [] 0,
  fl N none [],
  sq (Y "tuple") none [(T "self" 290), (T "seq" 291), (T "next" 292)] 0,
  sq (Y "tuple") none [] 0,
  fn N none (sb 9 3) "Assembly.offset" 0 [] N N N N none N N 0,
  fl (Y "code") none [(T "offset" 287), (T "Assembly.offset" 288), (T "/claim/cut.py" 289), (I 31 0), (I 3 0), (I 0 0), (I 0 0), (I 3 0), (R 90), (B true), (I 181 0), (R 91), N, (R 92), (R 93), (R 94), (I 293 0), (I 31 0), (T "/claim/cut.py" 294)]]
noncomputable def c3 (P : Params) : List Obj := [
  fn (Y "function") none (sb 9 3) "Assembly.offset" 3 [] N N N (T "thinstack.assembly" 252) none (R 95) N 0,
  sq (Y "tuple") none [] 0,
  fl N none [],
  sq (Y "tuple") none [(T "self" 299), (T "seq" 300), (T "octets" 301), (T "next" 302), (T "begin" 303), (T "fresh" 304)] 0,
  sq (Y "tuple") none [] 0,
  fn N none (sb 9 4) "Assembly.put" 0 [] N N N N none N N 0,
  fl (Y "code") none [(T "put" 296), (T "Assembly.put" 297), (T "/claim/cut.py" 298), (I 36 0), (I 4 0), (I 0 0), (I 0 0), (I 3 0), (R 97), (B true), (I 181 0), (R 98), N, (R 99), (R 100), (R 101), (I 305 0), (I 36 0), (T "/claim/cut.py" 306)],
  fn (Y "function") none (sb 9 4) "Assembly.put" 3 [] N N N (T "thinstack.assembly" 252) none (R 102) N 0,
  sq (Y "tuple") none [] 0,
  fl N none [],
  sq (Y "tuple") none [(T "self" 311), (T "begin" 312), (T "octets" 313), (T "next" 314), (T "end" 315), (T "found" 316), (T "at" 317), (T "seq" 318), (T "kept" 319), (T "first" 320), (T "last" 321)] 0,
  sq (Y "tuple") none [] 0,
  fn N none (sb 9 5) "Assembly.missing" 0 [] N N N N none N N 0,
  fl (Y "code") none [(T "missing" 308), (T "Assembly.missing" 309), (T "/claim/cut.py" 310), (I 46 0), (I 4 0), (I 0 0), (I 0 0), (I 3 0), (R 104), (B true), (I 181 0), (R 105), N, (R 106), (R 107), (R 108), (I 322 0), (I 46 0), (T "/claim/cut.py" 323)],
  fn (Y "function") none (sb 9 5) "Assembly.missing" 3 [] N N N (T "thinstack.assembly" 252) none (R 109) N 0,
  sq (Y "tuple") none [] 0,
  fl N none [],
  sq (Y "tuple") none [(T "self" 328), (T "fresh" 329), (T "next" 330), (T "found" 331), (T "rest" 332), (T "seq" 333), (T "kept" 334), (T "first" 335)] 0,
  sq (Y "tuple") none [] 0,
  fn N none (sb 9 6) "Assembly.merged" 0 [] N N N N none N N 0,
  fl (Y "code") none [(T "merged" 325), (T "Assembly.merged" 326), (T "/claim/cut.py" 327), (I 63 0), (I 3 0), (I 0 0), (I 0 0), (I 3 0), (R 111), (B true), (I 181 0), (R 112), N, (R 113), (R 114), (R 115), (I 336 0), (I 63 0), (T "/claim/cut.py" 337)],
  fn (Y "function") none (sb 9 6) "Assembly.merged" 3 [] N N N (T "thinstack.assembly" 252) none (R 116) N 0,
  sq (Y "tuple") none [] 0,
  fl N none [],
  sq (Y "tuple") none [(T "self" 342), (T "pieces" 343), (T "next" 344), (T "found" 345), (T "end" 346), (T "first" 347), (T "octets" 348), (T "seq" 349), (T "ahead" 350)] 0,
  sq (Y "tuple") none [] 0,
  fn N none (sb 9 7) "Assembly.joined" 0 [] N N N N none N N 0,
  fl (Y "code") none [(T "joined" 339), (T "Assembly.joined" 340), (T "/claim/cut.py" 341), (I 72 0), (I 3 0), (I 0 0), (I 0 0), (I 3 0), (R 118), (B true), (I 181 0), (R 119), N, (R 120), (R 121), (R 122), (I 351 0), (I 72 0), (T "/claim/cut.py" 352)],
  fn (Y "function") none (sb 9 7) "Assembly.joined" 3 [] N N N (T "thinstack.assembly" 252) none (R 123) N 0,
  sq (Y "tuple") none [] 0,
  fl N none [],
  sq (Y "tuple") none [(T "self" 357), (T "next" 358), (T "seq" 359), (T "octets" 360), (T "begin" 361)] 0]
noncomputable def c4 (P : Params) : List Obj := [
  sq (Y "tuple") none [] 0,
  fn N none (sb 9 8) "Assembly.forget" 0 [] N N N N none N N 0,
  fl (Y "code") none [(T "forget" 354), (T "Assembly.forget" 355), (T "/claim/cut.py" 356), (I 83 0), (I 2 0), (I 0 0), (I 0 0), (I 3 0), (R 125), (B true), (I 181 0), (R 126), N, (R 127), (R 128), (R 129), (I 362 0), (I 83 0), (T "/claim/cut.py" 363)],
  fn (Y "function") none (sb 9 8) "Assembly.forget" 3 [] N N N (T "thinstack.assembly" 252) none (R 130) N 0,
  sq (Y "tuple") none [] 0,
  fl N none [],
  sq (Y "tuple") none [(T "self" 368), (T "next" 369)] 0,
  sq (Y "tuple") none [] 0,
  fn N none (sb 9 9) "Assembly.take" 0 [] N N N N none N N 0,
  fl (Y "code") none [(T "take" 365), (T "Assembly.take" 366), (T "/claim/cut.py" 367), (I 94 0), (I 2 0), (I 0 0), (I 0 0), (I 3 0), (R 132), (B true), (I 181 0), (R 133), N, (R 134), (R 135), (R 136), (I 370 0), (I 94 0), (T "/claim/cut.py" 371)],
  fn (Y "function") none (sb 9 9) "Assembly.take" 3 [] N N N (T "thinstack.assembly" 252) none (R 137) N 0,
  sq (Y "tuple") none [] 0,
  fl N none [],
  sq (Y "tuple") none [(T "self" 376), (T "next" 377), (T "found" 378), (T "at" 379), (T "seq" 380), (T "octets" 381), (T "missing" 382)] 0,
  sq (Y "tuple") none [] 0,
  fn N none (sb 9 10) "Assembly.holes" 0 [] N N N N none N N 0,
  fl (Y "code") none [(T "holes" 373), (T "Assembly.holes" 374), (T "/claim/cut.py" 375), (I 100 0), (I 2 0), (I 0 0), (I 0 0), (I 3 0), (R 139), (B true), (I 181 0), (R 140), N, (R 141), (R 142), (R 143), (I 383 0), (I 100 0), (T "/claim/cut.py" 384)],
  fn (Y "function") none (sb 9 10) "Assembly.holes" 3 [] N N N (T "thinstack.assembly" 252) none (R 144) N 0,
  sq (Y "tuple") none [] 0,
  fl N none [],
  sq (Y "tuple") none [(T "self" 389), (T "edge" 390), (T "next" 391), (T "most" 392), (T "found" 393), (T "seq" 394), (T "octets" 395), (T "left" 396)] 0,
  sq (Y "tuple") none [] 0,
  fn N none (sb 9 11) "Assembly.cut_behind" 0 [] N N N N none N N 0,
  fl (Y "code") none [(T "cut_behind" 386), (T "Assembly.cut_behind" 387), (T "/claim/cut.py" 388), (I 109 0), (I 3 0), (I 0 0), (I 0 0), (I 3 0), (R 146), (B true), (I 181 0), (R 147), N, (R 148), (R 149), (R 150), (I 397 0), (I 109 0), (T "/claim/cut.py" 398)],
  fn (Y "function") none (sb 9 11) "Assembly.cut_behind" 3 [] N N N (T "thinstack.assembly" 252) none (R 151) N 0,
  sq (Y "tuple") none [(T "parts" 400), (T "ring" 401)] 0,
  di (Y "dict") none [e P "__module__" 261 (T "thinstack.assembly" 252), e P "__firstlineno__" 265 (I 19 264), e P "__init__" 273 (R 77), e P "size" 279 (R 82), e P "is_empty" 286 (R 89), e P "offset" 295 (R 96), e P "put" 307 (R 103), e P "missing" 324 (R 110), e P "merged" 338 (R 117), e P "joined" 353 (R 124), e P "forget" 364 (R 131), e P "take" 372 (R 138), e P "holes" 385 (R 145), e P "cut_behind" 399 (R 152), e P "__static_attributes__" 402 (R 153), e P "__dict__" 404 (R 156), e P "__weakref__" 406 (R 157), e P "__doc__" 407 N] 4,
  sl (cl (Y "type") none "Assembly" [(Y "object")] [(R 155), (Y "object")] 154 "Assembly" true [] [] false false) [none, none, some (T "Assembly" 254), some (T "Assembly" 262), some (U "object.__new__"), some (B true)],
  fl (Y "getset_descriptor") none [(T "__dict__" 403), (R 155), (U "function.__dict__"), (U "function.__dict__#set")],
  fl (Y "getset_descriptor") none [(T "__weakref__" 405), (R 155), (U "ExceptionGroup.__weakref__"), N],
  fl (Y "super") none [(R 155), (R 155), (R 155)],
  fl (Y "builtin_function_or_method") none [(U "object.__init_subclass__"), (R 155)]]
noncomputable def c5 (P : Params) : List Obj := [
  sq (Y "tuple") none [] 0,
  fl (Y "builtin_function_or_method") none [(U "type.__prepare__"), (Y "type")],
  di (Y "dict") none [e P "__module__" 419 (T "thinstack.receiver" 410), e P "__qualname__" 421 (T "Receiver" 420), e P "__firstlineno__" 423 (I 118 422), e P "__init__" 435 (R 174), e P "free_edge" 442 (R 181), e P "should_tell" 450 (R 188), e P "told_window" 457 (R 195), e P "window" 464 (R 202), e P "arrive" 477 (R 209), e P "let_in" 487 (R 216), e P "note_fin" 495 (R 223), e P "ahead_of_fin" 504 (R 230), e P "gather" 512 (R 237), e P "has_holes" 519 (R 244), e P "available" 526 (R 251), e P "read" 535 (R 258), e P "is_over" 542 (R 265), e P "read_place" 550 (R 272), e P "urgent" 558 (R 279), e P "urgent_left" 565 (R 286), e P "__static_attributes__" 576 (R 287)] 21,
  sq (Y "tuple") none [] 0,
  fl N none [(I 120 0), (I 4 0), (R 173), (I 132 0), (I 4 0), (R 180), (I 135 0), (I 4 0), (R 187), (I 140 0), (I 4 0), (R 194), (I 145 0), (I 4 0), (R 201), (I 150 0), (I 4 0), (R 208), (I 162 0), (I 4 0), (R 215), (I 168 0), (I 4 0), (R 222), (I 173 0), (I 4 0), (R 229), (I 178 0), (I 4 0), (R 236), (I 189 0), (I 4 0), (R 243), (I 192 0), (I 4 0), (R 250), (I 195 0), (I 4 0), (R 257), (I 200 0), (I 4 0), (R 264), (I 203 0), (I 4 0), (R 271), (I 207 0), (I 4 0), (R 278), (I 212 0), (I 4 0), (R 285)],
  fl (Y "code") none [(T "Receiver" 414), (T "Receiver" 415), (T "/claim/cut.py" 416), (I 118 0), (I 0 0), (I 0 0), (I 0 0), (I 0 0), (R 163), (B false), (I 181 0), (R 164), N, N, N, N, (I 417 0), (I 118 0), (T "/claim/cut.py" 418)],
  sl (pl (Y "frame") none) [some (R 165), some (R 3), some (R 162), none, some (T "thinstack.receiver" 410), none, some (R 0)],
  sq (Y "tuple") none [(I 1 424)] 0,
  sq (Y "tuple") none [] 0,
  fl N none [],
  sq (Y "tuple") none [(T "self" 428), (T "irs" 429), (T "ring" 430), (T "room" 431), (T "mss" 432)] 0,
  sq (Y "tuple") none [] 0,
  fn N none (sb 11 0) "Receiver.__init__" 0 [] N N N N none N N 0,
  fl (Y "code") none [(T "__init__" 425), (T "Receiver.__init__" 426), (T "/claim/cut.py" 427), (I 120 0), (I 5 0), (I 0 0), (I 0 0), (I 3 0), (R 168), (B true), (I 181 0), (R 169), N, (R 170), (R 171), (R 172), (I 433 0), (I 120 0), (T "/claim/cut.py" 434)],
  fn (Y "function") none (sb 11 0) "Receiver.__init__" 3 [] (R 167) N N (T "thinstack.receiver" 410) none (R 173) N 0,
  sq (Y "tuple") none [] 0,
  fl N none [],
  sq (Y "tuple") none [(T "self" 439)] 0,
  sq (Y "tuple") none [] 0,
  fn N none (sb 11 1) "Receiver.free_edge" 0 [] N N N N none N N 0,
  fl (Y "code") none [(T "free_edge" 436), (T "Receiver.free_edge" 437), (T "/claim/cut.py" 438), (I 132 0), (I 1 0), (I 0 0), (I 0 0), (I 3 0), (R 175), (B true), (I 181 0), (R 176), N, (R 177), (R 178), (R 179), (I 440 0), (I 132 0), (T "/claim/cut.py" 441)],
  fn (Y "function") none (sb 11 1) "Receiver.free_edge" 3 [] N N N (T "thinstack.receiver" 410) none (R 180) N 0,
  sq (Y "tuple") none [] 0,
  fl N none [],
  sq (Y "tuple") none [(T "self" 446), (T "mss" 447)] 0,
  sq (Y "tuple") none [] 0,
  fn N none (sb 11 2) "Receiver.should_tell" 0 [] N N N N none N N 0,
  fl (Y "code") none [(T "should_tell" 443), (T "Receiver.should_tell" 444), (T "/claim/cut.py" 445), (I 135 0), (I 2 0), (I 0 0), (I 0 0), (I 3 0), (R 182), (B true), (I 181 0), (R 183), N, (R 184), (R 185), (R 186), (I 448 0), (I 135 0), (T "/claim/cut.py" 449)],
  fn (Y "function") none (sb 11 2) "Receiver.should_tell" 3 [] N N N (T "thinstack.receiver" 410) none (R 187) N 0,
  sq (Y "tuple") none [] 0,
  fl N none [],
  sq (Y "tuple") none [(T "self" 454)] 0]
noncomputable def c6 (P : Params) : List Obj := [
  sq (Y "tuple") none [] 0,
  fn N none (sb 11 3) "Receiver.told_window" 0 [] N N N N none N N 0,
  fl (Y "code") none [(T "told_window" 451), (T "Receiver.told_window" 452), (T "/claim/cut.py" 453), (I 140 0), (I 1 0), (I 0 0), (I 0 0), (I 3 0), (R 189), (B true), (I 181 0), (R 190), N, (R 191), (R 192), (R 193), (I 455 0), (I 140 0), (T "/claim/cut.py" 456)],
  fn (Y "function") none (sb 11 3) "Receiver.told_window" 3 [] N N N (T "thinstack.receiver" 410) none (R 194) N 0,
  sq (Y "tuple") none [] 0,
  fl N none [],
  sq (Y "tuple") none [(T "self" 461)] 0,
  sq (Y "tuple") none [] 0,
  fn N none (sb 11 4) "Receiver.window" 0 [] N N N N none N N 0,
  fl (Y "code") none [(T "window" 458), (T "Receiver.window" 459), (T "/claim/cut.py" 460), (I 145 0), (I 1 0), (I 0 0), (I 0 0), (I 3 0), (R 196), (B true), (I 181 0), (R 197), N, (R 198), (R 199), (R 200), (I 462 0), (I 145 0), (T "/claim/cut.py" 463)],
  fn (Y "function") none (sb 11 4) "Receiver.window" 3 [] N N N (T "thinstack.receiver" 410) none (R 201) N 0,
  sq (Y "tuple") none [] 0,
  fl N none [],
  sq (Y "tuple") none [(T "self" 468), (T "seq" 469), (T "octets" 470), (T "has_fin" 471), (T "is_in_order" 472), (T "kept" 473), (T "fresh" 474)] 0,
  sq (Y "tuple") none [] 0,
  fn N none (sb 11 5) "Receiver.arrive" 0 [] N N N N none N N 0,
  fl (Y "code") none [(T "arrive" 465), (T "Receiver.arrive" 466), (T "/claim/cut.py" 467), (I 150 0), (I 4 0), (I 0 0), (I 0 0), (I 3 0), (R 203), (B true), (I 181 0), (R 204), N, (R 205), (R 206), (R 207), (I 475 0), (I 150 0), (T "/claim/cut.py" 476)],
  fn (Y "function") none (sb 11 5) "Receiver.arrive" 3 [] N N N (T "thinstack.receiver" 410) none (R 208) N 0,
  sq (Y "tuple") none [] 0,
  fl N none [],
  sq (Y "tuple") none [(T "self" 481), (T "seq" 482), (T "octets" 483), (T "most" 484)] 0,
  sq (Y "tuple") none [] 0,
  fn N none (sb 11 6) "Receiver.let_in" 0 [] N N N N none N N 0,
  fl (Y "code") none [(T "let_in" 478), (T "Receiver.let_in" 479), (T "/claim/cut.py" 480), (I 162 0), (I 3 0), (I 0 0), (I 0 0), (I 3 0), (R 210), (B true), (I 181 0), (R 211), N, (R 212), (R 213), (R 214), (I 485 0), (I 162 0), (T "/claim/cut.py" 486)],
  fn (Y "function") none (sb 11 6) "Receiver.let_in" 3 [] N N N (T "thinstack.receiver" 410) none (R 215) N 0,
  sq (Y "tuple") none [] 0,
  fl N none [],
  sq (Y "tuple") none [(T "self" 491), (T "place" 492)] 0,
  sq (Y "tuple") none [] 0,
  fn N none (sb 11 7) "Receiver.note_fin" 0 [] N N N N none N N 0,
  fl (Y "code") none [(T "note_fin" 488), (T "Receiver.note_fin" 489), (T "/claim/cut.py" 490), (I 168 0), (I 2 0), (I 0 0), (I 0 0), (I 3 0), (R 217), (B true), (I 181 0), (R 218), N, (R 219), (R 220), (R 221), (I 493 0), (I 168 0), (T "/claim/cut.py" 494)],
  fn (Y "function") none (sb 11 7) "Receiver.note_fin" 3 [] N N N (T "thinstack.receiver" 410) none (R 222) N 0]
noncomputable def c7 (P : Params) : List Obj := [
  sq (Y "tuple") none [] 0,
  fl N none [],
  sq (Y "tuple") none [(T "self" 499), (T "seq" 500), (T "octets" 501)] 0,
  sq (Y "tuple") none [] 0,
  fn N none (sb 11 8) "Receiver.ahead_of_fin" 0 [] N N N N none N N 0,
  fl (Y "code") none [(T "ahead_of_fin" 496), (T "Receiver.ahead_of_fin" 497), (T "/claim/cut.py" 498), (I 173 0), (I 3 0), (I 0 0), (I 0 0), (I 3 0), (R 224), (B true), (I 181 0), (R 225), N, (R 226), (R 227), (R 228), (I 502 0), (I 173 0), (T "/claim/cut.py" 503)],
  fn (Y "function") none (sb 11 8) "Receiver.ahead_of_fin" 3 [] N N N (T "thinstack.receiver" 410) none (R 229) N 0,
  sq (Y "tuple") none [] 0,
  fl N none [],
  sq (Y "tuple") none [(T "self" 508), (T "fresh" 509)] 0,
  sq (Y "tuple") none [] 0,
  fn N none (sb 11 9) "Receiver.gather" 0 [] N N N N none N N 0,
  fl (Y "code") none [(T "gather" 505), (T "Receiver.gather" 506), (T "/claim/cut.py" 507), (I 178 0), (I 1 0), (I 0 0), (I 0 0), (I 3 0), (R 231), (B true), (I 181 0), (R 232), N, (R 233), (R 234), (R 235), (I 510 0), (I 178 0), (T "/claim/cut.py" 511)],
  fn (Y "function") none (sb 11 9) "Receiver.gather" 3 [] N N N (T "thinstack.receiver" 410) none (R 236) N 0,
  sq (Y "tuple") none [] 0,
  fl N none [],
  sq (Y "tuple") none [(T "self" 516)] 0,
  sq (Y "tuple") none [] 0,
  fn N none (sb 11 10) "Receiver.has_holes" 0 [] N N N N none N N 0,
  fl (Y "code") none [(T "has_holes" 513), (T "Receiver.has_holes" 514), (T "/claim/cut.py" 515), (I 189 0), (I 1 0), (I 0 0), (I 0 0), (I 3 0), (R 238), (B true), (I 181 0), (R 239), N, (R 240), (R 241), (R 242), (I 517 0), (I 189 0), (T "/claim/cut.py" 518)],
  fn (Y "function") none (sb 11 10) "Receiver.has_holes" 3 [] N N N (T "thinstack.receiver" 410) none (R 243) N 0,
  sq (Y "tuple") none [] 0,
  fl N none [],
  sq (Y "tuple") none [(T "self" 523)] 0,
  sq (Y "tuple") none [] 0,
  fn N none (sb 11 11) "Receiver.available" 0 [] N N N N none N N 0,
  fl (Y "code") none [(T "available" 520), (T "Receiver.available" 521), (T "/claim/cut.py" 522), (I 192 0), (I 1 0), (I 0 0), (I 0 0), (I 3 0), (R 245), (B true), (I 181 0), (R 246), N, (R 247), (R 248), (R 249), (I 524 0), (I 192 0), (T "/claim/cut.py" 525)],
  fn (Y "function") none (sb 11 11) "Receiver.available" 3 [] N N N (T "thinstack.receiver" 410) none (R 250) N 0,
  sq (Y "tuple") none [] 0,
  fl N none [],
  sq (Y "tuple") none [(T "self" 530), (T "many" 531), (T "found" 532)] 0,
  sq (Y "tuple") none [] 0]
noncomputable def c8 (P : Params) : List Obj := [
  fn N none (sb 11 12) "Receiver.read" 0 [] N N N N none N N 0,
  fl (Y "code") none [(T "read" 527), (T "Receiver.read" 528), (T "/claim/cut.py" 529), (I 195 0), (I 2 0), (I 0 0), (I 0 0), (I 3 0), (R 252), (B true), (I 181 0), (R 253), N, (R 254), (R 255), (R 256), (I 533 0), (I 195 0), (T "/claim/cut.py" 534)],
  fn (Y "function") none (sb 11 12) "Receiver.read" 3 [] N N N (T "thinstack.receiver" 410) none (R 257) N 0,
  sq (Y "tuple") none [] 0,
  fl N none [],
  sq (Y "tuple") none [(T "self" 539)] 0,
  sq (Y "tuple") none [] 0,
  fn N none (sb 11 13) "Receiver.is_over" 0 [] N N N N none N N 0,
  fl (Y "code") none [(T "is_over" 536), (T "Receiver.is_over" 537), (T "/claim/cut.py" 538), (I 200 0), (I 1 0), (I 0 0), (I 0 0), (I 3 0), (R 259), (B true), (I 181 0), (R 260), N, (R 261), (R 262), (R 263), (I 540 0), (I 200 0), (T "/claim/cut.py" 541)],
  fn (Y "function") none (sb 11 13) "Receiver.is_over" 3 [] N N N (T "thinstack.receiver" 410) none (R 264) N 0,
  sq (Y "tuple") none [] 0,
  fl N none [],
  sq (Y "tuple") none [(T "self" 546), (T "behind" 547)] 0,
  sq (Y "tuple") none [] 0,
  fn N none (sb 11 14) "Receiver.read_place" 0 [] N N N N none N N 0,
  fl (Y "code") none [(T "read_place" 543), (T "Receiver.read_place" 544), (T "/claim/cut.py" 545), (I 203 0), (I 1 0), (I 0 0), (I 0 0), (I 3 0), (R 266), (B true), (I 181 0), (R 267), N, (R 268), (R 269), (R 270), (I 548 0), (I 203 0), (T "/claim/cut.py" 549)],
  fn (Y "function") none (sb 11 14) "Receiver.read_place" 3 [] N N N (T "thinstack.receiver" 410) none (R 271) N 0,
  sq (Y "tuple") none [] 0,
  fl N none [],
  sq (Y "tuple") none [(T "self" 554), (T "pointer" 555)] 0,
  sq (Y "tuple") none [] 0,
  fn N none (sb 11 15) "Receiver.urgent" 0 [] N N N N none N N 0,
  fl (Y "code") none [(T "urgent" 551), (T "Receiver.urgent" 552), (T "/claim/cut.py" 553), (I 207 0), (I 2 0), (I 0 0), (I 0 0), (I 3 0), (R 273), (B true), (I 181 0), (R 274), N, (R 275), (R 276), (R 277), (I 556 0), (I 207 0), (T "/claim/cut.py" 557)],
  fn (Y "function") none (sb 11 15) "Receiver.urgent" 3 [] N N N (T "thinstack.receiver" 410) none (R 278) N 0,
  sq (Y "tuple") none [] 0,
  fl N none [],
  sq (Y "tuple") none [(T "self" 562)] 0,
  sq (Y "tuple") none [] 0,
  fn N none (sb 11 16) "Receiver.urgent_left" 0 [] N N N N none N N 0,
  fl (Y "code") none [(T "urgent_left" 559), (T "Receiver.urgent_left" 560), (T "/claim/cut.py" 561), (I 212 0), (I 1 0), (I 0 0), (I 0 0), (I 3 0), (R 280), (B true), (I 181 0), (R 281), N, (R 282), (R 283), (R 284), (I 563 0), (I 212 0), (T "/claim/cut.py" 564)],
  fn (Y "function") none (sb 11 16) "Receiver.urgent_left" 3 [] N N N (T "thinstack.receiver" 410) none (R 285) N 0,
  sq (Y "tuple") none [(T "assembly" 566), (T "fin_at" 567), (T "has_fin" 568), (T "mss" 569), (T "next" 570), (T "ready" 571), (T "ring" 572), (T "room" 573), (T "told_edge" 574), (T "urgent_at" 575)] 0]
noncomputable def c9 (P : Params) : List Obj := [
  di (Y "dict") none [e P "__module__" 419 (T "thinstack.receiver" 410), e P "__firstlineno__" 423 (I 118 422), e P "__init__" 435 (R 174), e P "free_edge" 442 (R 181), e P "should_tell" 450 (R 188), e P "told_window" 457 (R 195), e P "window" 464 (R 202), e P "arrive" 477 (R 209), e P "let_in" 487 (R 216), e P "note_fin" 495 (R 223), e P "ahead_of_fin" 504 (R 230), e P "gather" 512 (R 237), e P "has_holes" 519 (R 244), e P "available" 526 (R 251), e P "read" 535 (R 258), e P "is_over" 542 (R 265), e P "read_place" 550 (R 272), e P "urgent" 558 (R 279), e P "urgent_left" 565 (R 286), e P "__static_attributes__" 576 (R 287), e P "__dict__" 578 (R 290), e P "__weakref__" 580 (R 291), e P "__doc__" 581 N] 4,
  sl (cl (Y "type") none "Receiver" [(Y "object")] [(R 289), (Y "object")] 288 "Receiver" true [] [] false false) [none, none, some (T "Receiver" 412), some (T "Receiver" 420), some (U "object.__new__"), some (B true)],
  fl (Y "getset_descriptor") none [(T "__dict__" 577), (R 289), (U "function.__dict__"), (U "function.__dict__#set")],
  fl (Y "getset_descriptor") none [(T "__weakref__" 579), (R 289), (U "ExceptionGroup.__weakref__"), N],
  fl (Y "super") none [(R 289), (R 289), (R 289)],
  fl (Y "builtin_function_or_method") none [(U "object.__init_subclass__"), (R 289)],
  sq (Y "tuple") none [] 0,
  fl (Y "builtin_function_or_method") none [(U "type.__prepare__"), (Y "type")],
  di (Y "dict") none [e P "__module__" 595 (T "thinstack.acks" 584), e P "__qualname__" 597 (T "AckPolicy" 596), e P "__firstlineno__" 599 (I 216 598), e P "__init__" 607 (R 307), e P "on_octets" 618 (R 315), e P "at_once" 625 (R 322), e P "is_due" 633 (R 329), e P "on_sent" 640 (R 336), e P "due_time" 647 (R 343), e P "__static_attributes__" 652 (R 344)] 10,
  sq (Y "tuple") none [] 0,
  fl N none [(I 218 0), (I 4 0), (R 306), (I 224 0), (I 4 0), (R 314), (I 235 0), (I 4 0), (R 321), (I 238 0), (I 4 0), (R 328), (I 243 0), (I 4 0), (R 335), (I 247 0), (I 4 0), (R 342)],
  fl (Y "code") none [(T "AckPolicy" 590), (T "AckPolicy" 591), (T "/claim/cut.py" 592), (I 216 0), (I 0 0), (I 0 0), (I 0 0), (I 0 0), (R 297), (B false), (I 181 0), (R 298), N, N, N, N, (I 593 0), (I 216 0), (T "/claim/cut.py" 594)],
  sl (pl (Y "frame") none) [some (R 299), some (R 3), some (R 296), none, some (T "thinstack.acks" 584), none, some (R 0)],
  sq (Y "tuple") none [] 0,
  fl N none [],
  sq (Y "tuple") none [(T "self" 603), (T "delay" 604)] 0,
  sq (Y "tuple") none [] 0,
  fn N none (sb 14 0) "AckPolicy.__init__" 0 [] N N N N none N N 0,
  fl (Y "code") none [(T "__init__" 600), (T "AckPolicy.__init__" 601), (T "/claim/cut.py" 602), (I 218 0), (I 2 0), (I 0 0), (I 0 0), (I 3 0), (R 301), (B true), (I 181 0), (R 302), N, (R 303), (R 304), (R 305), (I 605 0), (I 218 0), (T "/claim/cut.py" 606)],
  fn (Y "function") none (sb 14 0) "AckPolicy.__init__" 3 [] N N N (T "thinstack.acks" 584) none (R 306) N 0,
  sq (Y "tuple") none [(B false)] 0,
  sq (Y "tuple") none [] 0,
  fl N none [],
  sq (Y "tuple") none [(T "self" 611), (T "in_order" 612), (T "now" 613), (T "has_holes" 614), (T "filled" 615)] 0,
  sq (Y "tuple") none [] 0,
  fn N none (sb 14 1) "AckPolicy.on_octets" 0 [] N N N N none N N 0,
  fl (Y "code") none [(T "on_octets" 608), (T "AckPolicy.on_octets" 609), (T "/claim/cut.py" 610), (I 224 0), (I 4 0), (I 0 0), (I 0 0), (I 3 0), (R 309), (B true), (I 181 0), (R 310), N, (R 311), (R 312), (R 313), (I 616 0), (I 224 0), (T "/claim/cut.py" 617)],
  fn (Y "function") none (sb 14 1) "AckPolicy.on_octets" 3 [] (R 308) N N (T "thinstack.acks" 584) none (R 314) N 0,
  sq (Y "tuple") none [] 0,
  fl N none [],
  sq (Y "tuple") none [(T "self" 622)] 0,
  sq (Y "tuple") none [] 0]
noncomputable def c10 (P : Params) : List Obj := [
  fn N none (sb 14 2) "AckPolicy.at_once" 0 [] N N N N none N N 0,
  fl (Y "code") none [(T "at_once" 619), (T "AckPolicy.at_once" 620), (T "/claim/cut.py" 621), (I 235 0), (I 1 0), (I 0 0), (I 0 0), (I 3 0), (R 316), (B true), (I 181 0), (R 317), N, (R 318), (R 319), (R 320), (I 623 0), (I 235 0), (T "/claim/cut.py" 624)],
  fn (Y "function") none (sb 14 2) "AckPolicy.at_once" 3 [] N N N (T "thinstack.acks" 584) none (R 321) N 0,
  sq (Y "tuple") none [] 0,
  fl N none [],
  sq (Y "tuple") none [(T "self" 629), (T "now" 630)] 0,
  sq (Y "tuple") none [] 0,
  fn N none (sb 14 3) "AckPolicy.is_due" 0 [] N N N N none N N 0,
  fl (Y "code") none [(T "is_due" 626), (T "AckPolicy.is_due" 627), (T "/claim/cut.py" 628), (I 238 0), (I 2 0), (I 0 0), (I 0 0), (I 3 0), (R 323), (B true), (I 181 0), (R 324), N, (R 325), (R 326), (R 327), (I 631 0), (I 238 0), (T "/claim/cut.py" 632)],
  fn (Y "function") none (sb 14 3) "AckPolicy.is_due" 3 [] N N N (T "thinstack.acks" 584) none (R 328) N 0,
  sq (Y "tuple") none [] 0,
  fl N none [],
  sq (Y "tuple") none [(T "self" 637)] 0,
  sq (Y "tuple") none [] 0,
  fn N none (sb 14 4) "AckPolicy.on_sent" 0 [] N N N N none N N 0,
  fl (Y "code") none [(T "on_sent" 634), (T "AckPolicy.on_sent" 635), (T "/claim/cut.py" 636), (I 243 0), (I 1 0), (I 0 0), (I 0 0), (I 3 0), (R 330), (B true), (I 181 0), (R 331), N, (R 332), (R 333), (R 334), (I 638 0), (I 243 0), (T "/claim/cut.py" 639)],
  fn (Y "function") none (sb 14 4) "AckPolicy.on_sent" 3 [] N N N (T "thinstack.acks" 584) none (R 335) N 0,
  sq (Y "tuple") none [] 0,
  fl N none [],
  sq (Y "tuple") none [(T "self" 644)] 0,
  sq (Y "tuple") none [] 0,
  fn N none (sb 14 5) "AckPolicy.due_time" 0 [] N N N N none N N 0,
  fl (Y "code") none [(T "due_time" 641), (T "AckPolicy.due_time" 642), (T "/claim/cut.py" 643), (I 247 0), (I 1 0), (I 0 0), (I 0 0), (I 3 0), (R 337), (B true), (I 181 0), (R 338), N, (R 339), (R 340), (R 341), (I 645 0), (I 247 0), (T "/claim/cut.py" 646)],
  fn (Y "function") none (sb 14 5) "AckPolicy.due_time" 3 [] N N N (T "thinstack.acks" 584) none (R 342) N 0,
  sq (Y "tuple") none [(T "delay" 648), (T "due" 649), (T "has_gap" 650), (T "waiting" 651)] 0,
  di (Y "dict") none [e P "__module__" 595 (T "thinstack.acks" 584), e P "__firstlineno__" 599 (I 216 598), e P "__init__" 607 (R 307), e P "on_octets" 618 (R 315), e P "at_once" 625 (R 322), e P "is_due" 633 (R 329), e P "on_sent" 640 (R 336), e P "due_time" 647 (R 343), e P "__static_attributes__" 652 (R 344), e P "__dict__" 654 (R 347), e P "__weakref__" 656 (R 348), e P "__doc__" 657 N] 4,
  sl (cl (Y "type") none "AckPolicy" [(Y "object")] [(R 346), (Y "object")] 345 "AckPolicy" true [] [] false false) [none, none, some (T "AckPolicy" 588), some (T "AckPolicy" 596), some (U "object.__new__"), some (B true)],
  fl (Y "getset_descriptor") none [(T "__dict__" 653), (R 346), (U "function.__dict__"), (U "function.__dict__#set")],
  fl (Y "getset_descriptor") none [(T "__weakref__" 655), (R 346), (U "ExceptionGroup.__weakref__"), N],
  fl (Y "super") none [(R 346), (R 346), (R 346)],
  fl (Y "builtin_function_or_method") none [(U "object.__init_subclass__"), (R 346)],
  sq (Y "tuple") none [] 0]
noncomputable def c11 (P : Params) : List Obj := [
  fl (Y "builtin_function_or_method") none [(U "type.__prepare__"), (Y "type")],
  di (Y "dict") none [e P "__module__" 671 (T "thinstack.congestion" 660), e P "__qualname__" 673 (T "Congestion" 672), e P "__firstlineno__" 675 (I 251 674), e P "__init__" 685 (R 364), e P "window" 692 (R 371), e P "grow" 700 (R 378), e P "halved" 709 (R 385), e P "acked" 717 (R 392), e P "slow_start" 726 (R 399), e P "avoid" 734 (R 406), e P "duplicate" 742 (R 413), e P "recovered" 749 (R 420), e P "timed_out" 757 (R 427), e P "__static_attributes__" 766 (R 428)] 14,
  sq (Y "tuple") none [] 0,
  fl N none [(I 253 0), (I 4 0), (R 363), (I 263 0), (I 4 0), (R 370), (I 266 0), (I 4 0), (R 377), (I 271 0), (I 4 0), (R 384), (I 275 0), (I 4 0), (R 391), (I 285 0), (I 4 0), (R 398), (I 291 0), (I 4 0), (R 405), (I 297 0), (I 4 0), (R 412), (I 311 0), (I 4 0), (R 419), (I 318 0), (I 4 0), (R 426)],
  fl (Y "code") none [(T "Congestion" 666), (T "Congestion" 667), (T "/claim/cut.py" 668), (I 251 0), (I 0 0), (I 0 0), (I 0 0), (I 0 0), (R 354), (B false), (I 181 0), (R 355), N, N, N, N, (I 669 0), (I 251 0), (T "/claim/cut.py" 670)],
  sl (pl (Y "frame") none) [some (R 356), some (R 3), some (R 353), none, some (T "thinstack.congestion" 660), none, some (R 0)],
  sq (Y "tuple") none [] 0,
  fl N none [],
  sq (Y "tuple") none [(T "self" 679), (T "mss" 680), (T "first" 681), (T "most" 682)] 0,
  sq (Y "tuple") none [] 0,
  fn N none (sb 17 0) "Congestion.__init__" 0 [] N N N N none N N 0,
  fl (Y "code") none [(T "__init__" 676), (T "Congestion.__init__" 677), (T "/claim/cut.py" 678), (I 253 0), (I 4 0), (I 0 0), (I 0 0), (I 3 0), (R 358), (B true), (I 181 0), (R 359), N, (R 360), (R 361), (R 362), (I 683 0), (I 253 0), (T "/claim/cut.py" 684)],
  fn (Y "function") none (sb 17 0) "Congestion.__init__" 3 [] N N N (T "thinstack.congestion" 660) none (R 363) N 0,
  sq (Y "tuple") none [] 0,
  fl N none [],
  sq (Y "tuple") none [(T "self" 689)] 0,
  sq (Y "tuple") none [] 0,
  fn N none (sb 17 1) "Congestion.window" 0 [] N N N N none N N 0,
  fl (Y "code") none [(T "window" 686), (T "Congestion.window" 687), (T "/claim/cut.py" 688), (I 263 0), (I 1 0), (I 0 0), (I 0 0), (I 3 0), (R 365), (B true), (I 181 0), (R 366), N, (R 367), (R 368), (R 369), (I 690 0), (I 263 0), (T "/claim/cut.py" 691)],
  fn (Y "function") none (sb 17 1) "Congestion.window" 3 [] N N N (T "thinstack.congestion" 660) none (R 370) N 0,
  sq (Y "tuple") none [] 0,
  fl N none [],
  sq (Y "tuple") none [(T "self" 696), (T "octets" 697)] 0,
  sq (Y "tuple") none [] 0,
  fn N none (sb 17 2) "Congestion.grow" 0 [] N N N N none N N 0,
  fl (Y "code") none [(T "grow" 693), (T "Congestion.grow" 694), (T "/claim/cut.py" 695), (I 266 0), (I 2 0), (I 0 0), (I 0 0), (I 3 0), (R 372), (B true), (I 181 0), (R 373), N, (R 374), (R 375), (R 376), (I 698 0), (I 266 0), (T "/claim/cut.py" 699)],
  fn (Y "function") none (sb 17 2) "Congestion.grow" 3 [] N N N (T "thinstack.congestion" 660) none (R 377) N 0,
  sq (Y "tuple") none [] 0,
  fl N none [],
  sq (Y "tuple") none [(T "self" 704), (T "flight" 705), (T "half" 706)] 0,
  sq (Y "tuple") none [] 0,
  fn N none (sb 17 3) "Congestion.halved" 0 [] N N N N none N N 0]
noncomputable def c12 (P : Params) : List Obj := [
  fl (Y "code") none [(T "halved" 701), (T "Congestion.halved" 702), (T "/claim/cut.py" 703), (I 271 0), (I 2 0), (I 0 0), (I 0 0), (I 3 0), (R 379), (B true), (I 181 0), (R 380), N, (R 381), (R 382), (R 383), (I 707 0), (I 271 0), (T "/claim/cut.py" 708)],
  fn (Y "function") none (sb 17 3) "Congestion.halved" 3 [] N N N (T "thinstack.congestion" 660) none (R 384) N 0,
  sq (Y "tuple") none [] 0,
  fl N none [],
  sq (Y "tuple") none [(T "self" 713), (T "octets" 714)] 0,
  sq (Y "tuple") none [] 0,
  fn N none (sb 17 4) "Congestion.acked" 0 [] N N N N none N N 0,
  fl (Y "code") none [(T "acked" 710), (T "Congestion.acked" 711), (T "/claim/cut.py" 712), (I 275 0), (I 2 0), (I 0 0), (I 0 0), (I 3 0), (R 386), (B true), (I 181 0), (R 387), N, (R 388), (R 389), (R 390), (I 715 0), (I 275 0), (T "/claim/cut.py" 716)],
  fn (Y "function") none (sb 17 4) "Congestion.acked" 3 [] N N N (T "thinstack.congestion" 660) none (R 391) N 0,
  sq (Y "tuple") none [] 0,
  fl N none [],
  sq (Y "tuple") none [(T "self" 721), (T "octets" 722), (T "most" 723)] 0,
  sq (Y "tuple") none [] 0,
  fn N none (sb 17 5) "Congestion.slow_start" 0 [] N N N N none N N 0,
  fl (Y "code") none [(T "slow_start" 718), (T "Congestion.slow_start" 719), (T "/claim/cut.py" 720), (I 285 0), (I 2 0), (I 0 0), (I 0 0), (I 3 0), (R 393), (B true), (I 181 0), (R 394), N, (R 395), (R 396), (R 397), (I 724 0), (I 285 0), (T "/claim/cut.py" 725)],
  fn (Y "function") none (sb 17 5) "Congestion.slow_start" 3 [] N N N (T "thinstack.congestion" 660) none (R 398) N 0,
  sq (Y "tuple") none [] 0,
  fl N none [],
  sq (Y "tuple") none [(T "self" 730), (T "octets" 731)] 0,
  sq (Y "tuple") none [] 0,
  fn N none (sb 17 6) "Congestion.avoid" 0 [] N N N N none N N 0,
  fl (Y "code") none [(T "avoid" 727), (T "Congestion.avoid" 728), (T "/claim/cut.py" 729), (I 291 0), (I 2 0), (I 0 0), (I 0 0), (I 3 0), (R 400), (B true), (I 181 0), (R 401), N, (R 402), (R 403), (R 404), (I 732 0), (I 291 0), (T "/claim/cut.py" 733)],
  fn (Y "function") none (sb 17 6) "Congestion.avoid" 3 [] N N N (T "thinstack.congestion" 660) none (R 405) N 0,
  sq (Y "tuple") none [] 0,
  fl N none [],
  sq (Y "tuple") none [(T "self" 738), (T "flight" 739)] 0,
  sq (Y "tuple") none [] 0,
  fn N none (sb 17 7) "Congestion.duplicate" 0 [] N N N N none N N 0,
  fl (Y "code") none [(T "duplicate" 735), (T "Congestion.duplicate" 736), (T "/claim/cut.py" 737), (I 297 0), (I 2 0), (I 0 0), (I 0 0), (I 3 0), (R 407), (B true), (I 181 0), (R 408), N, (R 409), (R 410), (R 411), (I 740 0), (I 297 0), (T "/claim/cut.py" 741)],
  fn (Y "function") none (sb 17 7) "Congestion.duplicate" 3 [] N N N (T "thinstack.congestion" 660) none (R 412) N 0,
  sq (Y "tuple") none [] 0,
  fl N none []]
noncomputable def c13 (P : Params) : List Obj := [
  sq (Y "tuple") none [(T "self" 746)] 0,
  sq (Y "tuple") none [] 0,
  fn N none (sb 17 8) "Congestion.recovered" 0 [] N N N N none N N 0,
  fl (Y "code") none [(T "recovered" 743), (T "Congestion.recovered" 744), (T "/claim/cut.py" 745), (I 311 0), (I 1 0), (I 0 0), (I 0 0), (I 3 0), (R 414), (B true), (I 181 0), (R 415), N, (R 416), (R 417), (R 418), (I 747 0), (I 311 0), (T "/claim/cut.py" 748)],
  fn (Y "function") none (sb 17 8) "Congestion.recovered" 3 [] N N N (T "thinstack.congestion" 660) none (R 419) N 0,
  sq (Y "tuple") none [] 0,
  fl N none [],
  sq (Y "tuple") none [(T "self" 753), (T "flight" 754)] 0,
  sq (Y "tuple") none [] 0,
  fn N none (sb 17 9) "Congestion.timed_out" 0 [] N N N N none N N 0,
  fl (Y "code") none [(T "timed_out" 750), (T "Congestion.timed_out" 751), (T "/claim/cut.py" 752), (I 318 0), (I 2 0), (I 0 0), (I 0 0), (I 3 0), (R 421), (B true), (I 181 0), (R 422), N, (R 423), (R 424), (R 425), (I 755 0), (I 318 0), (T "/claim/cut.py" 756)],
  fn (Y "function") none (sb 17 9) "Congestion.timed_out" 3 [] N N N (T "thinstack.congestion" 660) none (R 426) N 0,
  sq (Y "tuple") none [(T "duplicates" 758), (T "gathered" 759), (T "is_cautious" 760), (T "is_recovering" 761), (T "most" 762), (T "mss" 763), (T "size" 764), (T "threshold" 765)] 0,
  di (Y "dict") none [e P "__module__" 671 (T "thinstack.congestion" 660), e P "__firstlineno__" 675 (I 251 674), e P "__init__" 685 (R 364), e P "window" 692 (R 371), e P "grow" 700 (R 378), e P "halved" 709 (R 385), e P "acked" 717 (R 392), e P "slow_start" 726 (R 399), e P "avoid" 734 (R 406), e P "duplicate" 742 (R 413), e P "recovered" 749 (R 420), e P "timed_out" 757 (R 427), e P "__static_attributes__" 766 (R 428), e P "__dict__" 768 (R 431), e P "__weakref__" 770 (R 432), e P "__doc__" 771 N] 4,
  sl (cl (Y "type") none "Congestion" [(Y "object")] [(R 430), (Y "object")] 429 "Congestion" true [] [] false false) [none, none, some (T "Congestion" 664), some (T "Congestion" 672), some (U "object.__new__"), some (B true)],
  fl (Y "getset_descriptor") none [(T "__dict__" 767), (R 430), (U "function.__dict__"), (U "function.__dict__#set")],
  fl (Y "getset_descriptor") none [(T "__weakref__" 769), (R 430), (U "ExceptionGroup.__weakref__"), N],
  fl (Y "super") none [(R 430), (R 430), (R 430)],
  fl (Y "builtin_function_or_method") none [(U "object.__init_subclass__"), (R 430)],
  sq (Y "tuple") none [] 0,
  fl (Y "builtin_function_or_method") none [(U "type.__prepare__"), (Y "type")],
  di (Y "dict") none [e P "__module__" 785 (T "thinstack.retransmit" 774), e P "__qualname__" 787 (T "RetransmitClock" 786), e P "__firstlineno__" 789 (I 322 788), e P "__init__" 798 (R 448), e P "is_timing" 805 (R 455), e P "sent" 814 (R 462), e P "forget" 821 (R 469), e P "acked" 832 (R 476), e P "back_off" 839 (R 483), e P "reset_tries" 846 (R 490), e P "waited" 855 (R 497), e P "deadline" 863 (R 504), e P "__static_attributes__" 869 (R 505)] 13,
  sq (Y "tuple") none [] 0,
  fl N none [(I 324 0), (I 4 0), (R 447), (I 331 0), (I 4 0), (R 454), (I 334 0), (I 4 0), (R 461), (I 339 0), (I 4 0), (R 468), (I 342 0), (I 4 0), (R 475), (I 351 0), (I 4 0), (R 482), (I 354 0), (I 4 0), (R 489), (I 357 0), (I 4 0), (R 496), (I 363 0), (I 4 0), (R 503)],
  fl (Y "code") none [(T "RetransmitClock" 780), (T "RetransmitClock" 781), (T "/claim/cut.py" 782), (I 322 0), (I 0 0), (I 0 0), (I 0 0), (I 0 0), (R 438), (B false), (I 181 0), (R 439), N, N, N, N, (I 783 0), (I 322 0), (T "/claim/cut.py" 784)],
  sl (pl (Y "frame") none) [some (R 440), some (R 3), some (R 437), none, some (T "thinstack.retransmit" 774), none, some (R 0)],
  sq (Y "tuple") none [] 0,
  fl N none [],
  sq (Y "tuple") none [(T "self" 793), (T "estimate" 794), (T "most_tries" 795)] 0,
  sq (Y "tuple") none [] 0,
  fn N none (sb 20 0) "RetransmitClock.__init__" 0 [] N N N N none N N 0,
  fl (Y "code") none [(T "__init__" 790), (T "RetransmitClock.__init__" 791), (T "/claim/cut.py" 792), (I 324 0), (I 3 0), (I 0 0), (I 0 0), (I 3 0), (R 442), (B true), (I 181 0), (R 443), N, (R 444), (R 445), (R 446), (I 796 0), (I 324 0), (T "/claim/cut.py" 797)]]
noncomputable def c14 (P : Params) : List Obj := [
  fn (Y "function") none (sb 20 0) "RetransmitClock.__init__" 3 [] N N N (T "thinstack.retransmit" 774) none (R 447) N 0,
  sq (Y "tuple") none [] 0,
  fl N none [],
  sq (Y "tuple") none [(T "self" 802)] 0,
  sq (Y "tuple") none [] 0,
  fn N none (sb 20 1) "RetransmitClock.is_timing" 0 [] N N N N none N N 0,
  fl (Y "code") none [(T "is_timing" 799), (T "RetransmitClock.is_timing" 800), (T "/claim/cut.py" 801), (I 331 0), (I 1 0), (I 0 0), (I 0 0), (I 3 0), (R 449), (B true), (I 181 0), (R 450), N, (R 451), (R 452), (R 453), (I 803 0), (I 331 0), (T "/claim/cut.py" 804)],
  fn (Y "function") none (sb 20 1) "RetransmitClock.is_timing" 3 [] N N N (T "thinstack.retransmit" 774) none (R 454) N 0,
  sq (Y "tuple") none [] 0,
  fl N none [],
  sq (Y "tuple") none [(T "self" 809), (T "seq_end" 810), (T "now" 811)] 0,
  sq (Y "tuple") none [] 0,
  fn N none (sb 20 2) "RetransmitClock.sent" 0 [] N N N N none N N 0,
  fl (Y "code") none [(T "sent" 806), (T "RetransmitClock.sent" 807), (T "/claim/cut.py" 808), (I 334 0), (I 3 0), (I 0 0), (I 0 0), (I 3 0), (R 456), (B true), (I 181 0), (R 457), N, (R 458), (R 459), (R 460), (I 812 0), (I 334 0), (T "/claim/cut.py" 813)],
  fn (Y "function") none (sb 20 2) "RetransmitClock.sent" 3 [] N N N (T "thinstack.retransmit" 774) none (R 461) N 0,
  sq (Y "tuple") none [] 0,
  fl N none [],
  sq (Y "tuple") none [(T "self" 818)] 0,
  sq (Y "tuple") none [] 0,
  fn N none (sb 20 3) "RetransmitClock.forget" 0 [] N N N N none N N 0,
  fl (Y "code") none [(T "forget" 815), (T "RetransmitClock.forget" 816), (T "/claim/cut.py" 817), (I 339 0), (I 1 0), (I 0 0), (I 0 0), (I 3 0), (R 463), (B true), (I 181 0), (R 464), N, (R 465), (R 466), (R 467), (I 819 0), (I 339 0), (T "/claim/cut.py" 820)],
  fn (Y "function") none (sb 20 3) "RetransmitClock.forget" 3 [] N N N (T "thinstack.retransmit" 774) none (R 468) N 0,
  sq (Y "tuple") none [] 0,
  fl N none [],
  sq (Y "tuple") none [(T "self" 825), (T "ack" 826), (T "now" 827), (T "ring" 828), (T "measured" 829)] 0,
  sq (Y "tuple") none [] 0,
  fn N none (sb 20 4) "RetransmitClock.acked" 0 [] N N N N none N N 0,
  fl (Y "code") none [(T "acked" 822), (T "RetransmitClock.acked" 823), (T "/claim/cut.py" 824), (I 342 0), (I 4 0), (I 0 0), (I 0 0), (I 3 0), (R 470), (B true), (I 181 0), (R 471), N, (R 472), (R 473), (R 474), (I 830 0), (I 342 0), (T "/claim/cut.py" 831)],
  fn (Y "function") none (sb 20 4) "RetransmitClock.acked" 3 [] N N N (T "thinstack.retransmit" 774) none (R 475) N 0,
  sq (Y "tuple") none [] 0,
  fl N none [],
  sq (Y "tuple") none [(T "self" 836)] 0]
noncomputable def c15 (P : Params) : List Obj := [
  sq (Y "tuple") none [] 0,
  fn N none (sb 20 5) "RetransmitClock.back_off" 0 [] N N N N none N N 0,
  fl (Y "code") none [(T "back_off" 833), (T "RetransmitClock.back_off" 834), (T "/claim/cut.py" 835), (I 351 0), (I 1 0), (I 0 0), (I 0 0), (I 3 0), (R 477), (B true), (I 181 0), (R 478), N, (R 479), (R 480), (R 481), (I 837 0), (I 351 0), (T "/claim/cut.py" 838)],
  fn (Y "function") none (sb 20 5) "RetransmitClock.back_off" 3 [] N N N (T "thinstack.retransmit" 774) none (R 482) N 0,
  sq (Y "tuple") none [] 0,
  fl N none [],
  sq (Y "tuple") none [(T "self" 843)] 0,
  sq (Y "tuple") none [] 0,
  fn N none (sb 20 6) "RetransmitClock.reset_tries" 0 [] N N N N none N N 0,
  fl (Y "code") none [(T "reset_tries" 840), (T "RetransmitClock.reset_tries" 841), (T "/claim/cut.py" 842), (I 354 0), (I 1 0), (I 0 0), (I 0 0), (I 3 0), (R 484), (B true), (I 181 0), (R 485), N, (R 486), (R 487), (R 488), (I 844 0), (I 354 0), (T "/claim/cut.py" 845)],
  fn (Y "function") none (sb 20 6) "RetransmitClock.reset_tries" 3 [] N N N (T "thinstack.retransmit" 774) none (R 489) N 0,
  sq (Y "tuple") none [] 0,
  fl N none [],
  sq (Y "tuple") none [(T "self" 850), (T "ticks" 851), (T "turn" 852)] 0,
  sq (Y "tuple") none [] 0,
  fn N none (sb 20 7) "RetransmitClock.waited" 0 [] N N N N none N N 0,
  fl (Y "code") none [(T "waited" 847), (T "RetransmitClock.waited" 848), (T "/claim/cut.py" 849), (I 357 0), (I 1 0), (I 0 0), (I 0 0), (I 3 0), (R 491), (B true), (I 181 0), (R 492), N, (R 493), (R 494), (R 495), (I 853 0), (I 357 0), (T "/claim/cut.py" 854)],
  fn (Y "function") none (sb 20 7) "RetransmitClock.waited" 3 [] N N N (T "thinstack.retransmit" 774) none (R 496) N 0,
  sq (Y "tuple") none [] 0,
  fl N none [],
  sq (Y "tuple") none [(T "self" 859), (T "now" 860)] 0,
  sq (Y "tuple") none [] 0,
  fn N none (sb 20 8) "RetransmitClock.deadline" 0 [] N N N N none N N 0,
  fl (Y "code") none [(T "deadline" 856), (T "RetransmitClock.deadline" 857), (T "/claim/cut.py" 858), (I 363 0), (I 2 0), (I 0 0), (I 0 0), (I 3 0), (R 498), (B true), (I 181 0), (R 499), N, (R 500), (R 501), (R 502), (I 861 0), (I 363 0), (T "/claim/cut.py" 862)],
  fn (Y "function") none (sb 20 8) "RetransmitClock.deadline" 3 [] N N N (T "thinstack.retransmit" 774) none (R 503) N 0,
  sq (Y "tuple") none [(T "estimate" 864), (T "most_tries" 865), (T "timed_at" 866), (T "timed_end" 867), (T "tries" 868)] 0,
  di (Y "dict") none [e P "__module__" 785 (T "thinstack.retransmit" 774), e P "__firstlineno__" 789 (I 322 788), e P "__init__" 798 (R 448), e P "is_timing" 805 (R 455), e P "sent" 814 (R 462), e P "forget" 821 (R 469), e P "acked" 832 (R 476), e P "back_off" 839 (R 483), e P "reset_tries" 846 (R 490), e P "waited" 855 (R 497), e P "deadline" 863 (R 504), e P "__static_attributes__" 869 (R 505), e P "__dict__" 871 (R 508), e P "__weakref__" 873 (R 509), e P "__doc__" 874 N] 4,
  sl (cl (Y "type") none "RetransmitClock" [(Y "object")] [(R 507), (Y "object")] 506 "RetransmitClock" true [] [] false false) [none, none, some (T "RetransmitClock" 778), some (T "RetransmitClock" 786), some (U "object.__new__"), some (B true)],
  fl (Y "getset_descriptor") none [(T "__dict__" 870), (R 507), (U "function.__dict__"), (U "function.__dict__#set")],
  fl (Y "getset_descriptor") none [(T "__weakref__" 872), (R 507), (U "ExceptionGroup.__weakref__"), N],
  fl (Y "super") none [(R 507), (R 507), (R 507)],
  fl (Y "builtin_function_or_method") none [(U "object.__init_subclass__"), (R 507)]]
noncomputable def c16 (P : Params) : List Obj := [
  sq (Y "tuple") none [] 0,
  fl (Y "builtin_function_or_method") none [(U "type.__prepare__"), (Y "type")],
  di (Y "dict") none [e P "__module__" 886 (T "thinstack.rtt" 877), e P "__qualname__" 888 (T "RttEstimate" 887), e P "__firstlineno__" 890 (I 366 889), e P "__init__" 900 (R 525), e P "sample" 909 (R 532), e P "mean" 916 (R 539), e P "plain_timeout" 923 (R 546), e P "timeout" 930 (R 553), e P "bounded" 938 (R 560), e P "__static_attributes__" 945 (R 561)] 10,
  sq (Y "tuple") none [] 0,
  fl N none [(I 368 0), (I 4 0), (R 524), (I 376 0), (I 4 0), (R 531), (I 388 0), (I 4 0), (R 538), (I 391 0), (I 4 0), (R 545), (I 396 0), (I 4 0), (R 552), (I 399 0), (I 4 0), (R 559)],
  fl (Y "code") none [(T "RttEstimate" 881), (T "RttEstimate" 882), (T "/claim/cut.py" 883), (I 366 0), (I 0 0), (I 0 0), (I 0 0), (I 0 0), (R 515), (B false), (I 181 0), (R 516), N, N, N, N, (I 884 0), (I 366 0), (T "/claim/cut.py" 885)],
  sl (pl (Y "frame") none) [some (R 517), some (R 3), some (R 514), none, some (T "thinstack.rtt" 877), none, some (R 0)],
  sq (Y "tuple") none [] 0,
  fl N none [],
  sq (Y "tuple") none [(T "self" 894), (T "first" 895), (T "least" 896), (T "most" 897)] 0,
  sq (Y "tuple") none [] 0,
  fn N none (sb 22 0) "RttEstimate.__init__" 0 [] N N N N none N N 0,
  fl (Y "code") none [(T "__init__" 891), (T "RttEstimate.__init__" 892), (T "/claim/cut.py" 893), (I 368 0), (I 4 0), (I 0 0), (I 0 0), (I 3 0), (R 519), (B true), (I 181 0), (R 520), N, (R 521), (R 522), (R 523), (I 898 0), (I 368 0), (T "/claim/cut.py" 899)],
  fn (Y "function") none (sb 22 0) "RttEstimate.__init__" 3 [] N N N (T "thinstack.rtt" 877) none (R 524) N 0,
  sq (Y "tuple") none [] 0,
  fl N none [],
  sq (Y "tuple") none [(T "self" 904), (T "measured" 905), (T "apart" 906)] 0,
  sq (Y "tuple") none [] 0,
  fn N none (sb 22 1) "RttEstimate.sample" 0 [] N N N N none N N 0,
  fl (Y "code") none [(T "sample" 901), (T "RttEstimate.sample" 902), (T "/claim/cut.py" 903), (I 376 0), (I 2 0), (I 0 0), (I 0 0), (I 3 0), (R 526), (B true), (I 181 0), (R 527), N, (R 528), (R 529), (R 530), (I 907 0), (I 376 0), (T "/claim/cut.py" 908)],
  fn (Y "function") none (sb 22 1) "RttEstimate.sample" 3 [] N N N (T "thinstack.rtt" 877) none (R 531) N 0,
  sq (Y "tuple") none [] 0,
  fl N none [],
  sq (Y "tuple") none [(T "self" 913)] 0,
  sq (Y "tuple") none [] 0,
  fn N none (sb 22 2) "RttEstimate.mean" 0 [] N N N N none N N 0,
  fl (Y "code") none [(T "mean" 910), (T "RttEstimate.mean" 911), (T "/claim/cut.py" 912), (I 388 0), (I 1 0), (I 0 0), (I 0 0), (I 3 0), (R 533), (B true), (I 181 0), (R 534), N, (R 535), (R 536), (R 537), (I 914 0), (I 388 0), (T "/claim/cut.py" 915)],
  fn (Y "function") none (sb 22 2) "RttEstimate.mean" 3 [] N N N (T "thinstack.rtt" 877) none (R 538) N 0,
  sq (Y "tuple") none [] 0,
  fl N none [],
  sq (Y "tuple") none [(T "self" 920)] 0,
  sq (Y "tuple") none [] 0]
noncomputable def c17 (P : Params) : List Obj := [
  fn N none (sb 22 3) "RttEstimate.plain_timeout" 0 [] N N N N none N N 0,
  fl (Y "code") none [(T "plain_timeout" 917), (T "RttEstimate.plain_timeout" 918), (T "/claim/cut.py" 919), (I 391 0), (I 1 0), (I 0 0), (I 0 0), (I 3 0), (R 540), (B true), (I 181 0), (R 541), N, (R 542), (R 543), (R 544), (I 921 0), (I 391 0), (T "/claim/cut.py" 922)],
  fn (Y "function") none (sb 22 3) "RttEstimate.plain_timeout" 3 [] N N N (T "thinstack.rtt" 877) none (R 545) N 0,
  sq (Y "tuple") none [] 0,
  fl N none [],
  sq (Y "tuple") none [(T "self" 927)] 0,
  sq (Y "tuple") none [] 0,
  fn N none (sb 22 4) "RttEstimate.timeout" 0 [] N N N N none N N 0,
  fl (Y "code") none [(T "timeout" 924), (T "RttEstimate.timeout" 925), (T "/claim/cut.py" 926), (I 396 0), (I 1 0), (I 0 0), (I 0 0), (I 3 0), (R 547), (B true), (I 181 0), (R 548), N, (R 549), (R 550), (R 551), (I 928 0), (I 396 0), (T "/claim/cut.py" 929)],
  fn (Y "function") none (sb 22 4) "RttEstimate.timeout" 3 [] N N N (T "thinstack.rtt" 877) none (R 552) N 0,
  sq (Y "tuple") none [] 0,
  fl N none [],
  sq (Y "tuple") none [(T "self" 934), (T "ticks" 935)] 0,
  sq (Y "tuple") none [] 0,
  fn N none (sb 22 5) "RttEstimate.bounded" 0 [] N N N N none N N 0,
  fl (Y "code") none [(T "bounded" 931), (T "RttEstimate.bounded" 932), (T "/claim/cut.py" 933), (I 399 0), (I 2 0), (I 0 0), (I 0 0), (I 3 0), (R 554), (B true), (I 181 0), (R 555), N, (R 556), (R 557), (R 558), (I 936 0), (I 399 0), (T "/claim/cut.py" 937)],
  fn (Y "function") none (sb 22 5) "RttEstimate.bounded" 3 [] N N N (T "thinstack.rtt" 877) none (R 559) N 0,
  sq (Y "tuple") none [(T "first" 939), (T "least" 940), (T "mean8" 941), (T "measured" 942), (T "most" 943), (T "spread4" 944)] 0,
  di (Y "dict") none [e P "__module__" 886 (T "thinstack.rtt" 877), e P "__firstlineno__" 890 (I 366 889), e P "__init__" 900 (R 525), e P "sample" 909 (R 532), e P "mean" 916 (R 539), e P "plain_timeout" 923 (R 546), e P "timeout" 930 (R 553), e P "bounded" 938 (R 560), e P "__static_attributes__" 945 (R 561), e P "__dict__" 947 (R 564), e P "__weakref__" 949 (R 565), e P "__doc__" 950 N] 4,
  sl (cl (Y "type") none "RttEstimate" [(Y "object")] [(R 563), (Y "object")] 562 "RttEstimate" true [] [] false false) [none, none, some (T "RttEstimate" 879), some (T "RttEstimate" 887), some (U "object.__new__"), some (B true)],
  fl (Y "getset_descriptor") none [(T "__dict__" 946), (R 563), (U "function.__dict__"), (U "function.__dict__#set")],
  fl (Y "getset_descriptor") none [(T "__weakref__" 948), (R 563), (U "ExceptionGroup.__weakref__"), N],
  fl (Y "super") none [(R 563), (R 563), (R 563)],
  fl (Y "builtin_function_or_method") none [(U "object.__init_subclass__"), (R 563)],
  sq (Y "tuple") none [(Y "Exception")] 0,
  fl (Y "builtin_function_or_method") none [(U "type.__prepare__"), (Y "type")],
  di (Y "dict") none [e P "__module__" 962 (T "thinstack.errors" 953), e P "__qualname__" 964 (T "StackError" 963), e P "__firstlineno__" 966 (I 404 965), e P "__init__" 974 (R 581), e P "__static_attributes__" 976 (R 582)] 5,
  sq (Y "tuple") none [] 0,
  fl N none [(I 406 0), (I 4 0), (R 580)],
  fl (Y "code") none [(T "StackError" 957), (T "StackError" 958), (T "/claim/cut.py" 959), (I 404 0), (I 0 0), (I 0 0), (I 0 0), (I 0 0), (R 571), (B false), (I 181 0), (R 572), N, N, N, N, (I 960 0), (I 404 0), (T "/claim/cut.py" 961)],
  sl (pl (Y "frame") none) [some (R 573), some (R 3), some (R 570), none, some (T "thinstack.errors" 953), none, some (R 0)],
  sq (Y "tuple") none [] 0]
noncomputable def c18 (P : Params) : List Obj := [
  fl N none [],
  sq (Y "tuple") none [(T "self" 970), (T "message" 971)] 0,
  sq (Y "tuple") none [] 0,
  fn N none (sb 24 0) "StackError.__init__" 0 [] N N N N none N N 0,
  fl (Y "code") none [(T "__init__" 967), (T "StackError.__init__" 968), (T "/claim/cut.py" 969), (I 406 0), (I 2 0), (I 0 0), (I 0 0), (I 3 0), (R 575), (B true), (I 181 0), (R 576), N, (R 577), (R 578), (R 579), (I 972 0), (I 406 0), (T "/claim/cut.py" 973)],
  fn (Y "function") none (sb 24 0) "StackError.__init__" 3 [] N N N (T "thinstack.errors" 953) none (R 580) N 0,
  sq (Y "tuple") none [(T "message" 975)] 0,
  di (Y "dict") none [e P "__module__" 962 (T "thinstack.errors" 953), e P "__firstlineno__" 966 (I 404 965), e P "__init__" 974 (R 581), e P "__static_attributes__" 976 (R 582), e P "__weakref__" 978 (R 585), e P "__doc__" 979 N] 3,
  sl (cl (Y "type") none "StackError" [(Y "Exception")] [(R 584), (Y "Exception"), (Y "BaseException"), (Y "object")] 583 "StackError" true [] [(R 597), (R 609), (R 621)] false false) [some (R 568), none, some (T "StackError" 955), some (T "StackError" 963), some (U "Exception.__new__"), some (B true)],
  fl (Y "getset_descriptor") none [(T "__weakref__" 977), (R 584), (U "ExceptionGroup.__weakref__"), N],
  fl (Y "super") none [(R 584), (R 584), (R 584)],
  fl (Y "builtin_function_or_method") none [(U "object.__init_subclass__"), (R 584)],
  sq (Y "tuple") none [(R 584)] 0,
  fl (Y "builtin_function_or_method") none [(U "type.__prepare__"), (Y "type")],
  di (Y "dict") none [e P "__module__" 991 (T "thinstack.errors" 953), e P "__qualname__" 993 (T "FormError" 992), e P "__firstlineno__" 995 (I 408 994), e P "__static_attributes__" 996 (R 595)] 4,
  sq (Y "tuple") none [] 0,
  fl N none [],
  fl (Y "code") none [(T "FormError" 986), (T "FormError" 987), (T "/claim/cut.py" 988), (I 408 0), (I 0 0), (I 0 0), (I 0 0), (I 0 0), (R 591), (B false), (I 181 0), (R 592), N, N, N, N, (I 989 0), (I 408 0), (T "/claim/cut.py" 990)],
  sl (pl (Y "frame") none) [some (R 593), some (R 3), some (R 590), none, some (T "thinstack.errors" 953), none, some (R 0)],
  sq (Y "tuple") none [] 0,
  di (Y "dict") none [e P "__module__" 991 (T "thinstack.errors" 953), e P "__firstlineno__" 995 (I 408 994), e P "__static_attributes__" 996 (R 595), e P "__doc__" 997 N] 2,
  sl (cl (Y "type") none "FormError" [(R 584)] [(R 597), (R 584), (Y "Exception"), (Y "BaseException"), (Y "object")] 596 "FormError" true [] [] false false) [some (R 588), none, some (T "FormError" 984), some (T "FormError" 992), some (U "Exception.__new__"), some (B true)],
  fl (Y "super") none [(R 597), (R 597), (R 597)],
  fl (Y "builtin_function_or_method") none [(U "object.__init_subclass__"), (R 597)],
  sq (Y "tuple") none [(R 584)] 0,
  fl (Y "builtin_function_or_method") none [(U "type.__prepare__"), (Y "type")],
  di (Y "dict") none [e P "__module__" 1007 (T "thinstack.errors" 953), e P "__qualname__" 1009 (T "SizeError" 1008), e P "__firstlineno__" 1011 (I 410 1010), e P "__static_attributes__" 1012 (R 607)] 4,
  sq (Y "tuple") none [] 0,
  fl N none [],
  fl (Y "code") none [(T "SizeError" 1002), (T "SizeError" 1003), (T "/claim/cut.py" 1004), (I 410 0), (I 0 0), (I 0 0), (I 0 0), (I 0 0), (R 603), (B false), (I 181 0), (R 604), N, N, N, N, (I 1005 0), (I 410 0), (T "/claim/cut.py" 1006)],
  sl (pl (Y "frame") none) [some (R 605), some (R 3), some (R 602), none, some (T "thinstack.errors" 953), none, some (R 0)],
  sq (Y "tuple") none [] 0]
noncomputable def c19 (P : Params) : List Obj := [
  di (Y "dict") none [e P "__module__" 1007 (T "thinstack.errors" 953), e P "__firstlineno__" 1011 (I 410 1010), e P "__static_attributes__" 1012 (R 607), e P "__doc__" 1013 N] 2,
  sl (cl (Y "type") none "SizeError" [(R 584)] [(R 609), (R 584), (Y "Exception"), (Y "BaseException"), (Y "object")] 608 "SizeError" true [] [] false false) [some (R 600), none, some (T "SizeError" 1000), some (T "SizeError" 1008), some (U "Exception.__new__"), some (B true)],
  fl (Y "super") none [(R 609), (R 609), (R 609)],
  fl (Y "builtin_function_or_method") none [(U "object.__init_subclass__"), (R 609)],
  sq (Y "tuple") none [(R 584)] 0,
  fl (Y "builtin_function_or_method") none [(U "type.__prepare__"), (Y "type")],
  di (Y "dict") none [e P "__module__" 1023 (T "thinstack.errors" 953), e P "__qualname__" 1025 (T "StateError" 1024), e P "__firstlineno__" 1027 (I 412 1026), e P "__static_attributes__" 1028 (R 619)] 4,
  sq (Y "tuple") none [] 0,
  fl N none [],
  fl (Y "code") none [(T "StateError" 1018), (T "StateError" 1019), (T "/claim/cut.py" 1020), (I 412 0), (I 0 0), (I 0 0), (I 0 0), (I 0 0), (R 615), (B false), (I 181 0), (R 616), N, N, N, N, (I 1021 0), (I 412 0), (T "/claim/cut.py" 1022)],
  sl (pl (Y "frame") none) [some (R 617), some (R 3), some (R 614), none, some (T "thinstack.errors" 953), none, some (R 0)],
  sq (Y "tuple") none [] 0,
  di (Y "dict") none [e P "__module__" 1023 (T "thinstack.errors" 953), e P "__firstlineno__" 1027 (I 412 1026), e P "__static_attributes__" 1028 (R 619), e P "__doc__" 1029 N] 2,
  sl (cl (Y "type") none "StateError" [(R 584)] [(R 621), (R 584), (Y "Exception"), (Y "BaseException"), (Y "object")] 620 "StateError" true [] [] false false) [some (R 612), none, some (T "StateError" 1016), some (T "StateError" 1024), some (U "Exception.__new__"), some (B true)],
  fl (Y "super") none [(R 621), (R 621), (R 621)],
  fl (Y "builtin_function_or_method") none [(U "object.__init_subclass__"), (R 621)],
  sq (Y "tuple") none [] 0,
  fl (Y "builtin_function_or_method") none [(U "type.__prepare__"), (Y "type")],
  di (Y "dict") none [e P "__module__" 1041 (T "thinstack.send_queue" 1032), e P "__qualname__" 1043 (T "SendQueue" 1042), e P "__firstlineno__" 1045 (I 415 1044), e P "__init__" 1053 (R 637), e P "size" 1060 (R 644), e P "room_left" 1067 (R 651), e P "put" 1076 (R 658), e P "part" 1085 (R 665), e P "drop" 1093 (R 672), e P "__static_attributes__" 1096 (R 673)] 10,
  sq (Y "tuple") none [] 0,
  fl N none [(I 417 0), (I 4 0), (R 636), (I 423 0), (I 4 0), (R 643), (I 426 0), (I 4 0), (R 650), (I 429 0), (I 4 0), (R 657), (I 434 0), (I 4 0), (R 664), (I 439 0), (I 4 0), (R 671)],
  fl (Y "code") none [(T "SendQueue" 1036), (T "SendQueue" 1037), (T "/claim/cut.py" 1038), (I 415 0), (I 0 0), (I 0 0), (I 0 0), (I 0 0), (R 627), (B false), (I 181 0), (R 628), N, N, N, N, (I 1039 0), (I 415 0), (T "/claim/cut.py" 1040)],
  sl (pl (Y "frame") none) [some (R 629), some (R 3), some (R 626), none, some (T "thinstack.send_queue" 1032), none, some (R 0)],
  sq (Y "tuple") none [] 0,
  fl N none [],
  sq (Y "tuple") none [(T "self" 1049), (T "room" 1050)] 0,
  sq (Y "tuple") none [] 0,
  fn N none (sb 29 0) "SendQueue.__init__" 0 [] N N N N none N N 0,
  fl (Y "code") none [(T "__init__" 1046), (T "SendQueue.__init__" 1047), (T "/claim/cut.py" 1048), (I 417 0), (I 2 0), (I 0 0), (I 0 0), (I 3 0), (R 631), (B true), (I 181 0), (R 632), N, (R 633), (R 634), (R 635), (I 1051 0), (I 417 0), (T "/claim/cut.py" 1052)],
  fn (Y "function") none (sb 29 0) "SendQueue.__init__" 3 [] N N N (T "thinstack.send_queue" 1032) none (R 636) N 0,
  sq (Y "tuple") none [] 0,
  fl N none []]
noncomputable def c20 (P : Params) : List Obj := [
  sq (Y "tuple") none [(T "self" 1057)] 0,
  sq (Y "tuple") none [] 0,
  fn N none (sb 29 1) "SendQueue.size" 0 [] N N N N none N N 0,
  fl (Y "code") none [(T "size" 1054), (T "SendQueue.size" 1055), (T "/claim/cut.py" 1056), (I 423 0), (I 1 0), (I 0 0), (I 0 0), (I 3 0), (R 638), (B true), (I 181 0), (R 639), N, (R 640), (R 641), (R 642), (I 1058 0), (I 423 0), (T "/claim/cut.py" 1059)],
  fn (Y "function") none (sb 29 1) "SendQueue.size" 3 [] N N N (T "thinstack.send_queue" 1032) none (R 643) N 0,
  sq (Y "tuple") none [] 0,
  fl N none [],
  sq (Y "tuple") none [(T "self" 1064)] 0,
  sq (Y "tuple") none [] 0,
  fn N none (sb 29 2) "SendQueue.room_left" 0 [] N N N N none N N 0,
  fl (Y "code") none [(T "room_left" 1061), (T "SendQueue.room_left" 1062), (T "/claim/cut.py" 1063), (I 426 0), (I 1 0), (I 0 0), (I 0 0), (I 3 0), (R 645), (B true), (I 181 0), (R 646), N, (R 647), (R 648), (R 649), (I 1065 0), (I 426 0), (T "/claim/cut.py" 1066)],
  fn (Y "function") none (sb 29 2) "SendQueue.room_left" 3 [] N N N (T "thinstack.send_queue" 1032) none (R 650) N 0,
  sq (Y "tuple") none [] 0,
  fl N none [],
  sq (Y "tuple") none [(T "self" 1071), (T "octets" 1072), (T "taken" 1073)] 0,
  sq (Y "tuple") none [] 0,
  fn N none (sb 29 3) "SendQueue.put" 0 [] N N N N none N N 0,
  fl (Y "code") none [(T "put" 1068), (T "SendQueue.put" 1069), (T "/claim/cut.py" 1070), (I 429 0), (I 2 0), (I 0 0), (I 0 0), (I 3 0), (R 652), (B true), (I 181 0), (R 653), N, (R 654), (R 655), (R 656), (I 1074 0), (I 429 0), (T "/claim/cut.py" 1075)],
  fn (Y "function") none (sb 29 3) "SendQueue.put" 3 [] N N N (T "thinstack.send_queue" 1032) none (R 657) N 0,
  sq (Y "tuple") none [] 0,
  fl N none [],
  sq (Y "tuple") none [(T "self" 1080), (T "at" 1081), (T "many" 1082)] 0,
  sq (Y "tuple") none [] 0,
  fn N none (sb 29 4) "SendQueue.part" 0 [] N N N N none N N 0,
  fl (Y "code") none [(T "part" 1077), (T "SendQueue.part" 1078), (T "/claim/cut.py" 1079), (I 434 0), (I 3 0), (I 0 0), (I 0 0), (I 3 0), (R 659), (B true), (I 181 0), (R 660), N, (R 661), (R 662), (R 663), (I 1083 0), (I 434 0), (T "/claim/cut.py" 1084)],
  fn (Y "function") none (sb 29 4) "SendQueue.part" 3 [] N N N (T "thinstack.send_queue" 1032) none (R 664) N 0,
  sq (Y "tuple") none [] 0,
  fl N none [],
  sq (Y "tuple") none [(T "self" 1089), (T "many" 1090)] 0,
  sq (Y "tuple") none [] 0,
  fn N none (sb 29 5) "SendQueue.drop" 0 [] N N N N none N N 0,
  fl (Y "code") none [(T "drop" 1086), (T "SendQueue.drop" 1087), (T "/claim/cut.py" 1088), (I 439 0), (I 2 0), (I 0 0), (I 0 0), (I 3 0), (R 666), (B true), (I 181 0), (R 667), N, (R 668), (R 669), (R 670), (I 1091 0), (I 439 0), (T "/claim/cut.py" 1092)]]
noncomputable def c21 (P : Params) : List Obj := [
  fn (Y "function") none (sb 29 5) "SendQueue.drop" 3 [] N N N (T "thinstack.send_queue" 1032) none (R 671) N 0,
  sq (Y "tuple") none [(T "held" 1094), (T "room" 1095)] 0,
  di (Y "dict") none [e P "__module__" 1041 (T "thinstack.send_queue" 1032), e P "__firstlineno__" 1045 (I 415 1044), e P "__init__" 1053 (R 637), e P "size" 1060 (R 644), e P "room_left" 1067 (R 651), e P "put" 1076 (R 658), e P "part" 1085 (R 665), e P "drop" 1093 (R 672), e P "__static_attributes__" 1096 (R 673), e P "__dict__" 1098 (R 676), e P "__weakref__" 1100 (R 677), e P "__doc__" 1101 N] 4,
  sl (cl (Y "type") none "SendQueue" [(Y "object")] [(R 675), (Y "object")] 674 "SendQueue" true [] [] false false) [none, none, some (T "SendQueue" 1034), some (T "SendQueue" 1042), some (U "object.__new__"), some (B true)],
  fl (Y "getset_descriptor") none [(T "__dict__" 1097), (R 675), (U "function.__dict__"), (U "function.__dict__#set")],
  fl (Y "getset_descriptor") none [(T "__weakref__" 1099), (R 675), (U "ExceptionGroup.__weakref__"), N],
  fl (Y "super") none [(R 675), (R 675), (R 675)],
  fl (Y "builtin_function_or_method") none [(U "object.__init_subclass__"), (R 675)],
  sq (Y "tuple") none [] 0,
  fl (Y "builtin_function_or_method") none [(U "type.__prepare__"), (Y "type")],
  di (Y "dict") none [e P "__module__" 1113 (T "thinstack.sender" 1104), e P "__qualname__" 1115 (T "PeerWindow" 1114), e P "__firstlineno__" 1117 (I 444 1116), e P "__init__" 1125 (R 693), e P "is_newer" 1135 (R 700), e P "take" 1145 (R 707), e P "__static_attributes__" 1151 (R 708)] 7,
  sq (Y "tuple") none [] 0,
  fl N none [(I 446 0), (I 4 0), (R 692), (I 453 0), (I 4 0), (R 699), (I 461 0), (I 4 0), (R 706)],
  fl (Y "code") none [(T "PeerWindow" 1108), (T "PeerWindow" 1109), (T "/claim/cut.py" 1110), (I 444 0), (I 0 0), (I 0 0), (I 0 0), (I 0 0), (R 683), (B false), (I 181 0), (R 684), N, N, N, N, (I 1111 0), (I 444 0), (T "/claim/cut.py" 1112)],
  sl (pl (Y "frame") none) [some (R 685), some (R 3), some (R 682), none, some (T "thinstack.sender" 1104), none, some (R 0)],
  sq (Y "tuple") none [] 0,
  fl N none [],
  sq (Y "tuple") none [(T "self" 1121), (T "ring" 1122)] 0,
  sq (Y "tuple") none [] 0,
  fn N none (sb 31 0) "PeerWindow.__init__" 0 [] N N N N none N N 0,
  fl (Y "code") none [(T "__init__" 1118), (T "PeerWindow.__init__" 1119), (T "/claim/cut.py" 1120), (I 446 0), (I 2 0), (I 0 0), (I 0 0), (I 3 0), (R 687), (B true), (I 181 0), (R 688), N, (R 689), (R 690), (R 691), (I 1123 0), (I 446 0), (T "/claim/cut.py" 1124)],
  fn (Y "function") none (sb 31 0) "PeerWindow.__init__" 3 [] N N N (T "thinstack.sender" 1104) none (R 692) N 0,
  sq (Y "tuple") none [] 0,
  fl N none [],
  sq (Y "tuple") none [(T "self" 1129), (T "seq" 1130), (T "ack" 1131), (T "ahead" 1132)] 0,
  sq (Y "tuple") none [] 0,
  fn N none (sb 31 1) "PeerWindow.is_newer" 0 [] N N N N none N N 0,
  fl (Y "code") none [(T "is_newer" 1126), (T "PeerWindow.is_newer" 1127), (T "/claim/cut.py" 1128), (I 453 0), (I 3 0), (I 0 0), (I 0 0), (I 3 0), (R 694), (B true), (I 181 0), (R 695), N, (R 696), (R 697), (R 698), (I 1133 0), (I 453 0), (T "/claim/cut.py" 1134)],
  fn (Y "function") none (sb 31 1) "PeerWindow.is_newer" 3 [] N N N (T "thinstack.sender" 1104) none (R 699) N 0,
  sq (Y "tuple") none [] 0,
  fl N none [],
  sq (Y "tuple") none [(T "self" 1139), (T "seq" 1140), (T "ack" 1141), (T "size" 1142)] 0]
noncomputable def c22 (P : Params) : List Obj := [
  sq (Y "tuple") none [] 0,
  fn N none (sb 31 2) "PeerWindow.take" 0 [] N N N N none N N 0,
  fl (Y "code") none [(T "take" 1136), (T "PeerWindow.take" 1137), (T "/claim/cut.py" 1138), (I 461 0), (I 4 0), (I 0 0), (I 0 0), (I 3 0), (R 701), (B true), (I 181 0), (R 702), N, (R 703), (R 704), (R 705), (I 1143 0), (I 461 0), (T "/claim/cut.py" 1144)],
  fn (Y "function") none (sb 31 2) "PeerWindow.take" 3 [] N N N (T "thinstack.sender" 1104) none (R 706) N 0,
  sq (Y "tuple") none [(T "most" 1146), (T "ring" 1147), (T "size" 1148), (T "told_ack" 1149), (T "told_seq" 1150)] 0,
  di (Y "dict") none [e P "__module__" 1113 (T "thinstack.sender" 1104), e P "__firstlineno__" 1117 (I 444 1116), e P "__init__" 1125 (R 693), e P "is_newer" 1135 (R 700), e P "take" 1145 (R 707), e P "__static_attributes__" 1151 (R 708), e P "__dict__" 1153 (R 711), e P "__weakref__" 1155 (R 712), e P "__doc__" 1156 N] 4,
  sl (cl (Y "type") none "PeerWindow" [(Y "object")] [(R 710), (Y "object")] 709 "PeerWindow" true [] [] false false) [none, none, some (T "PeerWindow" 1106), some (T "PeerWindow" 1114), some (U "object.__new__"), some (B true)],
  fl (Y "getset_descriptor") none [(T "__dict__" 1152), (R 710), (U "function.__dict__"), (U "function.__dict__#set")],
  fl (Y "getset_descriptor") none [(T "__weakref__" 1154), (R 710), (U "ExceptionGroup.__weakref__"), N],
  fl (Y "super") none [(R 710), (R 710), (R 710)],
  fl (Y "builtin_function_or_method") none [(U "object.__init_subclass__"), (R 710)],
  sq (Y "tuple") none [] 0,
  fl (Y "builtin_function_or_method") none [(U "type.__prepare__"), (Y "type")],
  di (Y "dict") none [e P "__module__" 1166 (T "thinstack.sender" 1104), e P "__qualname__" 1168 (T "Sender" 1167), e P "__firstlineno__" 1170 (I 469 1169), e P "__init__" 1181 (R 728), e P "window" 1189 (R 736), e P "take_window" 1199 (R 743), e P "put" 1207 (R 750), e P "ask_fin" 1214 (R 757), e P "flight" 1221 (R 764), e P "usable" 1229 (R 771), e P "data_sent" 1236 (R 778), e P "unsent" 1243 (R 785), e P "is_fin_due" 1251 (R 792), e P "is_fin_acked" 1258 (R 799), e P "is_all_acked" 1265 (R 806), e P "go_on" 1273 (R 813), e P "start" 1280 (R 820), e P "may_go" 1289 (R 827), e P "pieces" 1300 (R 835), e P "piece_of" 1313 (R 842), e P "ever_sent" 1320 (R 849), e P "first_piece" 1330 (R 856), e P "reach" 1338 (R 863), e P "back_to" 1346 (R 870), e P "is_idle_with_more" 1353 (R 877), e P "needs_probe" 1361 (R 884), e P "probe" 1368 (R 891), e P "acked" 1380 (R 898), e P "__static_attributes__" 1392 (R 899)] 29,
  sq (Y "tuple") none [] 0,
  fl N none [(I 471 0), (I 4 0), (R 727), (I 485 0), (I 4 0), (R 734), (I 488 0), (I 4 0), (R 742), (I 491 0), (I 4 0), (R 749), (I 496 0), (I 4 0), (R 756), (I 499 0), (I 4 0), (R 763), (I 502 0), (I 4 0), (R 770), (I 505 0), (I 4 0), (R 777), (I 508 0), (I 4 0), (R 784), (I 511 0), (I 4 0), (R 791), (I 515 0), (I 4 0), (R 798), (I 518 0), (I 4 0), (R 805), (I 521 0), (I 4 0), (R 812), (I 525 0), (I 4 0), (R 819), (I 532 0), (I 4 0), (R 826), (I 539 0), (I 4 0), (R 834), (I 554 0), (I 4 0), (R 841), (I 563 0), (I 4 0), (R 848), (I 566 0), (I 4 0), (R 855), (I 578 0), (I 4 0), (R 862), (I 582 0), (I 4 0), (R 869), (I 585 0), (I 4 0), (R 876), (I 590 0), (I 4 0), (R 883), (I 598 0), (I 4 0), (R 890), (I 609 0), (I 4 0), (R 897)],
  fl (Y "code") none [(T "Sender" 1161), (T "Sender" 1162), (T "/claim/cut.py" 1163), (I 469 0), (I 0 0), (I 0 0), (I 0 0), (I 0 0), (R 718), (B false), (I 181 0), (R 719), N, N, N, N, (I 1164 0), (I 469 0), (T "/claim/cut.py" 1165)],
  sl (pl (Y "frame") none) [some (R 720), some (R 3), some (R 717), none, some (T "thinstack.sender" 1104), none, some (R 0)],
  sq (Y "tuple") none [] 0,
  fl N none [],
  sq (Y "tuple") none [(T "self" 1174), (T "iss" 1175), (T "ring" 1176), (T "mss" 1177), (T "room" 1178)] 0,
  sq (Y "tuple") none [] 0,
  fn N none (sb 32 0) "Sender.__init__" 0 [] N N N N none N N 0,
  fl (Y "code") none [(T "__init__" 1171), (T "Sender.__init__" 1172), (T "/claim/cut.py" 1173), (I 471 0), (I 5 0), (I 0 0), (I 0 0), (I 3 0), (R 722), (B true), (I 181 0), (R 723), N, (R 724), (R 725), (R 726), (I 1179 0), (I 471 0), (T "/claim/cut.py" 1180)],
  fn (Y "function") none (sb 32 0) "Sender.__init__" 3 [] N N N (T "thinstack.sender" 1104) none (R 727) N 0,
  sq (Y "tuple") none [] 0,
  fl N none [],
  sq (Y "tuple") none [(T "self" 1185)] 0,
  sq (Y "tuple") none [] 0,
  fn N none (sb 32 1) "Sender.window" 0 [] N N N N none N N 0,
  fl (Y "code") none [(T "window" 1182), (T "Sender.window" 1183), (T "/claim/cut.py" 1184), (I 484 0), (I 1 0), (I 0 0), (I 0 0), (I 3 0), (R 729), (B true), (I 181 0), (R 730), N, (R 731), (R 732), (R 733), (I 1186 0), (I 484 0), (T "/claim/cut.py" 1187)],
  fn (Y "function") none (sb 32 1) "Sender.window" 3 [] N N N (T "thinstack.sender" 1104) none (R 734) N 0]
noncomputable def c23 (P : Params) : List Obj := [
  fl (Y "property") none [(R 735), N, N, N, (T "window" 1189), (B false)],
  sq (Y "tuple") none [] 0,
  fl N none [],
  sq (Y "tuple") none [(T "self" 1193), (T "seq" 1194), (T "ack" 1195), (T "window" 1196)] 0,
  sq (Y "tuple") none [] 0,
  fn N none (sb 32 2) "Sender.take_window" 0 [] N N N N none N N 0,
  fl (Y "code") none [(T "take_window" 1190), (T "Sender.take_window" 1191), (T "/claim/cut.py" 1192), (I 488 0), (I 4 0), (I 0 0), (I 0 0), (I 3 0), (R 737), (B true), (I 181 0), (R 738), N, (R 739), (R 740), (R 741), (I 1197 0), (I 488 0), (T "/claim/cut.py" 1198)],
  fn (Y "function") none (sb 32 2) "Sender.take_window" 3 [] N N N (T "thinstack.sender" 1104) none (R 742) N 0,
  sq (Y "tuple") none [] 0,
  fl N none [],
  sq (Y "tuple") none [(T "self" 1203), (T "octets" 1204)] 0,
  sq (Y "tuple") none [] 0,
  fn N none (sb 32 3) "Sender.put" 0 [] N N N N none N N 0,
  fl (Y "code") none [(T "put" 1200), (T "Sender.put" 1201), (T "/claim/cut.py" 1202), (I 491 0), (I 2 0), (I 0 0), (I 0 0), (I 3 0), (R 744), (B true), (I 181 0), (R 745), N, (R 746), (R 747), (R 748), (I 1205 0), (I 491 0), (T "/claim/cut.py" 1206)],
  fn (Y "function") none (sb 32 3) "Sender.put" 3 [] N N N (T "thinstack.sender" 1104) none (R 749) N 0,
  sq (Y "tuple") none [] 0,
  fl N none [],
  sq (Y "tuple") none [(T "self" 1211)] 0,
  sq (Y "tuple") none [] 0,
  fn N none (sb 32 4) "Sender.ask_fin" 0 [] N N N N none N N 0,
  fl (Y "code") none [(T "ask_fin" 1208), (T "Sender.ask_fin" 1209), (T "/claim/cut.py" 1210), (I 496 0), (I 1 0), (I 0 0), (I 0 0), (I 3 0), (R 751), (B true), (I 181 0), (R 752), N, (R 753), (R 754), (R 755), (I 1212 0), (I 496 0), (T "/claim/cut.py" 1213)],
  fn (Y "function") none (sb 32 4) "Sender.ask_fin" 3 [] N N N (T "thinstack.sender" 1104) none (R 756) N 0,
  sq (Y "tuple") none [] 0,
  fl N none [],
  sq (Y "tuple") none [(T "self" 1218)] 0,
  sq (Y "tuple") none [] 0,
  fn N none (sb 32 5) "Sender.flight" 0 [] N N N N none N N 0,
  fl (Y "code") none [(T "flight" 1215), (T "Sender.flight" 1216), (T "/claim/cut.py" 1217), (I 499 0), (I 1 0), (I 0 0), (I 0 0), (I 3 0), (R 758), (B true), (I 181 0), (R 759), N, (R 760), (R 761), (R 762), (I 1219 0), (I 499 0), (T "/claim/cut.py" 1220)],
  fn (Y "function") none (sb 32 5) "Sender.flight" 3 [] N N N (T "thinstack.sender" 1104) none (R 763) N 0,
  sq (Y "tuple") none [] 0,
  fl N none [],
  sq (Y "tuple") none [(T "self" 1225), (T "congestion_window" 1226)] 0]
noncomputable def c24 (P : Params) : List Obj := [
  sq (Y "tuple") none [] 0,
  fn N none (sb 32 6) "Sender.usable" 0 [] N N N N none N N 0,
  fl (Y "code") none [(T "usable" 1222), (T "Sender.usable" 1223), (T "/claim/cut.py" 1224), (I 502 0), (I 2 0), (I 0 0), (I 0 0), (I 3 0), (R 765), (B true), (I 181 0), (R 766), N, (R 767), (R 768), (R 769), (I 1227 0), (I 502 0), (T "/claim/cut.py" 1228)],
  fn (Y "function") none (sb 32 6) "Sender.usable" 3 [] N N N (T "thinstack.sender" 1104) none (R 770) N 0,
  sq (Y "tuple") none [] 0,
  fl N none [],
  sq (Y "tuple") none [(T "self" 1233)] 0,
  sq (Y "tuple") none [] 0,
  fn N none (sb 32 7) "Sender.data_sent" 0 [] N N N N none N N 0,
  fl (Y "code") none [(T "data_sent" 1230), (T "Sender.data_sent" 1231), (T "/claim/cut.py" 1232), (I 505 0), (I 1 0), (I 0 0), (I 0 0), (I 3 0), (R 772), (B true), (I 181 0), (R 773), N, (R 774), (R 775), (R 776), (I 1234 0), (I 505 0), (T "/claim/cut.py" 1235)],
  fn (Y "function") none (sb 32 7) "Sender.data_sent" 3 [] N N N (T "thinstack.sender" 1104) none (R 777) N 0,
  sq (Y "tuple") none [] 0,
  fl N none [],
  sq (Y "tuple") none [(T "self" 1240)] 0,
  sq (Y "tuple") none [] 0,
  fn N none (sb 32 8) "Sender.unsent" 0 [] N N N N none N N 0,
  fl (Y "code") none [(T "unsent" 1237), (T "Sender.unsent" 1238), (T "/claim/cut.py" 1239), (I 508 0), (I 1 0), (I 0 0), (I 0 0), (I 3 0), (R 779), (B true), (I 181 0), (R 780), N, (R 781), (R 782), (R 783), (I 1241 0), (I 508 0), (T "/claim/cut.py" 1242)],
  fn (Y "function") none (sb 32 8) "Sender.unsent" 3 [] N N N (T "thinstack.sender" 1104) none (R 784) N 0,
  sq (Y "tuple") none [] 0,
  fl N none [],
  sq (Y "tuple") none [(T "self" 1247), (T "room" 1248)] 0,
  sq (Y "tuple") none [] 0,
  fn N none (sb 32 9) "Sender.is_fin_due" 0 [] N N N N none N N 0,
  fl (Y "code") none [(T "is_fin_due" 1244), (T "Sender.is_fin_due" 1245), (T "/claim/cut.py" 1246), (I 511 0), (I 1 0), (I 0 0), (I 0 0), (I 3 0), (R 786), (B true), (I 181 0), (R 787), N, (R 788), (R 789), (R 790), (I 1249 0), (I 511 0), (T "/claim/cut.py" 1250)],
  fn (Y "function") none (sb 32 9) "Sender.is_fin_due" 3 [] N N N (T "thinstack.sender" 1104) none (R 791) N 0,
  sq (Y "tuple") none [] 0,
  fl N none [],
  sq (Y "tuple") none [(T "self" 1255)] 0,
  sq (Y "tuple") none [] 0,
  fn N none (sb 32 10) "Sender.is_fin_acked" 0 [] N N N N none N N 0,
  fl (Y "code") none [(T "is_fin_acked" 1252), (T "Sender.is_fin_acked" 1253), (T "/claim/cut.py" 1254), (I 515 0), (I 1 0), (I 0 0), (I 0 0), (I 3 0), (R 793), (B true), (I 181 0), (R 794), N, (R 795), (R 796), (R 797), (I 1256 0), (I 515 0), (T "/claim/cut.py" 1257)],
  fn (Y "function") none (sb 32 10) "Sender.is_fin_acked" 3 [] N N N (T "thinstack.sender" 1104) none (R 798) N 0]
noncomputable def c25 (P : Params) : List Obj := [
  sq (Y "tuple") none [] 0,
  fl N none [],
  sq (Y "tuple") none [(T "self" 1262)] 0,
  sq (Y "tuple") none [] 0,
  fn N none (sb 32 11) "Sender.is_all_acked" 0 [] N N N N none N N 0,
  fl (Y "code") none [(T "is_all_acked" 1259), (T "Sender.is_all_acked" 1260), (T "/claim/cut.py" 1261), (I 518 0), (I 1 0), (I 0 0), (I 0 0), (I 3 0), (R 800), (B true), (I 181 0), (R 801), N, (R 802), (R 803), (R 804), (I 1263 0), (I 518 0), (T "/claim/cut.py" 1264)],
  fn (Y "function") none (sb 32 11) "Sender.is_all_acked" 3 [] N N N (T "thinstack.sender" 1104) none (R 805) N 0,
  sq (Y "tuple") none [] 0,
  fl N none [],
  sq (Y "tuple") none [(T "self" 1269), (T "many" 1270)] 0,
  sq (Y "tuple") none [] 0,
  fn N none (sb 32 12) "Sender.go_on" 0 [] N N N N none N N 0,
  fl (Y "code") none [(T "go_on" 1266), (T "Sender.go_on" 1267), (T "/claim/cut.py" 1268), (I 521 0), (I 2 0), (I 0 0), (I 0 0), (I 3 0), (R 807), (B true), (I 181 0), (R 808), N, (R 809), (R 810), (R 811), (I 1271 0), (I 521 0), (T "/claim/cut.py" 1272)],
  fn (Y "function") none (sb 32 12) "Sender.go_on" 3 [] N N N (T "thinstack.sender" 1104) none (R 812) N 0,
  sq (Y "tuple") none [] 0,
  fl N none [],
  sq (Y "tuple") none [(T "self" 1277)] 0,
  sq (Y "tuple") none [] 0,
  fn N none (sb 32 13) "Sender.start" 0 [] N N N N none N N 0,
  fl (Y "code") none [(T "start" 1274), (T "Sender.start" 1275), (T "/claim/cut.py" 1276), (I 525 0), (I 1 0), (I 0 0), (I 0 0), (I 3 0), (R 814), (B true), (I 181 0), (R 815), N, (R 816), (R 817), (R 818), (I 1278 0), (I 525 0), (T "/claim/cut.py" 1279)],
  fn (Y "function") none (sb 32 13) "Sender.start" 3 [] N N N (T "thinstack.sender" 1104) none (R 819) N 0,
  sq (Y "tuple") none [] 0,
  fl N none [],
  sq (Y "tuple") none [(T "self" 1284), (T "many" 1285), (T "is_nagle" 1286)] 0,
  sq (Y "tuple") none [] 0,
  fn N none (sb 32 14) "Sender.may_go" 0 [] N N N N none N N 0,
  fl (Y "code") none [(T "may_go" 1281), (T "Sender.may_go" 1282), (T "/claim/cut.py" 1283), (I 532 0), (I 3 0), (I 0 0), (I 0 0), (I 3 0), (R 821), (B true), (I 181 0), (R 822), N, (R 823), (R 824), (R 825), (I 1287 0), (I 532 0), (T "/claim/cut.py" 1288)],
  fn (Y "function") none (sb 32 14) "Sender.may_go" 3 [] N N N (T "thinstack.sender" 1104) none (R 826) N 0,
  sq (Y "tuple") none [(B true)] 0,
  sq (Y "tuple") none [] 0,
  fl N none [],
  sq (Y "tuple") none [(T "self" 1293), (T "congestion_window" 1294), (T "is_nagle" 1295), (T "found" 1296), (T "many" 1297)] 0]
noncomputable def c26 (P : Params) : List Obj := [
  sq (Y "tuple") none [] 0,
  fn N none (sb 32 15) "Sender.pieces" 0 [] N N N N none N N 0,
  fl (Y "code") none [(T "pieces" 1290), (T "Sender.pieces" 1291), (T "/claim/cut.py" 1292), (I 539 0), (I 3 0), (I 0 0), (I 0 0), (I 3 0), (R 829), (B true), (I 181 0), (R 830), N, (R 831), (R 832), (R 833), (I 1298 0), (I 539 0), (T "/claim/cut.py" 1299)],
  fn (Y "function") none (sb 32 15) "Sender.pieces" 3 [] (R 828) N N (T "thinstack.sender" 1104) none (R 834) N 0,
  sq (Y "tuple") none [] 0,
  fl N none [],
  sq (Y "tuple") none [(T "self" 1304), (T "many" 1305), (T "congestion_window" 1306), (T "seq" 1307), (T "octets" 1308), (T "is_last" 1309), (T "has_fin" 1310)] 0,
  sq (Y "tuple") none [] 0,
  fn N none (sb 32 16) "Sender.piece_of" 0 [] N N N N none N N 0,
  fl (Y "code") none [(T "piece_of" 1301), (T "Sender.piece_of" 1302), (T "/claim/cut.py" 1303), (I 554 0), (I 3 0), (I 0 0), (I 0 0), (I 3 0), (R 836), (B true), (I 181 0), (R 837), N, (R 838), (R 839), (R 840), (I 1311 0), (I 554 0), (T "/claim/cut.py" 1312)],
  fn (Y "function") none (sb 32 16) "Sender.piece_of" 3 [] N N N (T "thinstack.sender" 1104) none (R 841) N 0,
  sq (Y "tuple") none [] 0,
  fl N none [],
  sq (Y "tuple") none [(T "self" 1317)] 0,
  sq (Y "tuple") none [] 0,
  fn N none (sb 32 17) "Sender.ever_sent" 0 [] N N N N none N N 0,
  fl (Y "code") none [(T "ever_sent" 1314), (T "Sender.ever_sent" 1315), (T "/claim/cut.py" 1316), (I 563 0), (I 1 0), (I 0 0), (I 0 0), (I 3 0), (R 843), (B true), (I 181 0), (R 844), N, (R 845), (R 846), (R 847), (I 1318 0), (I 563 0), (T "/claim/cut.py" 1319)],
  fn (Y "function") none (sb 32 17) "Sender.ever_sent" 3 [] N N N (T "thinstack.sender" 1104) none (R 848) N 0,
  sq (Y "tuple") none [] 0,
  fl N none [],
  sq (Y "tuple") none [(T "self" 1324), (T "many" 1325), (T "size" 1326), (T "has_fin" 1327)] 0,
  sq (Y "tuple") none [] 0,
  fn N none (sb 32 18) "Sender.first_piece" 0 [] N N N N none N N 0,
  fl (Y "code") none [(T "first_piece" 1321), (T "Sender.first_piece" 1322), (T "/claim/cut.py" 1323), (I 566 0), (I 1 0), (I 0 0), (I 0 0), (I 3 0), (R 850), (B true), (I 181 0), (R 851), N, (R 852), (R 853), (R 854), (I 1328 0), (I 566 0), (T "/claim/cut.py" 1329)],
  fn (Y "function") none (sb 32 18) "Sender.first_piece" 3 [] N N N (T "thinstack.sender" 1104) none (R 855) N 0,
  sq (Y "tuple") none [] 0,
  fl N none [],
  sq (Y "tuple") none [(T "self" 1334), (T "many" 1335)] 0,
  sq (Y "tuple") none [] 0,
  fn N none (sb 32 19) "Sender.reach" 0 [] N N N N none N N 0,
  fl (Y "code") none [(T "reach" 1331), (T "Sender.reach" 1332), (T "/claim/cut.py" 1333), (I 578 0), (I 2 0), (I 0 0), (I 0 0), (I 3 0), (R 857), (B true), (I 181 0), (R 858), N, (R 859), (R 860), (R 861), (I 1336 0), (I 578 0), (T "/claim/cut.py" 1337)],
  fn (Y "function") none (sb 32 19) "Sender.reach" 3 [] N N N (T "thinstack.sender" 1104) none (R 862) N 0]
noncomputable def c27 (P : Params) : List Obj := [
  sq (Y "tuple") none [] 0,
  fl N none [],
  sq (Y "tuple") none [(T "self" 1342), (T "seq" 1343)] 0,
  sq (Y "tuple") none [] 0,
  fn N none (sb 32 20) "Sender.back_to" 0 [] N N N N none N N 0,
  fl (Y "code") none [(T "back_to" 1339), (T "Sender.back_to" 1340), (T "/claim/cut.py" 1341), (I 582 0), (I 2 0), (I 0 0), (I 0 0), (I 3 0), (R 864), (B true), (I 181 0), (R 865), N, (R 866), (R 867), (R 868), (I 1344 0), (I 582 0), (T "/claim/cut.py" 1345)],
  fn (Y "function") none (sb 32 20) "Sender.back_to" 3 [] N N N (T "thinstack.sender" 1104) none (R 869) N 0,
  sq (Y "tuple") none [] 0,
  fl N none [],
  sq (Y "tuple") none [(T "self" 1350)] 0,
  sq (Y "tuple") none [] 0,
  fn N none (sb 32 21) "Sender.is_idle_with_more" 0 [] N N N N none N N 0,
  fl (Y "code") none [(T "is_idle_with_more" 1347), (T "Sender.is_idle_with_more" 1348), (T "/claim/cut.py" 1349), (I 585 0), (I 1 0), (I 0 0), (I 0 0), (I 3 0), (R 871), (B true), (I 181 0), (R 872), N, (R 873), (R 874), (R 875), (I 1351 0), (I 585 0), (T "/claim/cut.py" 1352)],
  fn (Y "function") none (sb 32 21) "Sender.is_idle_with_more" 3 [] N N N (T "thinstack.sender" 1104) none (R 876) N 0,
  sq (Y "tuple") none [] 0,
  fl N none [],
  sq (Y "tuple") none [(T "self" 1357), (T "many" 1358)] 0,
  sq (Y "tuple") none [] 0,
  fn N none (sb 32 22) "Sender.needs_probe" 0 [] N N N N none N N 0,
  fl (Y "code") none [(T "needs_probe" 1354), (T "Sender.needs_probe" 1355), (T "/claim/cut.py" 1356), (I 590 0), (I 1 0), (I 0 0), (I 0 0), (I 3 0), (R 878), (B true), (I 181 0), (R 879), N, (R 880), (R 881), (R 882), (I 1359 0), (I 590 0), (T "/claim/cut.py" 1360)],
  fn (Y "function") none (sb 32 22) "Sender.needs_probe" 3 [] N N N (T "thinstack.sender" 1104) none (R 883) N 0,
  sq (Y "tuple") none [] 0,
  fl N none [],
  sq (Y "tuple") none [(T "self" 1365)] 0,
  sq (Y "tuple") none [] 0,
  fn N none (sb 32 23) "Sender.probe" 0 [] N N N N none N N 0,
  fl (Y "code") none [(T "probe" 1362), (T "Sender.probe" 1363), (T "/claim/cut.py" 1364), (I 598 0), (I 1 0), (I 0 0), (I 0 0), (I 3 0), (R 885), (B true), (I 181 0), (R 886), N, (R 887), (R 888), (R 889), (I 1366 0), (I 598 0), (T "/claim/cut.py" 1367)],
  fn (Y "function") none (sb 32 23) "Sender.probe" 3 [] N N N (T "thinstack.sender" 1104) none (R 890) N 0,
  sq (Y "tuple") none [] 0,
  fl N none [],
  sq (Y "tuple") none [(T "self" 1372), (T "ack" 1373), (T "many" 1374), (T "ahead" 1375), (T "is_syn" 1376), (T "octets" 1377)] 0,
  sq (Y "tuple") none [] 0]
noncomputable def c28 (P : Params) : List Obj := [
  fn N none (sb 32 24) "Sender.acked" 0 [] N N N N none N N 0,
  fl (Y "code") none [(T "acked" 1369), (T "Sender.acked" 1370), (T "/claim/cut.py" 1371), (I 609 0), (I 2 0), (I 0 0), (I 0 0), (I 3 0), (R 892), (B true), (I 181 0), (R 893), N, (R 894), (R 895), (R 896), (I 1378 0), (I 609 0), (T "/claim/cut.py" 1379)],
  fn (Y "function") none (sb 32 24) "Sender.acked" 3 [] N N N (T "thinstack.sender" 1104) none (R 897) N 0,
  sq (Y "tuple") none [(T "fin_asked" 1381), (T "fin_sent" 1382), (T "greatest" 1383), (T "iss" 1384), (T "mss" 1385), (T "next" 1386), (T "peer" 1387), (T "queue" 1388), (T "ring" 1389), (T "syn_pending" 1390), (T "una" 1391)] 0,
  di (Y "dict") none [e P "__module__" 1166 (T "thinstack.sender" 1104), e P "__firstlineno__" 1170 (I 469 1169), e P "__init__" 1181 (R 728), e P "window" 1189 (R 736), e P "take_window" 1199 (R 743), e P "put" 1207 (R 750), e P "ask_fin" 1214 (R 757), e P "flight" 1221 (R 764), e P "usable" 1229 (R 771), e P "data_sent" 1236 (R 778), e P "unsent" 1243 (R 785), e P "is_fin_due" 1251 (R 792), e P "is_fin_acked" 1258 (R 799), e P "is_all_acked" 1265 (R 806), e P "go_on" 1273 (R 813), e P "start" 1280 (R 820), e P "may_go" 1289 (R 827), e P "pieces" 1300 (R 835), e P "piece_of" 1313 (R 842), e P "ever_sent" 1320 (R 849), e P "first_piece" 1330 (R 856), e P "reach" 1338 (R 863), e P "back_to" 1346 (R 870), e P "is_idle_with_more" 1353 (R 877), e P "needs_probe" 1361 (R 884), e P "probe" 1368 (R 891), e P "acked" 1380 (R 898), e P "__static_attributes__" 1392 (R 899), e P "__dict__" 1394 (R 902), e P "__weakref__" 1396 (R 903), e P "__doc__" 1397 N] 4,
  sl (cl (Y "type") none "Sender" [(Y "object")] [(R 901), (Y "object")] 900 "Sender" true [] [] false false) [none, none, some (T "Sender" 1159), some (T "Sender" 1167), some (U "object.__new__"), some (B true)],
  fl (Y "getset_descriptor") none [(T "__dict__" 1393), (R 901), (U "function.__dict__"), (U "function.__dict__#set")],
  fl (Y "getset_descriptor") none [(T "__weakref__" 1395), (R 901), (U "ExceptionGroup.__weakref__"), N],
  fl (Y "super") none [(R 901), (R 901), (R 901)],
  fl (Y "builtin_function_or_method") none [(U "object.__init_subclass__"), (R 901)],
  sq (Y "tuple") none [] 0,
  fl N none [],
  sq (Y "tuple") none [(T "n" 1405)] 0,
  sq (Y "tuple") none [] 0,
  fn N none (sa 34) "put16" 0 [] N N N N none N N 0,
  fl (Y "code") none [(T "put16" 1402), (T "put16" 1403), (T "/claim/cut.py" 1404), (I 623 0), (I 1 0), (I 0 0), (I 0 0), (I 3 0), (R 906), (B true), (I 181 0), (R 907), N, (R 908), (R 909), (R 910), (I 1406 0), (I 623 0), (T "/claim/cut.py" 1407)],
  fn (Y "function") none (sa 34) "put16" 3 [] N N N (T "thinstack.octets" 1400) none (R 911) N 0,
  sq (Y "tuple") none [] 0,
  fl N none [],
  sq (Y "tuple") none [(T "octets" 1412), (T "at" 1413), (T "size" 1414)] 0,
  sq (Y "tuple") none [] 0,
  fn N none (sa 35) "need" 0 [] N N N N none N N 0,
  fl (Y "code") none [(T "need" 1409), (T "need" 1410), (T "/claim/cut.py" 1411), (I 625 0), (I 3 0), (I 0 0), (I 0 0), (I 3 0), (R 913), (B true), (I 181 0), (R 914), N, (R 915), (R 916), (R 917), (I 1415 0), (I 625 0), (T "/claim/cut.py" 1416)],
  fn (Y "function") none (sa 35) "need" 3 [] N N N (T "thinstack.octets" 1400) none (R 918) N 0,
  sq (Y "tuple") none [] 0,
  fl N none [],
  sq (Y "tuple") none [(T "octets" 1421), (T "at" 1422)] 0,
  sq (Y "tuple") none [] 0,
  fn N none (sa 36) "get16" 0 [] N N N N none N N 0,
  fl (Y "code") none [(T "get16" 1418), (T "get16" 1419), (T "/claim/cut.py" 1420), (I 628 0), (I 2 0), (I 0 0), (I 0 0), (I 3 0), (R 920), (B true), (I 181 0), (R 921), N, (R 922), (R 923), (R 924), (I 1423 0), (I 628 0), (T "/claim/cut.py" 1424)],
  fn (Y "function") none (sa 36) "get16" 3 [] N N N (T "thinstack.octets" 1400) none (R 925) N 0,
  sq (Y "tuple") none [] 0]
noncomputable def c29 (P : Params) : List Obj := [
  fl (Y "builtin_function_or_method") none [(U "type.__prepare__"), (Y "type")],
  di (Y "dict") none [e P "__module__" 1455 (T "thinstack.tcp_segment" 1426), e P "__qualname__" 1457 (T "Segment" 1456), e P "__firstlineno__" 1459 (I 642 1458), e P "__init__" 1478 (R 941), e P "has" 1486 (R 948), e P "length" 1494 (R 955), e P "row" 1502 (R 962), e P "__static_attributes__" 1512 (R 963)] 8,
  sq (Y "tuple") none [] 0,
  fl N none [(I 644 0), (I 4 0), (R 940), (I 655 0), (I 4 0), (R 947), (I 658 0), (I 4 0), (R 954), (I 666 0), (I 4 0), (R 961)],
  fl (Y "code") none [(T "Segment" 1450), (T "Segment" 1451), (T "/claim/cut.py" 1452), (I 642 0), (I 0 0), (I 0 0), (I 0 0), (I 0 0), (R 930), (B false), (I 181 0), (R 931), N, N, N, N, (I 1453 0), (I 642 0), (T "/claim/cut.py" 1454)],
  sl (pl (Y "frame") none) [some (R 932), some (R 3), some (R 929), none, some (T "thinstack.tcp_segment" 1426), none, some (R 0)],
  sq (Y "tuple") none [(I 0 1460), (Value.bytes #[] 1461), (Value.bytes #[] 1462)] 0,
  sq (Y "tuple") none [] 0,
  fl N none [],
  sq (Y "tuple") none [(T "self" 1466), (T "source_port" 1467), (T "target_port" 1468), (T "seq" 1469), (T "ack" 1470), (T "flags" 1471), (T "window" 1472), (T "urgent" 1473), (T "options" 1474), (T "payload" 1475)] 0,
  sq (Y "tuple") none [] 0,
  fn N none (sb 48 0) "Segment.__init__" 0 [] N N N N none N N 0,
  fl (Y "code") none [(T "__init__" 1463), (T "Segment.__init__" 1464), (T "/claim/cut.py" 1465), (I 644 0), (I 10 0), (I 0 0), (I 0 0), (I 3 0), (R 935), (B true), (I 181 0), (R 936), N, (R 937), (R 938), (R 939), (I 1476 0), (I 644 0), (T "/claim/cut.py" 1477)],
  fn (Y "function") none (sb 48 0) "Segment.__init__" 3 [] (R 934) N N (T "thinstack.tcp_segment" 1426) none (R 940) N 0,
  sq (Y "tuple") none [] 0,
  fl N none [],
  sq (Y "tuple") none [(T "self" 1482), (T "flag" 1483)] 0,
  sq (Y "tuple") none [] 0,
  fn N none (sb 48 1) "Segment.has" 0 [] N N N N none N N 0,
  fl (Y "code") none [(T "has" 1479), (T "Segment.has" 1480), (T "/claim/cut.py" 1481), (I 655 0), (I 2 0), (I 0 0), (I 0 0), (I 3 0), (R 942), (B true), (I 181 0), (R 943), N, (R 944), (R 945), (R 946), (I 1484 0), (I 655 0), (T "/claim/cut.py" 1485)],
  fn (Y "function") none (sb 48 1) "Segment.has" 3 [] N N N (T "thinstack.tcp_segment" 1426) none (R 947) N 0,
  sq (Y "tuple") none [] 0,
  fl N none [],
  sq (Y "tuple") none [(T "self" 1490), (T "many" 1491)] 0,
  sq (Y "tuple") none [] 0,
  fn N none (sb 48 2) "Segment.length" 0 [] N N N N none N N 0,
  fl (Y "code") none [(T "length" 1487), (T "Segment.length" 1488), (T "/claim/cut.py" 1489), (I 658 0), (I 1 0), (I 0 0), (I 0 0), (I 3 0), (R 949), (B true), (I 181 0), (R 950), N, (R 951), (R 952), (R 953), (I 1492 0), (I 658 0), (T "/claim/cut.py" 1493)],
  fn (Y "function") none (sb 48 2) "Segment.length" 3 [] N N N (T "thinstack.tcp_segment" 1426) none (R 954) N 0,
  sq (Y "tuple") none [] 0,
  fl N none [],
  sq (Y "tuple") none [(T "self" 1498), (T "numbers" 1499)] 0,
  sq (Y "tuple") none [] 0]
noncomputable def c30 (P : Params) : List Obj := [
  fn N none (sb 48 3) "Segment.row" 0 [] N N N N none N N 0,
  fl (Y "code") none [(T "row" 1495), (T "Segment.row" 1496), (T "/claim/cut.py" 1497), (I 666 0), (I 1 0), (I 0 0), (I 0 0), (I 3 0), (R 956), (B true), (I 181 0), (R 957), N, (R 958), (R 959), (R 960), (I 1500 0), (I 666 0), (T "/claim/cut.py" 1501)],
  fn (Y "function") none (sb 48 3) "Segment.row" 3 [] N N N (T "thinstack.tcp_segment" 1426) none (R 961) N 0,
  sq (Y "tuple") none [(T "ack" 1503), (T "flags" 1504), (T "options" 1505), (T "payload" 1506), (T "seq" 1507), (T "source_port" 1508), (T "target_port" 1509), (T "urgent" 1510), (T "window" 1511)] 0,
  di (Y "dict") none [e P "__module__" 1455 (T "thinstack.tcp_segment" 1426), e P "__firstlineno__" 1459 (I 642 1458), e P "__init__" 1478 (R 941), e P "has" 1486 (R 948), e P "length" 1494 (R 955), e P "row" 1502 (R 962), e P "__static_attributes__" 1512 (R 963), e P "__dict__" 1514 (R 966), e P "__weakref__" 1516 (R 967), e P "__doc__" 1517 N] 4,
  sl (cl (Y "type") none "Segment" [(Y "object")] [(R 965), (Y "object")] 964 "Segment" true [] [] false false) [none, none, some (T "Segment" 1448), some (T "Segment" 1456), some (U "object.__new__"), some (B true)],
  fl (Y "getset_descriptor") none [(T "__dict__" 1513), (R 965), (U "function.__dict__"), (U "function.__dict__#set")],
  fl (Y "getset_descriptor") none [(T "__weakref__" 1515), (R 965), (U "ExceptionGroup.__weakref__"), N],
  fl (Y "super") none [(R 965), (R 965), (R 965)],
  fl (Y "builtin_function_or_method") none [(U "object.__init_subclass__"), (R 965)],
  sq (Y "tuple") none [] 0,
  fl N none [],
  sq (Y "tuple") none [(T "number" 1523), (T "bits" 1524)] 0,
  sq (Y "tuple") none [] 0,
  fn N none (sa 49) "check_number" 0 [] N N N N none N N 0,
  fl (Y "code") none [(T "check_number" 1520), (T "check_number" 1521), (T "/claim/cut.py" 1522), (I 669 0), (I 2 0), (I 0 0), (I 0 0), (I 3 0), (R 970), (B true), (I 181 0), (R 971), N, (R 972), (R 973), (R 974), (I 1525 0), (I 669 0), (T "/claim/cut.py" 1526)],
  fn (Y "function") none (sa 49) "check_number" 3 [] N N N (T "thinstack.tcp_segment" 1426) none (R 975) N 0,
  sq (Y "tuple") none [] 0,
  fl N none [],
  sq (Y "tuple") none [(T "n" 1531)] 0,
  sq (Y "tuple") none [] 0,
  fn N none (sa 50) "mss_option" 0 [] N N N N none N N 0,
  fl (Y "code") none [(T "mss_option" 1528), (T "mss_option" 1529), (T "/claim/cut.py" 1530), (I 672 0), (I 1 0), (I 0 0), (I 0 0), (I 3 0), (R 977), (B true), (I 181 0), (R 978), N, (R 979), (R 980), (R 981), (I 1532 0), (I 672 0), (T "/claim/cut.py" 1533)],
  fn (Y "function") none (sa 50) "mss_option" 3 [] N N N (T "thinstack.tcp_segment" 1426) none (R 982) N 0,
  sq (Y "tuple") none [] 0,
  fl N none [],
  sq (Y "tuple") none [(T "options" 1538), (T "at" 1539), (T "kind" 1540), (T "size" 1541)] 0,
  sq (Y "tuple") none [] 0,
  fn N none (sa 51) "mss_of" 0 [] N N N N none N N 0,
  fl (Y "code") none [(T "mss_of" 1535), (T "mss_of" 1536), (T "/claim/cut.py" 1537), (I 675 0), (I 1 0), (I 0 0), (I 0 0), (I 3 0), (R 984), (B true), (I 181 0), (R 985), N, (R 986), (R 987), (R 988), (I 1542 0), (I 675 0), (T "/claim/cut.py" 1543)],
  fn (Y "function") none (sa 51) "mss_of" 3 [] N N N (T "thinstack.tcp_segment" 1426) none (R 989) N 0,
  sq (Y "tuple") none [] 0]
noncomputable def c31 (P : Params) : List Obj := [
  fl N none [],
  sq (Y "tuple") none [] 0,
  sq (Y "tuple") none [] 0,
  fn N none (sa 64) "opening_steps" 0 [] N N N N none N N 0,
  fl (Y "code") none [(T "opening_steps" 1569), (T "opening_steps" 1570), (T "/claim/cut.py" 1571), (I 705 0), (I 0 0), (I 0 0), (I 0 0), (I 3 0), (R 991), (B true), (I 181 0), (R 992), N, (R 993), (R 994), (R 995), (I 1572 0), (I 705 0), (T "/claim/cut.py" 1573)],
  fn (Y "function") none (sa 64) "opening_steps" 3 [] N N N (T "thinstack.tcp_states" 1545) none (R 996) N 0,
  sq (Y "tuple") none [] 0,
  fl N none [],
  sq (Y "tuple") none [] 0,
  sq (Y "tuple") none [] 0,
  fn N none (sa 65) "closing_steps" 0 [] N N N N none N N 0,
  fl (Y "code") none [(T "closing_steps" 1575), (T "closing_steps" 1576), (T "/claim/cut.py" 1577), (I 707 0), (I 0 0), (I 0 0), (I 0 0), (I 3 0), (R 998), (B true), (I 181 0), (R 999), N, (R 1000), (R 1001), (R 1002), (I 1578 0), (I 707 0), (T "/claim/cut.py" 1579)],
  fn (Y "function") none (sa 65) "closing_steps" 3 [] N N N (T "thinstack.tcp_states" 1545) none (R 1003) N 0,
  sq (Y "tuple") none [] 0,
  fl N none [],
  sq (Y "tuple") none [(T "state" 1584), (T "event" 1585), (T "found" 1586)] 0,
  sq (Y "tuple") none [] 0,
  fn N none (sa 66) "follow" 0 [] N N N N none N N 0,
  fl (Y "code") none [(T "follow" 1581), (T "follow" 1582), (T "/claim/cut.py" 1583), (I 709 0), (I 2 0), (I 0 0), (I 0 0), (I 3 0), (R 1005), (B true), (I 181 0), (R 1006), N, (R 1007), (R 1008), (R 1009), (I 1587 0), (I 709 0), (T "/claim/cut.py" 1588)],
  fn (Y "function") none (sa 66) "follow" 3 [] N N N (T "thinstack.tcp_states" 1545) none (R 1010) N 0,
  sq (Y "tuple") none [] 0,
  fl N none [],
  sq (Y "tuple") none [(T "state" 1593)] 0,
  sq (Y "tuple") none [] 0,
  fn N none (sa 67) "may_receive" 0 [] N N N N none N N 0,
  fl (Y "code") none [(T "may_receive" 1590), (T "may_receive" 1591), (T "/claim/cut.py" 1592), (I 718 0), (I 1 0), (I 0 0), (I 0 0), (I 3 0), (R 1012), (B true), (I 181 0), (R 1013), N, (R 1014), (R 1015), (R 1016), (I 1594 0), (I 718 0), (T "/claim/cut.py" 1595)],
  fn (Y "function") none (sa 67) "may_receive" 3 [] N N N (T "thinstack.tcp_states" 1545) none (R 1017) N 0,
  sq (Y "tuple") none [] 0,
  fl N none [],
  sq (Y "tuple") none [(T "state" 1600)] 0,
  sq (Y "tuple") none [] 0,
  fn N none (sa 68) "is_synchronized" 0 [] N N N N none N N 0]
noncomputable def c32 (P : Params) : List Obj := [
  fl (Y "code") none [(T "is_synchronized" 1597), (T "is_synchronized" 1598), (T "/claim/cut.py" 1599), (I 720 0), (I 1 0), (I 0 0), (I 0 0), (I 3 0), (R 1019), (B true), (I 181 0), (R 1020), N, (R 1021), (R 1022), (R 1023), (I 1601 0), (I 720 0), (T "/claim/cut.py" 1602)],
  fn (Y "function") none (sa 68) "is_synchronized" 3 [] N N N (T "thinstack.tcp_states" 1545) none (R 1024) N 0,
  sq (Y "tuple") none [] 0,
  fl N none [],
  sq (Y "tuple") none [(T "state" 1607)] 0,
  sq (Y "tuple") none [] 0,
  fn N none (sa 69) "is_sending" 0 [] N N N N none N N 0,
  fl (Y "code") none [(T "is_sending" 1604), (T "is_sending" 1605), (T "/claim/cut.py" 1606), (I 722 0), (I 1 0), (I 0 0), (I 0 0), (I 3 0), (R 1026), (B true), (I 181 0), (R 1027), N, (R 1028), (R 1029), (R 1030), (I 1608 0), (I 722 0), (T "/claim/cut.py" 1609)],
  fn (Y "function") none (sa 69) "is_sending" 3 [] N N N (T "thinstack.tcp_states" 1545) none (R 1031) N 0,
  sq (Y "tuple") none [] 0,
  fl (Y "builtin_function_or_method") none [(U "type.__prepare__"), (Y "type")],
  di (Y "dict") none [e P "__module__" 1620 (T "thinstack.wheel" 1611), e P "__qualname__" 1622 (T "Wheel" 1621), e P "__firstlineno__" 1624 (I 725 1623), e P "__init__" 1631 (R 1045), e P "put" 1640 (R 1052), e P "list_of" 1648 (R 1059), e P "cancel" 1659 (R 1066), e P "time_of" 1667 (R 1073), e P "next_time" 1674 (R 1080), e P "due" 1680 (R 1085), e P "keys_until" 1690 (R 1092), e P "__static_attributes__" 1697 (R 1093)] 12,
  sq (Y "tuple") none [] 0,
  fl N none [(I 727 0), (I 4 0), (R 1044), (I 735 0), (I 4 0), (R 1051), (I 741 0), (I 4 0), (R 1058), (I 746 0), (I 4 0), (R 1065), (I 753 0), (I 4 0), (R 1072), (I 756 0), (I 4 0), (R 1079), (I 759 0), (I 4 0), (R 1084), (I 771 0), (I 4 0), (R 1091)],
  fl (Y "code") none [(T "Wheel" 1615), (T "Wheel" 1616), (T "/claim/cut.py" 1617), (I 725 0), (I 0 0), (I 0 0), (I 0 0), (I 0 0), (R 1036), (B false), (I 181 0), (R 1037), N, N, N, N, (I 1618 0), (I 725 0), (T "/claim/cut.py" 1619)],
  sl (pl (Y "frame") none) [some (R 1038), some (R 3), some (R 1035), none, some (T "thinstack.wheel" 1611), none, some (R 0)],
  sq (Y "tuple") none [(I 16 1625)] 0,
  sq (Y "tuple") none [] 0,
  fl N none [],
  fn N none (sb 71 0) "Wheel.__init__" 0 [] N N N N none N N 0,
  fl (Y "code") none [(T "__init__" 1626), (T "Wheel.__init__" 1627), (T "/claim/cut.py" 1628), (I 727 0), (I 2 0), (I 0 0), (I 0 0), (I 3 0), (R 1041), (B true), (I 181 0), (R 1042), N, N, N, (R 1043), (I 1629 0), (I 727 0), (T "/claim/cut.py" 1630)],
  fn (Y "function") none (sb 71 0) "Wheel.__init__" 3 [] (R 1040) N N (T "thinstack.wheel" 1611) none (R 1044) N 0,
  sq (Y "tuple") none [] 0,
  fl N none [],
  sq (Y "tuple") none [(T "self" 1635), (T "key" 1636), (T "time" 1637)] 0,
  sq (Y "tuple") none [] 0,
  fn N none (sb 71 1) "Wheel.put" 0 [] N N N N none N N 0,
  fl (Y "code") none [(T "put" 1632), (T "Wheel.put" 1633), (T "/claim/cut.py" 1634), (I 735 0), (I 3 0), (I 0 0), (I 0 0), (I 3 0), (R 1046), (B true), (I 181 0), (R 1047), N, (R 1048), (R 1049), (R 1050), (I 1638 0), (I 735 0), (T "/claim/cut.py" 1639)],
  fn (Y "function") none (sb 71 1) "Wheel.put" 3 [] N N N (T "thinstack.wheel" 1611) none (R 1051) N 0,
  sq (Y "tuple") none [] 0,
  fl N none [],
  sq (Y "tuple") none [(T "self" 1644), (T "time" 1645)] 0]
noncomputable def c33 (P : Params) : List Obj := [
  sq (Y "tuple") none [] 0,
  fn N none (sb 71 2) "Wheel.list_of" 0 [] N N N N none N N 0,
  fl (Y "code") none [(T "list_of" 1641), (T "Wheel.list_of" 1642), (T "/claim/cut.py" 1643), (I 741 0), (I 2 0), (I 0 0), (I 0 0), (I 3 0), (R 1053), (B true), (I 181 0), (R 1054), N, (R 1055), (R 1056), (R 1057), (I 1646 0), (I 741 0), (T "/claim/cut.py" 1647)],
  fn (Y "function") none (sb 71 2) "Wheel.list_of" 3 [] N N N (T "thinstack.wheel" 1611) none (R 1058) N 0,
  sq (Y "tuple") none [] 0,
  fl N none [],
  sq (Y "tuple") none [(T "self" 1652), (T "key" 1653), (T "time" 1654), (T "order" 1655), (T "keys" 1656)] 0,
  sq (Y "tuple") none [] 0,
  fn N none (sb 71 3) "Wheel.cancel" 0 [] N N N N none N N 0,
  fl (Y "code") none [(T "cancel" 1649), (T "Wheel.cancel" 1650), (T "/claim/cut.py" 1651), (I 746 0), (I 2 0), (I 0 0), (I 0 0), (I 3 0), (R 1060), (B true), (I 181 0), (R 1061), N, (R 1062), (R 1063), (R 1064), (I 1657 0), (I 746 0), (T "/claim/cut.py" 1658)],
  fn (Y "function") none (sb 71 3) "Wheel.cancel" 3 [] N N N (T "thinstack.wheel" 1611) none (R 1065) N 0,
  sq (Y "tuple") none [] 0,
  fl N none [],
  sq (Y "tuple") none [(T "self" 1663), (T "key" 1664)] 0,
  sq (Y "tuple") none [] 0,
  fn N none (sb 71 4) "Wheel.time_of" 0 [] N N N N none N N 0,
  fl (Y "code") none [(T "time_of" 1660), (T "Wheel.time_of" 1661), (T "/claim/cut.py" 1662), (I 753 0), (I 2 0), (I 0 0), (I 0 0), (I 3 0), (R 1067), (B true), (I 181 0), (R 1068), N, (R 1069), (R 1070), (R 1071), (I 1665 0), (I 753 0), (T "/claim/cut.py" 1666)],
  fn (Y "function") none (sb 71 4) "Wheel.time_of" 3 [] N N N (T "thinstack.wheel" 1611) none (R 1072) N 0,
  sq (Y "tuple") none [] 0,
  fl N none [],
  sq (Y "tuple") none [(T "self" 1671)] 0,
  sq (Y "tuple") none [] 0,
  fn N none (sb 71 5) "Wheel.next_time" 0 [] N N N N none N N 0,
  fl (Y "code") none [(T "next_time" 1668), (T "Wheel.next_time" 1669), (T "/claim/cut.py" 1670), (I 756 0), (I 1 0), (I 0 0), (I 0 0), (I 3 0), (R 1074), (B true), (I 181 0), (R 1075), N, (R 1076), (R 1077), (R 1078), (I 1672 0), (I 756 0), (T "/claim/cut.py" 1673)],
  fn (Y "function") none (sb 71 5) "Wheel.next_time" 3 [] N N N (T "thinstack.wheel" 1611) none (R 1079) N 0,
  sq (Y "tuple") none [] 0,
  fl N none [],
  fn N none (sb 71 6) "Wheel.due" 0 [] N N N N none N N 0,
  fl (Y "code") none [(T "due" 1675), (T "Wheel.due" 1676), (T "/claim/cut.py" 1677), (I 759 0), (I 2 0), (I 0 0), (I 0 0), (I 3 0), (R 1081), (B true), (I 181 0), (R 1082), N, N, N, (R 1083), (I 1678 0), (I 759 0), (T "/claim/cut.py" 1679)],
  fn (Y "function") none (sb 71 6) "Wheel.due" 3 [] N N N (T "thinstack.wheel" 1611) none (R 1084) N 0,
  sq (Y "tuple") none [] 0,
  fl N none []]
noncomputable def c34 (P : Params) : List Obj := [
  sq (Y "tuple") none [(T "self" 1684), (T "now" 1685), (T "found" 1686), (T "time" 1687)] 0,
  sq (Y "tuple") none [] 0,
  fn N none (sb 71 7) "Wheel.keys_until" 0 [] N N N N none N N 0,
  fl (Y "code") none [(T "keys_until" 1681), (T "Wheel.keys_until" 1682), (T "/claim/cut.py" 1683), (I 771 0), (I 2 0), (I 0 0), (I 0 0), (I 3 0), (R 1086), (B true), (I 181 0), (R 1087), N, (R 1088), (R 1089), (R 1090), (I 1688 0), (I 771 0), (T "/claim/cut.py" 1689)],
  fn (Y "function") none (sb 71 7) "Wheel.keys_until" 3 [] N N N (T "thinstack.wheel" 1611) none (R 1091) N 0,
  sq (Y "tuple") none [(T "entries" 1691), (T "given" 1692), (T "late" 1693), (T "reached" 1694), (T "size" 1695), (T "slots" 1696)] 0,
  di (Y "dict") none [e P "__module__" 1620 (T "thinstack.wheel" 1611), e P "__firstlineno__" 1624 (I 725 1623), e P "__init__" 1631 (R 1045), e P "put" 1640 (R 1052), e P "list_of" 1648 (R 1059), e P "cancel" 1659 (R 1066), e P "time_of" 1667 (R 1073), e P "next_time" 1674 (R 1080), e P "due" 1680 (R 1085), e P "keys_until" 1690 (R 1092), e P "__static_attributes__" 1697 (R 1093), e P "__dict__" 1699 (R 1096), e P "__weakref__" 1701 (R 1097), e P "__doc__" 1702 N] 4,
  sl (cl (Y "type") none "Wheel" [(Y "object")] [(R 1095), (Y "object")] 1094 "Wheel" true [] [] false false) [none, none, some (T "Wheel" 1613), some (T "Wheel" 1621), some (U "object.__new__"), some (B true)],
  fl (Y "getset_descriptor") none [(T "__dict__" 1698), (R 1095), (U "function.__dict__"), (U "function.__dict__#set")],
  fl (Y "getset_descriptor") none [(T "__weakref__" 1700), (R 1095), (U "ExceptionGroup.__weakref__"), N],
  fl (Y "super") none [(R 1095), (R 1095), (R 1095)],
  fl (Y "builtin_function_or_method") none [(U "object.__init_subclass__"), (R 1095)],
  sq (Y "tuple") none [] 0,
  fl (Y "builtin_function_or_method") none [(U "type.__prepare__"), (Y "type")],
  di (Y "dict") none [e P "__module__" 1724 (T "thinstack.tcb" 1705), e P "__qualname__" 1726 (T "Limits" 1725), e P "__firstlineno__" 1728 (I 784 1727), e P "__init__" 1745 (R 1113), e P "__static_attributes__" 1756 (R 1114)] 5,
  sq (Y "tuple") none [] 0,
  fl N none [(I 786 0), (I 4 0), (R 1112)],
  fl (Y "code") none [(T "Limits" 1719), (T "Limits" 1720), (T "/claim/cut.py" 1721), (I 784 0), (I 0 0), (I 0 0), (I 0 0), (I 0 0), (R 1103), (B false), (I 181 0), (R 1104), N, N, N, N, (I 1722 0), (I 784 0), (T "/claim/cut.py" 1723)],
  sl (pl (Y "frame") none) [some (R 1105), some (R 3), some (R 1102), none, some (T "thinstack.tcb" 1705), none, some (R 0)],
  sq (Y "tuple") none [] 0,
  fl N none [],
  sq (Y "tuple") none [(T "self" 1732), (T "ring" 1733), (T "mss" 1734), (T "send_room" 1735), (T "receive_room" 1736), (T "first_timeout" 1737), (T "least_timeout" 1738), (T "most_timeout" 1739), (T "most_tries" 1740), (T "ack_delay" 1741), (T "time_wait" 1742)] 0,
  sq (Y "tuple") none [] 0,
  fn N none (sb 78 0) "Limits.__init__" 0 [] N N N N none N N 0,
  fl (Y "code") none [(T "__init__" 1729), (T "Limits.__init__" 1730), (T "/claim/cut.py" 1731), (I 786 0), (I 11 0), (I 0 0), (I 0 0), (I 3 0), (R 1107), (B true), (I 181 0), (R 1108), N, (R 1109), (R 1110), (R 1111), (I 1743 0), (I 786 0), (T "/claim/cut.py" 1744)],
  fn (Y "function") none (sb 78 0) "Limits.__init__" 3 [] N N N (T "thinstack.tcb" 1705) none (R 1112) N 0,
  sq (Y "tuple") none [(T "ack_delay" 1746), (T "first_timeout" 1747), (T "least_timeout" 1748), (T "most_timeout" 1749), (T "most_tries" 1750), (T "mss" 1751), (T "receive_room" 1752), (T "ring" 1753), (T "send_room" 1754), (T "time_wait" 1755)] 0,
  di (Y "dict") none [e P "__module__" 1724 (T "thinstack.tcb" 1705), e P "__firstlineno__" 1728 (I 784 1727), e P "__init__" 1745 (R 1113), e P "__static_attributes__" 1756 (R 1114), e P "__dict__" 1758 (R 1117), e P "__weakref__" 1760 (R 1118), e P "__doc__" 1761 N] 4,
  sl (cl (Y "type") none "Limits" [(Y "object")] [(R 1116), (Y "object")] 1115 "Limits" true [] [] false false) [none, none, some (T "Limits" 1717), some (T "Limits" 1725), some (U "object.__new__"), some (B true)],
  fl (Y "getset_descriptor") none [(T "__dict__" 1757), (R 1116), (U "function.__dict__"), (U "function.__dict__#set")],
  fl (Y "getset_descriptor") none [(T "__weakref__" 1759), (R 1116), (U "ExceptionGroup.__weakref__"), N],
  fl (Y "super") none [(R 1116), (R 1116), (R 1116)]]
noncomputable def c35 (P : Params) : List Obj := [
  fl (Y "builtin_function_or_method") none [(U "object.__init_subclass__"), (R 1116)],
  sq (Y "tuple") none [] 0,
  fl N none [],
  sq (Y "tuple") none [(T "limits" 1767), (T "estimate" 1768)] 0,
  sq (Y "tuple") none [] 0,
  fn N none (sa 79) "clock_of" 0 [] N N N N none N N 0,
  fl (Y "code") none [(T "clock_of" 1764), (T "clock_of" 1765), (T "/claim/cut.py" 1766), (I 797 0), (I 1 0), (I 0 0), (I 0 0), (I 3 0), (R 1121), (B true), (I 181 0), (R 1122), N, (R 1123), (R 1124), (R 1125), (I 1769 0), (I 797 0), (T "/claim/cut.py" 1770)],
  fn (Y "function") none (sa 79) "clock_of" 3 [] N N N (T "thinstack.tcb" 1705) none (R 1126) N 0,
  sq (Y "tuple") none [] 0,
  fl (Y "builtin_function_or_method") none [(U "type.__prepare__"), (Y "type")],
  di (Y "dict") none [e P "__module__" 1779 (T "thinstack.tcb" 1705), e P "__qualname__" 1781 (T "Tcb" 1780), e P "__firstlineno__" 1783 (I 800 1782), e P "__init__" 1794 (R 1141), e P "window_now" 1801 (R 1148), e P "make" 1815 (R 1156), e P "__static_attributes__" 1830 (R 1157)] 7,
  sq (Y "tuple") none [] 0,
  fl N none [(I 802 0), (I 4 0), (R 1140), (I 818 0), (I 4 0), (R 1147), (I 823 0), (I 4 0), (R 1155)],
  fl (Y "code") none [(T "Tcb" 1774), (T "Tcb" 1775), (T "/claim/cut.py" 1776), (I 800 0), (I 0 0), (I 0 0), (I 0 0), (I 0 0), (R 1131), (B false), (I 181 0), (R 1132), N, N, N, N, (I 1777 0), (I 800 0), (T "/claim/cut.py" 1778)],
  sl (pl (Y "frame") none) [some (R 1133), some (R 3), some (R 1130), none, some (T "thinstack.tcb" 1705), none, some (R 0)],
  sq (Y "tuple") none [] 0,
  fl N none [],
  sq (Y "tuple") none [(T "self" 1787), (T "limits" 1788), (T "local" 1789), (T "remote" 1790), (T "iss" 1791)] 0,
  sq (Y "tuple") none [] 0,
  fn N none (sb 80 0) "Tcb.__init__" 0 [] N N N N none N N 0,
  fl (Y "code") none [(T "__init__" 1784), (T "Tcb.__init__" 1785), (T "/claim/cut.py" 1786), (I 802 0), (I 5 0), (I 0 0), (I 0 0), (I 3 0), (R 1135), (B true), (I 181 0), (R 1136), N, (R 1137), (R 1138), (R 1139), (I 1792 0), (I 802 0), (T "/claim/cut.py" 1793)],
  fn (Y "function") none (sb 80 0) "Tcb.__init__" 3 [] N N N (T "thinstack.tcb" 1705) none (R 1140) N 0,
  sq (Y "tuple") none [] 0,
  fl N none [],
  sq (Y "tuple") none [(T "self" 1798)] 0,
  sq (Y "tuple") none [] 0,
  fn N none (sb 80 1) "Tcb.window_now" 0 [] N N N N none N N 0,
  fl (Y "code") none [(T "window_now" 1795), (T "Tcb.window_now" 1796), (T "/claim/cut.py" 1797), (I 818 0), (I 1 0), (I 0 0), (I 0 0), (I 3 0), (R 1142), (B true), (I 181 0), (R 1143), N, (R 1144), (R 1145), (R 1146), (I 1799 0), (I 818 0), (T "/claim/cut.py" 1800)],
  fn (Y "function") none (sb 80 1) "Tcb.window_now" 3 [] N N N (T "thinstack.tcb" 1705) none (R 1147) N 0,
  sq (Y "tuple") none [(Value.bytes #[] 1802)] 0,
  sq (Y "tuple") none [] 0,
  fl N none []]
noncomputable def c36 (P : Params) : List Obj := [
  sq (Y "tuple") none [(T "self" 1806), (T "flags" 1807), (T "seq" 1808), (T "payload" 1809), (T "ack" 1810), (T "options" 1811), (T "window" 1812)] 0,
  sq (Y "tuple") none [] 0,
  fn N none (sb 80 2) "Tcb.make" 0 [] N N N N none N N 0,
  fl (Y "code") none [(T "make" 1803), (T "Tcb.make" 1804), (T "/claim/cut.py" 1805), (I 823 0), (I 4 0), (I 0 0), (I 0 0), (I 3 0), (R 1150), (B true), (I 181 0), (R 1151), N, (R 1152), (R 1153), (R 1154), (I 1813 0), (I 823 0), (T "/claim/cut.py" 1814)],
  fn (Y "function") none (sb 80 2) "Tcb.make" 3 [] (R 1149) N N (T "thinstack.tcb" 1705) none (R 1155) N 0,
  sq (Y "tuple") none [(T "acks" 1816), (T "clock" 1817), (T "congestion" 1818), (T "error" 1819), (T "is_nagle" 1820), (T "limits" 1821), (T "local" 1822), (T "probes" 1823), (T "receiver" 1824), (T "remote" 1825), (T "sender" 1826), (T "state" 1827), (T "unanswered" 1828), (T "wheel" 1829)] 0,
  di (Y "dict") none [e P "__module__" 1779 (T "thinstack.tcb" 1705), e P "__firstlineno__" 1783 (I 800 1782), e P "__init__" 1794 (R 1141), e P "window_now" 1801 (R 1148), e P "make" 1815 (R 1156), e P "__static_attributes__" 1830 (R 1157), e P "__dict__" 1832 (R 1160), e P "__weakref__" 1834 (R 1161), e P "__doc__" 1835 N] 4,
  sl (cl (Y "type") none "Tcb" [(Y "object")] [(R 1159), (Y "object")] 1158 "Tcb" true [] [] false false) [none, none, some (T "Tcb" 1772), some (T "Tcb" 1780), some (U "object.__new__"), some (B true)],
  fl (Y "getset_descriptor") none [(T "__dict__" 1831), (R 1159), (U "function.__dict__"), (U "function.__dict__#set")],
  fl (Y "getset_descriptor") none [(T "__weakref__" 1833), (R 1159), (U "ExceptionGroup.__weakref__"), N],
  fl (Y "super") none [(R 1159), (R 1159), (R 1159)],
  fl (Y "builtin_function_or_method") none [(U "object.__init_subclass__"), (R 1159)],
  sq (Y "tuple") none [] 0,
  fl N none [],
  sq (Y "tuple") none [(T "tcb" 1845), (T "event" 1846), (T "state" 1847)] 0,
  sq (Y "tuple") none [] 0,
  fn N none (sa 83) "change_state" 0 [] N N N N none N N 0,
  fl (Y "code") none [(T "change_state" 1842), (T "change_state" 1843), (T "/claim/cut.py" 1844), (I 835 0), (I 2 0), (I 0 0), (I 0 0), (I 3 0), (R 1164), (B true), (I 181 0), (R 1165), N, (R 1166), (R 1167), (R 1168), (I 1848 0), (I 835 0), (T "/claim/cut.py" 1849)],
  fn (Y "function") none (sa 83) "change_state" 3 [] N N N (T "thinstack.tcp_user" 1838) none (R 1169) N 0,
  sq (Y "tuple") none [] 0,
  fl N none [],
  sq (Y "tuple") none [(T "tcb" 1854), (T "error" 1855), (T "key" 1856)] 0,
  sq (Y "tuple") none [] 0,
  fn N none (sa 84) "closed" 0 [] N N N N none N N 0,
  fl (Y "code") none [(T "closed" 1851), (T "closed" 1852), (T "/claim/cut.py" 1853), (I 840 0), (I 2 0), (I 0 0), (I 0 0), (I 3 0), (R 1171), (B true), (I 181 0), (R 1172), N, (R 1173), (R 1174), (R 1175), (I 1857 0), (I 840 0), (T "/claim/cut.py" 1858)],
  fn (Y "function") none (sa 84) "closed" 3 [] N N N (T "thinstack.tcp_user" 1838) none (R 1176) N 0,
  sq (Y "tuple") none [] 0,
  fl N none [],
  sq (Y "tuple") none [(T "tcb" 1863), (T "now" 1864), (T "key" 1865)] 0,
  sq (Y "tuple") none [] 0,
  fn N none (sa 85) "enter_time_wait" 0 [] N N N N none N N 0,
  fl (Y "code") none [(T "enter_time_wait" 1860), (T "enter_time_wait" 1861), (T "/claim/cut.py" 1862), (I 846 0), (I 2 0), (I 0 0), (I 0 0), (I 3 0), (R 1178), (B true), (I 181 0), (R 1179), N, (R 1180), (R 1181), (R 1182), (I 1866 0), (I 846 0), (T "/claim/cut.py" 1867)]]
noncomputable def c37 (P : Params) : List Obj := [
  fn (Y "function") none (sa 85) "enter_time_wait" 3 [] N N N (T "thinstack.tcp_user" 1838) none (R 1183) N 0,
  sq (Y "tuple") none [] 0,
  fl N none [],
  sq (Y "tuple") none [(T "tcb" 1872), (T "now" 1873)] 0,
  sq (Y "tuple") none [] 0,
  fn N none (sa 86) "open_active" 0 [] N N N N none N N 0,
  fl (Y "code") none [(T "open_active" 1869), (T "open_active" 1870), (T "/claim/cut.py" 1871), (I 851 0), (I 2 0), (I 0 0), (I 0 0), (I 3 0), (R 1185), (B true), (I 181 0), (R 1186), N, (R 1187), (R 1188), (R 1189), (I 1874 0), (I 851 0), (T "/claim/cut.py" 1875)],
  fn (Y "function") none (sa 86) "open_active" 3 [] N N N (T "thinstack.tcp_user" 1838) none (R 1190) N 0,
  sq (Y "tuple") none [] 0,
  fl N none [],
  sq (Y "tuple") none [(T "tcb" 1880)] 0,
  sq (Y "tuple") none [] 0,
  fn N none (sa 87) "ack_segment" 0 [] N N N N none N N 0,
  fl (Y "code") none [(T "ack_segment" 1877), (T "ack_segment" 1878), (T "/claim/cut.py" 1879), (I 854 0), (I 1 0), (I 0 0), (I 0 0), (I 3 0), (R 1192), (B true), (I 181 0), (R 1193), N, (R 1194), (R 1195), (R 1196), (I 1881 0), (I 854 0), (T "/claim/cut.py" 1882)],
  fn (Y "function") none (sa 87) "ack_segment" 3 [] N N N (T "thinstack.tcp_user" 1838) none (R 1197) N 0,
  sq (Y "tuple") none [] 0,
  fl N none [],
  sq (Y "tuple") none [(T "tcb" 1887)] 0,
  sq (Y "tuple") none [] 0,
  fn N none (sa 88) "syn_segment" 0 [] N N N N none N N 0,
  fl (Y "code") none [(T "syn_segment" 1884), (T "syn_segment" 1885), (T "/claim/cut.py" 1886), (I 856 0), (I 1 0), (I 0 0), (I 0 0), (I 3 0), (R 1199), (B true), (I 181 0), (R 1200), N, (R 1201), (R 1202), (R 1203), (I 1888 0), (I 856 0), (T "/claim/cut.py" 1889)],
  fn (Y "function") none (sa 88) "syn_segment" 3 [] N N N (T "thinstack.tcp_user" 1838) none (R 1204) N 0,
  sq (Y "tuple") none [] 0,
  fl N none [],
  sq (Y "tuple") none [(T "has_push" 1894), (T "has_fin" 1895), (T "flags" 1896)] 0,
  sq (Y "tuple") none [] 0,
  fn N none (sa 89) "flags_of" 0 [] N N N N none N N 0,
  fl (Y "code") none [(T "flags_of" 1891), (T "flags_of" 1892), (T "/claim/cut.py" 1893), (I 858 0), (I 2 0), (I 0 0), (I 0 0), (I 3 0), (R 1206), (B true), (I 181 0), (R 1207), N, (R 1208), (R 1209), (R 1210), (I 1897 0), (I 858 0), (T "/claim/cut.py" 1898)],
  fn (Y "function") none (sa 89) "flags_of" 3 [] N N N (T "thinstack.tcp_user" 1838) none (R 1211) N 0,
  sq (Y "tuple") none [] 0,
  fl N none [],
  sq (Y "tuple") none [(T "tcb" 1903), (T "state" 1904)] 0]
noncomputable def c38 (P : Params) : List Obj := [
  sq (Y "tuple") none [] 0,
  fn N none (sa 90) "take_asked_fin" 0 [] N N N N none N N 0,
  fl (Y "code") none [(T "take_asked_fin" 1900), (T "take_asked_fin" 1901), (T "/claim/cut.py" 1902), (I 865 0), (I 1 0), (I 0 0), (I 0 0), (I 3 0), (R 1213), (B true), (I 181 0), (R 1214), N, (R 1215), (R 1216), (R 1217), (I 1905 0), (I 865 0), (T "/claim/cut.py" 1906)],
  fn (Y "function") none (sa 90) "take_asked_fin" 3 [] N N N (T "thinstack.tcp_user" 1838) none (R 1218) N 0,
  sq (Y "tuple") none [] 0,
  fl N none [],
  sq (Y "tuple") none [(T "tcb" 1911), (T "now" 1912), (T "found" 1913), (T "ring" 1914), (T "ahead" 1915), (T "seq" 1916), (T "octets" 1917), (T "has_push" 1918), (T "has_fin" 1919), (T "end" 1920)] 0,
  sq (Y "tuple") none [] 0,
  fn N none (sa 91) "data_segments" 0 [] N N N N none N N 0,
  fl (Y "code") none [(T "data_segments" 1908), (T "data_segments" 1909), (T "/claim/cut.py" 1910), (I 870 0), (I 2 0), (I 0 0), (I 0 0), (I 3 0), (R 1220), (B true), (I 181 0), (R 1221), N, (R 1222), (R 1223), (R 1224), (I 1921 0), (I 870 0), (T "/claim/cut.py" 1922)],
  fn (Y "function") none (sa 91) "data_segments" 3 [] N N N (T "thinstack.tcp_user" 1838) none (R 1225) N 0,
  sq (Y "tuple") none [] 0,
  fl N none [],
  sq (Y "tuple") none [(T "tcb" 1927), (T "now" 1928), (T "found" 1929)] 0,
  sq (Y "tuple") none [] 0,
  fn N none (sa 92) "output" 0 [] N N N N none N N 0,
  fl (Y "code") none [(T "output" 1924), (T "output" 1925), (T "/claim/cut.py" 1926), (I 880 0), (I 2 0), (I 0 0), (I 0 0), (I 3 0), (R 1227), (B true), (I 181 0), (R 1228), N, (R 1229), (R 1230), (R 1231), (I 1930 0), (I 880 0), (T "/claim/cut.py" 1931)],
  fn (Y "function") none (sa 92) "output" 3 [] N N N (T "thinstack.tcp_user" 1838) none (R 1232) N 0,
  sq (Y "tuple") none [] 0,
  fl N none [],
  sq (Y "tuple") none [(T "tcb" 1936), (T "now" 1937)] 0,
  sq (Y "tuple") none [] 0,
  fn N none (sa 93) "set_resend" 0 [] N N N N none N N 0,
  fl (Y "code") none [(T "set_resend" 1933), (T "set_resend" 1934), (T "/claim/cut.py" 1935), (I 891 0), (I 2 0), (I 0 0), (I 0 0), (I 3 0), (R 1234), (B true), (I 181 0), (R 1235), N, (R 1236), (R 1237), (R 1238), (I 1938 0), (I 891 0), (T "/claim/cut.py" 1939)],
  fn (Y "function") none (sa 93) "set_resend" 3 [] N N N (T "thinstack.tcp_user" 1838) none (R 1239) N 0,
  sq (Y "tuple") none [] 0,
  fl N none [],
  sq (Y "tuple") none [(T "tcb" 1944), (T "now" 1945)] 0,
  sq (Y "tuple") none [] 0,
  fn N none (sa 94) "keep_timers" 0 [] N N N N none N N 0,
  fl (Y "code") none [(T "keep_timers" 1941), (T "keep_timers" 1942), (T "/claim/cut.py" 1943), (I 896 0), (I 2 0), (I 0 0), (I 0 0), (I 3 0), (R 1241), (B true), (I 181 0), (R 1242), N, (R 1243), (R 1244), (R 1245), (I 1946 0), (I 896 0), (T "/claim/cut.py" 1947)],
  fn (Y "function") none (sa 94) "keep_timers" 3 [] N N N (T "thinstack.tcp_user" 1838) none (R 1246) N 0]
noncomputable def c39 (P : Params) : List Obj := [
  sq (Y "tuple") none [] 0,
  fl N none [],
  sq (Y "tuple") none [(T "tcb" 1952), (T "estimate" 1953)] 0,
  sq (Y "tuple") none [] 0,
  fn N none (sa 95) "probe_wait" 0 [] N N N N none N N 0,
  fl (Y "code") none [(T "probe_wait" 1949), (T "probe_wait" 1950), (T "/claim/cut.py" 1951), (I 908 0), (I 1 0), (I 0 0), (I 0 0), (I 3 0), (R 1248), (B true), (I 181 0), (R 1249), N, (R 1250), (R 1251), (R 1252), (I 1954 0), (I 908 0), (T "/claim/cut.py" 1955)],
  fn (Y "function") none (sa 95) "probe_wait" 3 [] N N N (T "thinstack.tcp_user" 1838) none (R 1253) N 0,
  sq (Y "tuple") none [] 0,
  fl N none [],
  sq (Y "tuple") none [(T "tcb" 1960), (T "seq" 1961), (T "octets" 1962), (T "has_syn" 1963), (T "has_fin" 1964)] 0,
  sq (Y "tuple") none [] 0,
  fn N none (sa 96) "segment_again" 0 [] N N N N none N N 0,
  fl (Y "code") none [(T "segment_again" 1957), (T "segment_again" 1958), (T "/claim/cut.py" 1959), (I 911 0), (I 1 0), (I 0 0), (I 0 0), (I 3 0), (R 1255), (B true), (I 181 0), (R 1256), N, (R 1257), (R 1258), (R 1259), (I 1965 0), (I 911 0), (T "/claim/cut.py" 1966)],
  fn (Y "function") none (sa 96) "segment_again" 3 [] N N N (T "thinstack.tcp_user" 1838) none (R 1260) N 0,
  sq (Y "tuple") none [] 0,
  fl N none [],
  sq (Y "tuple") none [(T "seq" 1973), (T "length" 1974), (T "expected" 1975), (T "window" 1976), (T "ring" 1977)] 0,
  sq (Y "tuple") none [] 0,
  fn N none (sa 98) "is_acceptable" 0 [] N N N N none N N 0,
  fl (Y "code") none [(T "is_acceptable" 1970), (T "is_acceptable" 1971), (T "/claim/cut.py" 1972), (I 918 0), (I 5 0), (I 0 0), (I 0 0), (I 3 0), (R 1262), (B true), (I 181 0), (R 1263), N, (R 1264), (R 1265), (R 1266), (I 1978 0), (I 918 0), (T "/claim/cut.py" 1979)],
  fn (Y "function") none (sa 98) "is_acceptable" 3 [] N N N (T "thinstack.windows" 1968) none (R 1267) N 0,
  sq (Y "tuple") none [] 0,
  fl N none [],
  sq (Y "tuple") none [(T "ack" 1984), (T "una" 1985), (T "following" 1986), (T "ring" 1987), (T "gap" 1988)] 0,
  sq (Y "tuple") none [] 0,
  fn N none (sa 99) "is_new_ack" 0 [] N N N N none N N 0,
  fl (Y "code") none [(T "is_new_ack" 1981), (T "is_new_ack" 1982), (T "/claim/cut.py" 1983), (I 926 0), (I 4 0), (I 0 0), (I 0 0), (I 3 0), (R 1269), (B true), (I 181 0), (R 1270), N, (R 1271), (R 1272), (R 1273), (I 1989 0), (I 926 0), (T "/claim/cut.py" 1990)],
  fn (Y "function") none (sa 99) "is_new_ack" 3 [] N N N (T "thinstack.windows" 1968) none (R 1274) N 0,
  sq (Y "tuple") none [] 0,
  fl N none [],
  sq (Y "tuple") none [(T "tcb" 2001), (T "segment" 2002), (T "now" 2003)] 0,
  sq (Y "tuple") none [] 0]
noncomputable def c40 (P : Params) : List Obj := [
  fn N none (sa 103) "arrive" 0 [] N N N N none N N 0,
  fl (Y "code") none [(T "arrive" 1998), (T "arrive" 1999), (T "/claim/cut.py" 2000), (I 932 0), (I 3 0), (I 0 0), (I 0 0), (I 3 0), (R 1276), (B true), (I 181 0), (R 1277), N, (R 1278), (R 1279), (R 1280), (I 2004 0), (I 932 0), (T "/claim/cut.py" 2005)],
  fn (Y "function") none (sa 103) "arrive" 3 [] N N N (T "thinstack.tcp_input" 1992) none (R 1281) N 0,
  sq (Y "tuple") none [] 0,
  fl N none [],
  sq (Y "tuple") none [(T "segment" 2010)] 0,
  sq (Y "tuple") none [] 0,
  fn N none (sa 104) "listed" 0 [] N N N N none N N 0,
  fl (Y "code") none [(T "listed" 2007), (T "listed" 2008), (T "/claim/cut.py" 2009), (I 940 0), (I 1 0), (I 0 0), (I 0 0), (I 3 0), (R 1283), (B true), (I 181 0), (R 1284), N, (R 1285), (R 1286), (R 1287), (I 2011 0), (I 940 0), (T "/claim/cut.py" 2012)],
  fn (Y "function") none (sa 104) "listed" 3 [] N N N (T "thinstack.tcp_input" 1992) none (R 1288) N 0,
  sq (Y "tuple") none [(I 4294967296 1994)] 0,
  sq (Y "tuple") none [] 0,
  fl N none [],
  sq (Y "tuple") none [(T "segment" 2017), (T "ring" 2018), (T "ack" 2019)] 0,
  sq (Y "tuple") none [] 0,
  fn N none (sa 105) "reset_for" 0 [] N N N N none N N 0,
  fl (Y "code") none [(T "reset_for" 2014), (T "reset_for" 2015), (T "/claim/cut.py" 2016), (I 942 0), (I 2 0), (I 0 0), (I 0 0), (I 3 0), (R 1291), (B true), (I 181 0), (R 1292), N, (R 1293), (R 1294), (R 1295), (I 2020 0), (I 942 0), (T "/claim/cut.py" 2021)],
  fn (Y "function") none (sa 105) "reset_for" 3 [] (R 1290) N N (T "thinstack.tcp_input" 1992) none (R 1296) N 0,
  sq (Y "tuple") none [] 0,
  fl N none [],
  sq (Y "tuple") none [(T "tcb" 2026), (T "segment" 2027), (T "limits" 2028), (T "told" 2029)] 0,
  sq (Y "tuple") none [] 0,
  fn N none (sa 106) "take_syn" 0 [] N N N N none N N 0,
  fl (Y "code") none [(T "take_syn" 2023), (T "take_syn" 2024), (T "/claim/cut.py" 2025), (I 949 0), (I 2 0), (I 0 0), (I 0 0), (I 3 0), (R 1298), (B true), (I 181 0), (R 1299), N, (R 1300), (R 1301), (R 1302), (I 2030 0), (I 949 0), (T "/claim/cut.py" 2031)],
  fn (Y "function") none (sa 106) "take_syn" 3 [] N N N (T "thinstack.tcp_input" 1992) none (R 1303) N 0,
  sq (Y "tuple") none [] 0,
  fl N none [],
  sq (Y "tuple") none [(T "tcb" 2036), (T "segment" 2037), (T "now" 2038)] 0,
  sq (Y "tuple") none [] 0,
  fn N none (sa 107) "in_listen" 0 [] N N N N none N N 0,
  fl (Y "code") none [(T "in_listen" 2033), (T "in_listen" 2034), (T "/claim/cut.py" 2035), (I 955 0), (I 3 0), (I 0 0), (I 0 0), (I 3 0), (R 1305), (B true), (I 181 0), (R 1306), N, (R 1307), (R 1308), (R 1309), (I 2039 0), (I 955 0), (T "/claim/cut.py" 2040)],
  fn (Y "function") none (sa 107) "in_listen" 3 [] N N N (T "thinstack.tcp_input" 1992) none (R 1310) N 0]
noncomputable def c41 (P : Params) : List Obj := [
  sq (Y "tuple") none [] 0,
  fl N none [],
  sq (Y "tuple") none [(T "tcb" 2045), (T "segment" 2046), (T "now" 2047), (T "ring" 2048)] 0,
  sq (Y "tuple") none [] 0,
  fn N none (sa 108) "in_syn_sent" 0 [] N N N N none N N 0,
  fl (Y "code") none [(T "in_syn_sent" 2042), (T "in_syn_sent" 2043), (T "/claim/cut.py" 2044), (I 966 0), (I 3 0), (I 0 0), (I 0 0), (I 3 0), (R 1312), (B true), (I 181 0), (R 1313), N, (R 1314), (R 1315), (R 1316), (I 2049 0), (I 966 0), (T "/claim/cut.py" 2050)],
  fn (Y "function") none (sa 108) "in_syn_sent" 3 [] N N N (T "thinstack.tcp_input" 1992) none (R 1317) N 0,
  sq (Y "tuple") none [] 0,
  fl N none [],
  sq (Y "tuple") none [(T "tcb" 2055), (T "segment" 2056), (T "now" 2057), (T "found" 2058)] 0,
  sq (Y "tuple") none [] 0,
  fn N none (sa 109) "opened_from_both" 0 [] N N N N none N N 0,
  fl (Y "code") none [(T "opened_from_both" 2052), (T "opened_from_both" 2053), (T "/claim/cut.py" 2054), (I 985 0), (I 3 0), (I 0 0), (I 0 0), (I 3 0), (R 1319), (B true), (I 181 0), (R 1320), N, (R 1321), (R 1322), (R 1323), (I 2059 0), (I 985 0), (T "/claim/cut.py" 2060)],
  fn (Y "function") none (sa 109) "opened_from_both" 3 [] N N N (T "thinstack.tcp_input" 1992) none (R 1324) N 0,
  sq (Y "tuple") none [] 0,
  fl N none [],
  sq (Y "tuple") none [(T "segment" 2065), (T "ring" 2066)] 0,
  sq (Y "tuple") none [] 0,
  fn N none (sa 110) "without_syn" 0 [] N N N N none N N 0,
  fl (Y "code") none [(T "without_syn" 2062), (T "without_syn" 2063), (T "/claim/cut.py" 2064), (I 992 0), (I 2 0), (I 0 0), (I 0 0), (I 3 0), (R 1326), (B true), (I 181 0), (R 1327), N, (R 1328), (R 1329), (R 1330), (I 2067 0), (I 992 0), (T "/claim/cut.py" 2068)],
  fn (Y "function") none (sa 110) "without_syn" 3 [] N N N (T "thinstack.tcp_input" 1992) none (R 1331) N 0,
  sq (Y "tuple") none [] 0,
  fl N none [],
  sq (Y "tuple") none [(T "tcb" 2073), (T "segment" 2074), (T "now" 2075), (T "ring" 2076), (T "found" 2077)] 0,
  sq (Y "tuple") none [] 0,
  fn N none (sa 111) "in_others" 0 [] N N N N none N N 0,
  fl (Y "code") none [(T "in_others" 2070), (T "in_others" 2071), (T "/claim/cut.py" 2072), (I 996 0), (I 3 0), (I 0 0), (I 0 0), (I 3 0), (R 1333), (B true), (I 181 0), (R 1334), N, (R 1335), (R 1336), (R 1337), (I 2078 0), (I 996 0), (T "/claim/cut.py" 2079)],
  fn (Y "function") none (sa 111) "in_others" 3 [] N N N (T "thinstack.tcp_input" 1992) none (R 1338) N 0,
  sq (Y "tuple") none [] 0,
  fl N none [],
  sq (Y "tuple") none [(T "tcb" 2084), (T "segment" 2085), (T "receiver" 2086), (T "window" 2087)] 0,
  sq (Y "tuple") none [] 0]
noncomputable def c42 (P : Params) : List Obj := [
  fn N none (sa 112) "is_let_in" 0 [] N N N N none N N 0,
  fl (Y "code") none [(T "is_let_in" 2081), (T "is_let_in" 2082), (T "/claim/cut.py" 2083), (I 1019 0), (I 2 0), (I 0 0), (I 0 0), (I 3 0), (R 1340), (B true), (I 181 0), (R 1341), N, (R 1342), (R 1343), (R 1344), (I 2088 0), (I 1019 0), (T "/claim/cut.py" 2089)],
  fn (Y "function") none (sa 112) "is_let_in" 3 [] N N N (T "thinstack.tcp_input" 1992) none (R 1345) N 0,
  sq (Y "tuple") none [] 0,
  fl N none [],
  sq (Y "tuple") none [(T "tcb" 2094), (T "segment" 2095), (T "now" 2096), (T "found" 2097)] 0,
  sq (Y "tuple") none [] 0,
  fn N none (sa 113) "turned_down" 0 [] N N N N none N N 0,
  fl (Y "code") none [(T "turned_down" 2091), (T "turned_down" 2092), (T "/claim/cut.py" 2093), (I 1025 0), (I 3 0), (I 0 0), (I 0 0), (I 3 0), (R 1347), (B true), (I 181 0), (R 1348), N, (R 1349), (R 1350), (R 1351), (I 2098 0), (I 1025 0), (T "/claim/cut.py" 2099)],
  fn (Y "function") none (sa 113) "turned_down" 3 [] N N N (T "thinstack.tcp_input" 1992) none (R 1352) N 0,
  sq (Y "tuple") none [] 0,
  fl N none [],
  sq (Y "tuple") none [(T "tcb" 2104), (T "segment" 2105)] 0,
  sq (Y "tuple") none [] 0,
  fn N none (sa 114) "is_old_acknowledgement" 0 [] N N N N none N N 0,
  fl (Y "code") none [(T "is_old_acknowledgement" 2101), (T "is_old_acknowledgement" 2102), (T "/claim/cut.py" 2103), (I 1037 0), (I 2 0), (I 0 0), (I 0 0), (I 3 0), (R 1354), (B true), (I 181 0), (R 1355), N, (R 1356), (R 1357), (R 1358), (I 2106 0), (I 1037 0), (T "/claim/cut.py" 2107)],
  fn (Y "function") none (sa 114) "is_old_acknowledgement" 3 [] N N N (T "thinstack.tcp_input" 1992) none (R 1359) N 0,
  sq (Y "tuple") none [] 0,
  fl N none [],
  sq (Y "tuple") none [(T "tcb" 2112), (T "segment" 2113)] 0,
  sq (Y "tuple") none [] 0,
  fn N none (sa 115) "take_reset" 0 [] N N N N none N N 0,
  fl (Y "code") none [(T "take_reset" 2109), (T "take_reset" 2110), (T "/claim/cut.py" 2111), (I 1041 0), (I 2 0), (I 0 0), (I 0 0), (I 3 0), (R 1361), (B true), (I 181 0), (R 1362), N, (R 1363), (R 1364), (R 1365), (I 2114 0), (I 1041 0), (T "/claim/cut.py" 2115)],
  fn (Y "function") none (sa 115) "take_reset" 3 [] N N N (T "thinstack.tcp_input" 1992) none (R 1366) N 0,
  sq (Y "tuple") none [] 0,
  fl N none [],
  sq (Y "tuple") none [(T "tcb" 2120), (T "ack" 2121), (T "sender" 2122), (T "ring" 2123)] 0,
  sq (Y "tuple") none [] 0,
  fn N none (sa 116) "is_too_far" 0 [] N N N N none N N 0,
  fl (Y "code") none [(T "is_too_far" 2117), (T "is_too_far" 2118), (T "/claim/cut.py" 2119), (I 1051 0), (I 2 0), (I 0 0), (I 0 0), (I 3 0), (R 1368), (B true), (I 181 0), (R 1369), N, (R 1370), (R 1371), (R 1372), (I 2124 0), (I 1051 0), (T "/claim/cut.py" 2125)],
  fn (Y "function") none (sa 116) "is_too_far" 3 [] N N N (T "thinstack.tcp_input" 1992) none (R 1373) N 0,
  sq (Y "tuple") none [] 0]
noncomputable def c43 (P : Params) : List Obj := [
  fl N none [],
  sq (Y "tuple") none [(T "tcb" 2130), (T "ack" 2131), (T "now" 2132), (T "octets" 2133), (T "is_syn" 2134), (T "is_fin" 2135)] 0,
  sq (Y "tuple") none [] 0,
  fn N none (sa 117) "take_ack" 0 [] N N N N none N N 0,
  fl (Y "code") none [(T "take_ack" 2127), (T "take_ack" 2128), (T "/claim/cut.py" 2129), (I 1055 0), (I 3 0), (I 0 0), (I 0 0), (I 3 0), (R 1375), (B true), (I 181 0), (R 1376), N, (R 1377), (R 1378), (R 1379), (I 2136 0), (I 1055 0), (T "/claim/cut.py" 2137)],
  fn (Y "function") none (sa 117) "take_ack" 3 [] N N N (T "thinstack.tcp_input" 1992) none (R 1380) N 0,
  sq (Y "tuple") none [] 0,
  fl N none [],
  sq (Y "tuple") none [(T "tcb" 2142), (T "segment" 2143), (T "now" 2144), (T "sender" 2145), (T "ring" 2146), (T "found" 2147), (T "is_fin" 2148)] 0,
  sq (Y "tuple") none [] 0,
  fn N none (sa 118) "take_acknowledgement" 0 [] N N N N none N N 0,
  fl (Y "code") none [(T "take_acknowledgement" 2139), (T "take_acknowledgement" 2140), (T "/claim/cut.py" 2141), (I 1062 0), (I 3 0), (I 0 0), (I 0 0), (I 3 0), (R 1382), (B true), (I 181 0), (R 1383), N, (R 1384), (R 1385), (R 1386), (I 2149 0), (I 1062 0), (T "/claim/cut.py" 2150)],
  fn (Y "function") none (sa 118) "take_acknowledgement" 3 [] N N N (T "thinstack.tcp_input" 1992) none (R 1387) N 0,
  sq (Y "tuple") none [] 0,
  fl N none [],
  sq (Y "tuple") none [(T "tcb" 2155), (T "segment" 2156), (T "now" 2157), (T "sender" 2158), (T "found" 2159)] 0,
  sq (Y "tuple") none [] 0,
  fn N none (sa 119) "take_duplicate" 0 [] N N N N none N N 0,
  fl (Y "code") none [(T "take_duplicate" 2152), (T "take_duplicate" 2153), (T "/claim/cut.py" 2154), (I 1077 0), (I 3 0), (I 0 0), (I 0 0), (I 3 0), (R 1389), (B true), (I 181 0), (R 1390), N, (R 1391), (R 1392), (R 1393), (I 2160 0), (I 1077 0), (T "/claim/cut.py" 2161)],
  fn (Y "function") none (sa 119) "take_duplicate" 3 [] N N N (T "thinstack.tcp_input" 1992) none (R 1394) N 0,
  sq (Y "tuple") none [] 0,
  fl N none [],
  sq (Y "tuple") none [(T "tcb" 2166), (T "now" 2167)] 0,
  sq (Y "tuple") none [] 0,
  fn N none (sa 120) "end_of_sending" 0 [] N N N N none N N 0,
  fl (Y "code") none [(T "end_of_sending" 2163), (T "end_of_sending" 2164), (T "/claim/cut.py" 2165), (I 1086 0), (I 2 0), (I 0 0), (I 0 0), (I 3 0), (R 1396), (B true), (I 181 0), (R 1397), N, (R 1398), (R 1399), (R 1400), (I 2168 0), (I 1086 0), (T "/claim/cut.py" 2169)],
  fn (Y "function") none (sa 120) "end_of_sending" 3 [] N N N (T "thinstack.tcp_input" 1992) none (R 1401) N 0,
  sq (Y "tuple") none [] 0,
  fl N none [],
  sq (Y "tuple") none [(T "tcb" 2174), (T "segment" 2175), (T "now" 2176), (T "receiver" 2177), (T "had_fin" 2178), (T "fresh" 2179), (T "is_in_order" 2180)] 0,
  sq (Y "tuple") none [] 0,
  fn N none (sa 121) "take_octets" 0 [] N N N N none N N 0]
noncomputable def c44 (P : Params) : List Obj := [
  fl (Y "code") none [(T "take_octets" 2171), (T "take_octets" 2172), (T "/claim/cut.py" 2173), (I 1093 0), (I 3 0), (I 0 0), (I 0 0), (I 3 0), (R 1403), (B true), (I 181 0), (R 1404), N, (R 1405), (R 1406), (R 1407), (I 2181 0), (I 1093 0), (T "/claim/cut.py" 2182)],
  fn (Y "function") none (sa 121) "take_octets" 3 [] N N N (T "thinstack.tcp_input" 1992) none (R 1408) N 0,
  sq (Y "tuple") none [] 0,
  fl N none [],
  sq (Y "tuple") none [(T "tcb" 2187), (T "now" 2188)] 0,
  sq (Y "tuple") none [] 0,
  fn N none (sa 122) "end_of_receiving" 0 [] N N N N none N N 0,
  fl (Y "code") none [(T "end_of_receiving" 2184), (T "end_of_receiving" 2185), (T "/claim/cut.py" 2186), (I 1113 0), (I 2 0), (I 0 0), (I 0 0), (I 3 0), (R 1410), (B true), (I 181 0), (R 1411), N, (R 1412), (R 1413), (R 1414), (I 2189 0), (I 1113 0), (T "/claim/cut.py" 2190)],
  fn (Y "function") none (sa 122) "end_of_receiving" 3 [] N N N (T "thinstack.tcp_input" 1992) none (R 1415) N 0,
  sq (Y "tuple") none [] 0,
  fl N none [],
  sq (Y "tuple") none [(T "tcb" 2195), (T "now" 2196), (T "found" 2197)] 0,
  sq (Y "tuple") none [] 0,
  fn N none (sa 123) "replies" 0 [] N N N N none N N 0,
  fl (Y "code") none [(T "replies" 2192), (T "replies" 2193), (T "/claim/cut.py" 2194), (I 1119 0), (I 2 0), (I 0 0), (I 0 0), (I 3 0), (R 1417), (B true), (I 181 0), (R 1418), N, (R 1419), (R 1420), (R 1421), (I 2198 0), (I 1119 0), (T "/claim/cut.py" 2199)],
  fn (Y "function") none (sa 123) "replies" 3 [] N N N (T "thinstack.tcp_input" 1992) none (R 1422) N 0,
  sq (Y "tuple") none [] 0,
  fl N none [],
  sq (Y "tuple") none [(T "script" 2206), (T "k" 2207), (T "cell" 2208), (T "great" 2209), (T "mixed" 2210)] 0,
  sq (Y "tuple") none [] 0,
  fn N none (sa 125) "_law_pool" 0 [] N N N N none N N 0,
  fl (Y "code") none [(T "_law_pool" 2203), (T "_law_pool" 2204), (T "/claim/cut.py" 2205), (I 1127 0), (I 2 0), (I 0 0), (I 0 0), (I 3 0), (R 1424), (B true), (I 181 0), (R 1425), N, (R 1426), (R 1427), (R 1428), (I 2211 0), (I 1127 0), (T "/claim/cut.py" 2212)],
  fn (Y "function") none (sa 125) "_law_pool" 3 [] N N N (T "law_pf0405_01" 2201) none (R 1429) N 0,
  sq (Y "tuple") none [] 0,
  fl N none [],
  sq (Y "tuple") none [(T "source" 2217), (T "top" 2218), (T "drawn" 2219)] 0,
  sq (Y "tuple") none [] 0,
  fn N none (sa 126) "_law_take" 0 [] N N N N none N N 0,
  fl (Y "code") none [(T "_law_take" 2214), (T "_law_take" 2215), (T "/claim/cut.py" 2216), (I 1132 0), (I 2 0), (I 0 0), (I 0 0), (I 3 0), (R 1431), (B true), (I 181 0), (R 1432), N, (R 1433), (R 1434), (R 1435), (I 2220 0), (I 1132 0), (T "/claim/cut.py" 2221)],
  fn (Y "function") none (sa 126) "_law_take" 3 [] N N N (T "law_pf0405_01" 2201) none (R 1436) N 0,
  sq (Y "tuple") none [] 0,
  fl N none []]
noncomputable def c45 (P : Params) : List Obj := [
  sq (Y "tuple") none [(T "source" 2226), (T "things" 2227)] 0,
  sq (Y "tuple") none [] 0,
  fn N none (sa 127) "_law_one" 0 [] N N N N none N N 0,
  fl (Y "code") none [(T "_law_one" 2223), (T "_law_one" 2224), (T "/claim/cut.py" 2225), (I 1139 0), (I 2 0), (I 0 0), (I 0 0), (I 3 0), (R 1438), (B true), (I 181 0), (R 1439), N, (R 1440), (R 1441), (R 1442), (I 2228 0), (I 1139 0), (T "/claim/cut.py" 2229)],
  fn (Y "function") none (sa 127) "_law_one" 3 [] N N N (T "law_pf0405_01" 2201) none (R 1443) N 0,
  sq (Y "tuple") none [] 0,
  fl N none [],
  sq (Y "tuple") none [(T "flags" 2234), (T "seq" 2235), (T "ack" 2236), (T "window" 2237), (T "iss" 2238), (T "stays" 2239), (T "begin" 2240), (T "has_ack" 2241), (T "has_syn" 2242), (T "has_rst" 2243), (T "awaited" 2244), (T "rows" 2245)] 0,
  sq (Y "tuple") none [] 0,
  fn N none (sa 128) "_law_due" 0 [] N N N N none N N 0,
  fl (Y "code") none [(T "_law_due" 2231), (T "_law_due" 2232), (T "/claim/cut.py" 2233), (I 1141 0), (I 5 0), (I 0 0), (I 0 0), (I 3 0), (R 1445), (B true), (I 181 0), (R 1446), N, (R 1447), (R 1448), (R 1449), (I 2246 0), (I 1141 0), (T "/claim/cut.py" 2247)],
  fn (Y "function") none (sa 128) "_law_due" 3 [] N N N (T "law_pf0405_01" 2201) none (R 1450) N 0,
  sq (Y "tuple") none [] 0,
  fl N none [],
  fn N none (sa 129) "_law_told" 0 [] N N N N none N N 0,
  fl (Y "code") none [(T "_law_told" 2249), (T "_law_told" 2250), (T "/claim/cut.py" 2251), (I 1157 0), (I 5 0), (I 0 0), (I 0 0), (I 3 0), (R 1452), (B true), (I 181 0), (R 1453), N, N, N, (R 1454), (I 2252 0), (I 1157 0), (T "/claim/cut.py" 2253)],
  fn (Y "function") none (sa 129) "_law_told" 3 [] N N N (T "law_pf0405_01" 2201) none (R 1455) N 0,
  sq (Y "tuple") none [] 0,
  fl N none [],
  sq (Y "tuple") none [(T "script" 2258), (T "source" 2259), (T "iss" 2260), (T "flags" 2261), (T "seq" 2262), (T "window" 2263), (T "ack" 2264)] 0,
  sq (Y "tuple") none [] 0,
  fn N none (sa 130) "law" 0 [] N N N N none N N 0,
  fl (Y "code") none [(T "law" 2255), (T "law" 2256), (T "/claim/cut.py" 2257), (I 1165 0), (I 1 0), (I 0 0), (I 0 0), (I 3 0), (R 1457), (B true), (I 181 0), (R 1458), N, (R 1459), (R 1460), (R 1461), (I 2265 0), (I 1165 0), (T "/claim/cut.py" 2266)],
  fn (Y "function") none (sa 130) "law" 3 [] N N N (T "law_pf0405_01" 2201) none (R 1462) N 0]
noncomputable def chunks (P : Params) : List (List Obj) := [c0 P, c1 P, c2 P, c3 P, c4 P, c5 P, c6 P, c7 P, c8 P, c9 P, c10 P, c11 P, c12 P, c13 P, c14 P, c15 P, c16 P, c17 P, c18 P, c19 P, c20 P, c21 P, c22 P, c23 P, c24 P, c25 P, c26 P, c27 P, c28 P, c29 P, c30 P, c31 P, c32 P, c33 P, c34 P, c35 P, c36 P, c37 P, c38 P, c39 P, c40 P, c41 P, c42 P, c43 P, c44 P, c45 P]
noncomputable def objAt (P : Params) (b : Nat) : Obj := ((chunks P).getD (b / 32) []).getD (b % 32) default
noncomputable def ents (P : Params) : List DictEntry := [e P "__doc__" 166 N, e P "__package__" 167 N, e P "__loader__" 168 (U "__main__.__loader__#opaque"), e P "__spec__" 169 N, e P "__annotations__" 170 (R 6), e P "__builtins__" 171 (R 4), e P "__file__" 173 (T "/claim/cut.py" 172), e P "__cached__" 174 N, e P "_wall" 193 (R 21), e P "plus" 204 (R 28), e P "distance" 213 (R 35), e P "is_before" 223 (R 42), e P "is_at_most" 232 (R 49), e P "is_within" 242 (R 56), e P "latest" 251 (R 63), e P "Assembly" 409 (R 155), e P "Receiver" 583 (R 289), e P "EVERY" 587 (I 2 586), e P "AckPolicy" 659 (R 346), e P "DUPLICATES" 663 (I 3 662), e P "Congestion" 773 (R 430), e P "MOST_SHIFT_retransmit" 777 (I 7 776), e P "RetransmitClock" 876 (R 507), e P "RttEstimate" 952 (R 563), e P "StackError" 983 (R 584), e P "FormError" 999 (R 597), e P "SizeError" 1015 (R 609), e P "StateError" 1031 (R 621), e P "SendQueue" 1103 (R 675), e P "PeerWindow" 1158 (R 710), e P "Sender" 1399 (R 901), e P "put16" 1408 (R 912), e P "need" 1417 (R 919), e P "get16" 1425 (R 926), e P "FIN" 1429 (I 1 1428), e P "SYN" 1431 (I 2 1430), e P "RST" 1433 (I 4 1432), e P "PSH" 1435 (I 8 1434), e P "ACK" 1437 (I 16 1436), e P "URG" 1439 (I 32 1438), e P "OPTIONS_END" 1441 (I 0 1440), e P "OPTION_NOTHING" 1443 (I 1 1442), e P "OPTION_MSS" 1445 (I 2 1444), e P "MSS_SIZE" 1447 (I 4 1446), e P "Segment" 1519 (R 965), e P "check_number" 1527 (R 976), e P "mss_option" 1534 (R 983), e P "mss_of" 1544 (R 990), e P "CLOSED" 1548 (T "closed" 1547), e P "LISTEN" 1550 (T "listen" 1549), e P "SYN_SENT" 1552 (T "syn sent" 1551), e P "SYN_RECEIVED" 1554 (T "syn received" 1553), e P "ESTABLISHED" 1556 (T "established" 1555), e P "FIN_WAIT_1" 1558 (T "fin wait 1" 1557), e P "FIN_WAIT_2" 1560 (T "fin wait 2" 1559), e P "CLOSE_WAIT" 1562 (T "close wait" 1561), e P "CLOSING" 1564 (T "closing" 1563), e P "LAST_ACK" 1566 (T "last ack" 1565), e P "TIME_WAIT" 1568 (T "time wait" 1567), e P "opening_steps" 1574 (R 997), e P "closing_steps" 1580 (R 1004), e P "follow" 1589 (R 1011), e P "may_receive" 1596 (R 1018), e P "is_synchronized" 1603 (R 1025), e P "is_sending" 1610 (R 1032), e P "Wheel" 1704 (R 1095), e P "RESEND" 1708 (I 1 1707), e P "PERSIST" 1710 (I 2 1709), e P "DELAYED" 1712 (I 3 1711), e P "WAIT" 1714 (I 4 1713), e P "MOST_WINDOW" 1716 (I 65535 1715), e P "Limits" 1763 (R 1116), e P "clock_of" 1771 (R 1127), e P "Tcb" 1837 (R 1159), e P "MOST_SHIFT_tcp_user" 1841 (I 7 1840), e P "change_state" 1850 (R 1170), e P "closed" 1859 (R 1177), e P "enter_time_wait" 1868 (R 1184), e P "open_active" 1876 (R 1191), e P "ack_segment" 1883 (R 1198), e P "syn_segment" 1890 (R 1205), e P "flags_of" 1899 (R 1212), e P "take_asked_fin" 1907 (R 1219), e P "data_segments" 1923 (R 1226), e P "output" 1932 (R 1233), e P "set_resend" 1940 (R 1240), e P "keep_timers" 1948 (R 1247), e P "probe_wait" 1956 (R 1254), e P "segment_again" 1967 (R 1261), e P "is_acceptable" 1980 (R 1268), e P "is_new_ack" 1991 (R 1275), e P "WHOLE_RING" 1995 (I 4294967296 1994), e P "PLAIN_MSS" 1997 (I 536 1996), e P "arrive" 2006 (R 1282), e P "listed" 2013 (R 1289), e P "reset_for" 2022 (R 1297), e P "take_syn" 2032 (R 1304), e P "in_listen" 2041 (R 1311), e P "in_syn_sent" 2051 (R 1318), e P "opened_from_both" 2061 (R 1325), e P "without_syn" 2069 (R 1332), e P "in_others" 2080 (R 1339), e P "is_let_in" 2090 (R 1346), e P "turned_down" 2100 (R 1353), e P "is_old_acknowledgement" 2108 (R 1360), e P "take_reset" 2116 (R 1367), e P "is_too_far" 2126 (R 1374), e P "take_ack" 2138 (R 1381), e P "take_acknowledgement" 2151 (R 1388), e P "take_duplicate" 2162 (R 1395), e P "end_of_sending" 2170 (R 1402), e P "take_octets" 2183 (R 1409), e P "end_of_receiving" 2191 (R 1416), e P "replies" 2200 (R 1423), e P "_law_pool" 2213 (R 1430), e P "_law_take" 2222 (R 1437), e P "_law_one" 2230 (R 1444), e P "_law_due" 2248 (R 1451), e P "_law_told" 2254 (R 1456), e P "law" 2267 (R 1463)]
noncomputable def flds : List Value := [(I 1 0), (I 0 0), (R 20), (I 5 0), (I 0 0), (R 27), (I 7 0), (I 0 0), (R 34), (I 9 0), (I 0 0), (R 41), (I 12 0), (I 0 0), (R 48), (I 14 0), (I 0 0), (R 55), (I 16 0), (I 0 0), (R 62), (I 19 0), (I 0 0), (R 69), (I 118 0), (I 0 0), (R 165), (I 216 0), (I 0 0), (R 299), (I 251 0), (I 0 0), (R 356), (I 322 0), (I 0 0), (R 440), (I 366 0), (I 0 0), (R 517), (I 404 0), (I 0 0), (R 573), (I 408 0), (I 0 0), (R 593), (I 410 0), (I 0 0), (R 605), (I 412 0), (I 0 0), (R 617), (I 415 0), (I 0 0), (R 629), (I 444 0), (I 0 0), (R 685), (I 469 0), (I 0 0), (R 720), (I 623 0), (I 0 0), (R 911), (I 625 0), (I 0 0), (R 918), (I 628 0), (I 0 0), (R 925), (I 642 0), (I 0 0), (R 932), (I 669 0), (I 0 0), (R 975), (I 672 0), (I 0 0), (R 982), (I 675 0), (I 0 0), (R 989), (I 705 0), (I 0 0), (R 996), (I 707 0), (I 0 0), (R 1003), (I 709 0), (I 0 0), (R 1010), (I 718 0), (I 0 0), (R 1017), (I 720 0), (I 0 0), (R 1024), (I 722 0), (I 0 0), (R 1031), (I 725 0), (I 0 0), (R 1038), (I 784 0), (I 0 0), (R 1105), (I 797 0), (I 0 0), (R 1126), (I 800 0), (I 0 0), (R 1133), (I 835 0), (I 0 0), (R 1169), (I 840 0), (I 0 0), (R 1176), (I 846 0), (I 0 0), (R 1183), (I 851 0), (I 0 0), (R 1190), (I 854 0), (I 0 0), (R 1197), (I 856 0), (I 0 0), (R 1204), (I 858 0), (I 0 0), (R 1211), (I 865 0), (I 0 0), (R 1218), (I 870 0), (I 0 0), (R 1225), (I 880 0), (I 0 0), (R 1232), (I 891 0), (I 0 0), (R 1239), (I 896 0), (I 0 0), (R 1246), (I 908 0), (I 0 0), (R 1253), (I 911 0), (I 0 0), (R 1260), (I 918 0), (I 0 0), (R 1267), (I 926 0), (I 0 0), (R 1274), (I 932 0), (I 0 0), (R 1281), (I 940 0), (I 0 0), (R 1288), (I 942 0), (I 0 0), (R 1296), (I 949 0), (I 0 0), (R 1303), (I 955 0), (I 0 0), (R 1310), (I 966 0), (I 0 0), (R 1317), (I 985 0), (I 0 0), (R 1324), (I 992 0), (I 0 0), (R 1331), (I 996 0), (I 0 0), (R 1338), (I 1019 0), (I 0 0), (R 1345), (I 1025 0), (I 0 0), (R 1352), (I 1037 0), (I 0 0), (R 1359), (I 1041 0), (I 0 0), (R 1366), (I 1051 0), (I 0 0), (R 1373), (I 1055 0), (I 0 0), (R 1380), (I 1062 0), (I 0 0), (R 1387), (I 1077 0), (I 0 0), (R 1394), (I 1086 0), (I 0 0), (R 1401), (I 1093 0), (I 0 0), (R 1408), (I 1113 0), (I 0 0), (R 1415), (I 1119 0), (I 0 0), (R 1422), (I 1127 0), (I 0 0), (R 1429), (I 1132 0), (I 0 0), (R 1436), (I 1139 0), (I 0 0), (R 1443), (I 1141 0), (I 0 0), (R 1450), (I 1157 0), (I 0 0), (R 1455), (I 1165 0), (I 0 0), (R 1462)]
structure Cut where
  n : Nat
  toks : Nat
  nameTok : Nat
  name : String
  ents : Nat
  ep : Nat
  flds : Nat
  v2 : Nat
  v584 : List Value
noncomputable def obj2 (P : Params) (k : Nat) : Obj := di N none (([e P "type.__subclasses__.Exception.0" 980 (I 584 0), e P "type.__subclasses__.Exception.n" 981 (I 1 0)]).take k) k
noncomputable def obj584 (l : List Value) : Obj := sl (cl (Y "type") none "StackError" [(Y "Exception")] [(R 584), (Y "Exception"), (Y "BaseException"), (Y "object")] 583 "StackError" true [] l false false) [some (R 568), none, some (T "StackError" 955), some (T "StackError" 963), some (U "Exception.__new__"), some (B true)]
noncomputable def ver (P : Params) (c : Cut) (b : Nat) : Obj := match Nat.beq b 3 with
  | true => di (Y "dict") none (e P "__name__" 165 (T c.name c.nameTok) :: (ents P).take c.ents) c.ep
  | false => match Nat.beq b 12 with
    | true => fl N none (flds.take c.flds)
    | false => match Nat.beq b 2 with
      | true => obj2 P c.v2
      | false => match Nat.beq b 584 with
        | true => obj584 c.v584
        | false => objAt P b
noncomputable def mk (P : Params) (c : Cut) : Nat → Nat → Nat → BT
  | 0, _, _ => .nil
  | f + 1, a, b => match Nat.blt b c.n with
    | true => .node (ver P c b) (mk P c f (2 * a) (a + b)) (mk P c f (2 * a) (2 * a + b))
    | false => .nil
noncomputable def st (w : World) (os : OsState) (c : Cut) : SharedT := ⟨mk w.params c 12 1 0, c.n, {}, #[], boot_drawn, c.toks, os⟩
noncomputable def k0 : Cut := ⟨15, 187, 164, "__main__", 8, 9, 0, 0, []⟩
noncomputable def k9 : Cut := ⟨64, 254, 252, "thinstack.assembly", 15, 16, 21, 0, []⟩
noncomputable def k10 : Cut := ⟨160, 410, 252, "thinstack.assembly", 16, 17, 24, 0, []⟩
noncomputable def k12 : Cut := ⟨294, 584, 410, "thinstack.receiver", 17, 18, 27, 0, []⟩
noncomputable def k18 : Cut := ⟨435, 774, 660, "thinstack.congestion", 21, 22, 33, 0, []⟩
noncomputable def k22 : Cut := ⟨512, 879, 877, "thinstack.rtt", 23, 24, 36, 0, []⟩
noncomputable def k25 : Cut := ⟨588, 984, 953, "thinstack.errors", 25, 26, 42, 2, []⟩
noncomputable def k29 : Cut := ⟨624, 1034, 1032, "thinstack.send_queue", 28, 29, 51, 2, [(R 597), (R 609), (R 621)]⟩
noncomputable def k32 : Cut := ⟨715, 1159, 1104, "thinstack.sender", 30, 31, 57, 2, [(R 597), (R 609), (R 621)]⟩
noncomputable def k33 : Cut := ⟨906, 1400, 1104, "thinstack.sender", 31, 32, 60, 2, [(R 597), (R 609), (R 621)]⟩
noncomputable def k48 : Cut := ⟨927, 1448, 1426, "thinstack.tcp_segment", 44, 45, 69, 2, [(R 597), (R 609), (R 621)]⟩
noncomputable def k71 : Cut := ⟨1033, 1613, 1611, "thinstack.wheel", 65, 66, 99, 2, [(R 597), (R 609), (R 621)]⟩
noncomputable def k80 : Cut := ⟨1128, 1772, 1705, "thinstack.tcb", 73, 74, 108, 2, [(R 597), (R 609), (R 621)]⟩
noncomputable def k103 : Cut := ⟨1276, 1998, 1992, "thinstack.tcp_input", 93, 94, 159, 2, [(R 597), (R 609), (R 621)]⟩
noncomputable def k131 : Cut := ⟨1464, 2268, 2201, "law_pf0405_01", 120, 121, 240, 2, [(R 597), (R 609), (R 621)]⟩
end
end MineHd

-- H2
namespace MineHd
open PySem PySem.W
noncomputable section
noncomputable def body : List Stmt := behindTheImports pw
noncomputable def env0 : Env := { scope := pw.main.scope, locals := mainNs, globals := mainNs, cells := [], code := .ref 13, frame := some 14 }
noncomputable def code0 : Code := .body body env0
abbrev q0 : Pos := ⟨0, 0, 0, 0⟩
theorem pc0 (w : World) (os : OsState) : segRunT treeTable pw w 11 (some (.ref 6)) 1 236 (st w os k0) (piecesOf ((body.drop 0).take 9) env0 code0 ⟨0, 0, 0, 0⟩ [topFrame q0]) = some (.next, st w os k9, code0, ⟨18, 0, 18, 8⟩) := by kernel_rfl
theorem pc9 (w : World) (os : OsState) : segRunT treeTable pw w 11 (some (.ref 6)) 1 612 (st w os k9) (piecesOf ((body.drop 9).take 1) env0 code0 ⟨18, 0, 18, 8⟩ [topFrame q0]) = some (.next, st w os k10, code0, ⟨19, 0, 116, 26⟩) := by kernel_rfl
theorem pc10 (w : World) (os : OsState) : segRunT treeTable pw w 11 (some (.ref 6)) 1 760 (st w os k10) (piecesOf ((body.drop 10).take 2) env0 code0 ⟨19, 0, 116, 26⟩ [topFrame q0]) = some (.next, st w os k12, code0, ⟨118, 0, 213, 16⟩) := by kernel_rfl
theorem pc12 (w : World) (os : OsState) : segRunT treeTable pw w 11 (some (.ref 6)) 1 942 (st w os k12) (piecesOf ((body.drop 12).take 6) env0 code0 ⟨118, 0, 213, 16⟩ [topFrame q0]) = some (.next, st w os k18, code0, ⟨251, 0, 319, 16⟩) := by kernel_rfl
theorem pc18 (w : World) (os : OsState) : segRunT treeTable pw w 11 (some (.ref 6)) 1 512 (st w os k18) (piecesOf ((body.drop 18).take 4) env0 code0 ⟨251, 0, 319, 16⟩ [topFrame q0]) = some (.next, st w os k22, code0, ⟨365, 0, 365, 8⟩) := by kernel_rfl
theorem pc22 (w : World) (os : OsState) : segRunT treeTable pw w 11 (some (.ref 6)) 1 625 (st w os k22) (piecesOf ((body.drop 22).take 3) env0 code0 ⟨365, 0, 365, 8⟩ [topFrame q0]) = some (.next, st w os k25, code0, ⟨404, 0, 407, 30⟩) := by kernel_rfl
theorem pc25 (w : World) (os : OsState) : segRunT treeTable pw w 11 (some (.ref 6)) 1 649 (st w os k25) (piecesOf ((body.drop 25).take 4) env0 code0 ⟨404, 0, 407, 30⟩ [topFrame q0]) = some (.next, st w os k29, code0, ⟨414, 0, 414, 8⟩) := by kernel_rfl
theorem pc29 (w : World) (os : OsState) : segRunT treeTable pw w 11 (some (.ref 6)) 1 687 (st w os k29) (piecesOf ((body.drop 29).take 3) env0 code0 ⟨414, 0, 414, 8⟩ [topFrame q0]) = some (.next, st w os k32, code0, ⟨444, 0, 468, 19⟩) := by kernel_rfl
theorem pc32 (w : World) (os : OsState) : segRunT treeTable pw w 11 (some (.ref 6)) 1 1069 (st w os k32) (piecesOf ((body.drop 32).take 1) env0 code0 ⟨444, 0, 468, 19⟩ [topFrame q0]) = some (.next, st w os k33, code0, ⟨469, 0, 621, 60⟩) := by kernel_rfl
theorem pc33 (w : World) (os : OsState) : segRunT treeTable pw w 11 (some (.ref 6)) 1 199 (st w os k33) (piecesOf ((body.drop 33).take 15) env0 code0 ⟨469, 0, 621, 60⟩ [topFrame q0]) = some (.next, st w os k48, code0, ⟨641, 0, 641, 8⟩) := by kernel_rfl
theorem pc48 (w : World) (os : OsState) : segRunT treeTable pw w 11 (some (.ref 6)) 1 721 (st w os k48) (piecesOf ((body.drop 48).take 23) env0 code0 ⟨641, 0, 641, 8⟩ [topFrame q0]) = some (.next, st w os k71, code0, ⟨724, 0, 724, 8⟩) := by kernel_rfl
theorem pc71 (w : World) (os : OsState) : segRunT treeTable pw w 11 (some (.ref 6)) 1 775 (st w os k71) (piecesOf ((body.drop 71).take 9) env0 code0 ⟨724, 0, 724, 8⟩ [topFrame q0]) = some (.next, st w os k80, code0, ⟨797, 0, 799, 55⟩) := by kernel_rfl
theorem pc80 (w : World) (os : OsState) : segRunT treeTable pw w 11 (some (.ref 6)) 1 863 (st w os k80) (piecesOf ((body.drop 80).take 23) env0 code0 ⟨797, 0, 799, 55⟩ [topFrame q0]) = some (.next, st w os k103, code0, ⟨931, 0, 931, 9⟩) := by kernel_rfl
theorem pc103 (w : World) (os : OsState) : segRunT treeTable pw w 11 (some (.ref 6)) 1 873 (st w os k103) (piecesOf ((body.drop 103).take 28) env0 code0 ⟨931, 0, 931, 9⟩ [topFrame q0]) = some (.next, st w os k131, code0, ⟨1165, 0, 1173, 15⟩) := by kernel_rfl
end
end MineHd

-- H3
namespace MineHd
open PySem PySem.W
noncomputable section
theorem pre (w : World) (os : OsState) : topGo treeTable pw w 11 (some (.ref 6)) 12 ⟨boot_heap w.params, #[], boot_drawn, boot_toks, os⟩ (topStub pw) = some ((st w os k0).abs, ⟨denote treeTable (.body body env0), code0, q0, [topFrame q0]⟩) := by kernel_rfl
theorem blk (w : World) (os : OsState) : segRun treeTable pw w 11 (some (.ref 6)) 1 1 (st w os k0).abs (blockOf body env0 code0 q0 [topFrame q0]) = some (.next, (st w os k0).abs, code0, q0) := by kernel_rfl
theorem fin (w : World) (os : OsState) (p : Pos) : topRun treeTable pw w 11 (some (.ref 6)) 3 (st w os k131).abs ⟨doneF .next, code0, p, [topFrame q0]⟩ = some (st w os k131).abs := by kernel_rfl
theorem body_eq : body = ((body.drop 0).take 9) ++ (((body.drop 9).take 1) ++ (((body.drop 10).take 2) ++ (((body.drop 12).take 6) ++ (((body.drop 18).take 4) ++ (((body.drop 22).take 3) ++ (((body.drop 25).take 4) ++ (((body.drop 29).take 3) ++ (((body.drop 32).take 1) ++ (((body.drop 33).take 15) ++ (((body.drop 48).take 23) ++ (((body.drop 71).take 9) ++ (((body.drop 80).take 23) ++ (((body.drop 103).take 28) ++ ([])))))))))))))) := by kernel_rfl
theorem run (w : World) (os : OsState) : ∃ M, Nat.ble M 20000 = true ∧ topRun treeTable pw w 11 (some (.ref 6)) M ⟨boot_heap w.params, #[], boot_drawn, boot_toks, os⟩ (topStub pw) = some (st w os k131).abs := by
  have r := piece_nil (env := env0) (q := q0) (fin w os ⟨1165, 0, 1173, 15⟩)
  have r := piece_app (segRun_of (pc103 w os)) r
  have r := piece_app (segRun_of (pc80 w os)) r
  have r := piece_app (segRun_of (pc71 w os)) r
  have r := piece_app (segRun_of (pc48 w os)) r
  have r := piece_app (segRun_of (pc33 w os)) r
  have r := piece_app (segRun_of (pc32 w os)) r
  have r := piece_app (segRun_of (pc29 w os)) r
  have r := piece_app (segRun_of (pc25 w os)) r
  have r := piece_app (segRun_of (pc22 w os)) r
  have r := piece_app (segRun_of (pc18 w os)) r
  have r := piece_app (segRun_of (pc12 w os)) r
  have r := piece_app (segRun_of (pc10 w os)) r
  have r := piece_app (segRun_of (pc9 w os)) r
  have r := piece_app (segRun_of (pc0 w os)) r
  rw [← body_eq] at r
  have r := piece_block (blk w os) r
  have r := go_top (pre w os) r
  exact ⟨_, by decide, r⟩
end
end MineHd

-- H4
namespace MineHd
open PySem PySem.W PyProof.Rows
noncomputable section
def loose : List Str := [Str.ofString "_wall", Str.ofString "plus", Str.ofString "distance", Str.ofString "is_before", Str.ofString "is_at_most", Str.ofString "is_within", Str.ofString "latest", Str.ofString "Assembly", Str.ofString "Receiver", Str.ofString "EVERY", Str.ofString "AckPolicy", Str.ofString "DUPLICATES", Str.ofString "Congestion", Str.ofString "MOST_SHIFT_retransmit", Str.ofString "RetransmitClock", Str.ofString "RttEstimate", Str.ofString "StackError", Str.ofString "FormError", Str.ofString "SizeError", Str.ofString "StateError", Str.ofString "SendQueue", Str.ofString "PeerWindow", Str.ofString "Sender", Str.ofString "put16", Str.ofString "need", Str.ofString "get16", Str.ofString "FIN", Str.ofString "SYN", Str.ofString "RST", Str.ofString "PSH", Str.ofString "ACK", Str.ofString "URG", Str.ofString "OPTIONS_END", Str.ofString "OPTION_NOTHING", Str.ofString "OPTION_MSS", Str.ofString "MSS_SIZE", Str.ofString "Segment", Str.ofString "check_number", Str.ofString "mss_option", Str.ofString "mss_of", Str.ofString "CLOSED", Str.ofString "LISTEN", Str.ofString "SYN_SENT", Str.ofString "SYN_RECEIVED", Str.ofString "ESTABLISHED", Str.ofString "FIN_WAIT_1", Str.ofString "FIN_WAIT_2", Str.ofString "CLOSE_WAIT", Str.ofString "CLOSING", Str.ofString "LAST_ACK", Str.ofString "TIME_WAIT", Str.ofString "opening_steps", Str.ofString "closing_steps", Str.ofString "follow", Str.ofString "may_receive", Str.ofString "is_synchronized", Str.ofString "is_sending", Str.ofString "Wheel", Str.ofString "RESEND", Str.ofString "PERSIST", Str.ofString "DELAYED", Str.ofString "WAIT", Str.ofString "MOST_WINDOW", Str.ofString "Limits", Str.ofString "clock_of", Str.ofString "Tcb", Str.ofString "MOST_SHIFT_tcp_user", Str.ofString "change_state", Str.ofString "closed", Str.ofString "enter_time_wait", Str.ofString "open_active", Str.ofString "ack_segment", Str.ofString "syn_segment", Str.ofString "flags_of", Str.ofString "take_asked_fin", Str.ofString "data_segments", Str.ofString "output", Str.ofString "set_resend", Str.ofString "keep_timers", Str.ofString "probe_wait", Str.ofString "segment_again", Str.ofString "is_acceptable", Str.ofString "is_new_ack", Str.ofString "WHOLE_RING", Str.ofString "PLAIN_MSS", Str.ofString "arrive", Str.ofString "listed", Str.ofString "reset_for", Str.ofString "take_syn", Str.ofString "in_listen", Str.ofString "in_syn_sent", Str.ofString "opened_from_both", Str.ofString "without_syn", Str.ofString "in_others", Str.ofString "is_let_in", Str.ofString "turned_down", Str.ofString "is_old_acknowledgement", Str.ofString "take_reset", Str.ofString "is_too_far", Str.ofString "take_ack", Str.ofString "take_acknowledgement", Str.ofString "take_duplicate", Str.ofString "end_of_sending", Str.ofString "take_octets", Str.ofString "end_of_receiving", Str.ofString "replies", Str.ofString "_law_pool", Str.ofString "_law_take", Str.ofString "_law_one", Str.ofString "_law_due", Str.ofString "_law_told"]
def qv : Program := view pw [130]
def H1 (P : Params) : Heap := absHeap (mk P k131 12 1 0) k131.n {}
abbrev Xt : Shared → Bool := fun s => xlAt qv [] s && recOk [] s
theorem open0 : ∀ w : World, (fencedOpening treeTable pw w 20000).map (fun s => (s.heap, s.gens, s.drawn, s.toks)) = some (boot_heap w.params, Array.mk [], boot_drawn, boot_toks) := boot_open (by kernel_rfl) (by decide) (fun s => by first | rfl | kernel_rfl)
theorem size0 (w : World) : ((boot_heap w.params).isNs mainGlobals && (Array.mk [] : Array GenState).size == 0, (boot_heap w.params).objs.size, (boot_heap w.params).nsMap mainGlobals "__annotations__") = (true, 11, some (.ref 6)) := by kernel_rfl
theorem look1 (w : World) (os : OsState) : (staticsOk (importedModules pw.main.body) (boot_heap w.params) (H1 w.params) && namesBound pw (H1 w.params) && gensDone ⟨H1 w.params, #[], boot_drawn, k131.toks, os⟩ && laidKept (boot_heap w.params) (H1 w.params)) = true := by kernel_rfl
theorem look2 (w : World) (os : OsState) : openSeen qv loose (importedModules pw.main.body) Xt true ⟨H1 w.params, #[], boot_drawn, k131.toks, os⟩ = openGood qv loose := by kernel_rfl
end
end MineHd

-- H5
namespace MineHd
open PySem PySem.W PyProof.Rows Mine
noncomputable section
def asL : List Nat := [3, 0, 2, 20, 21, 27, 28, 34, 35, 41, 42, 48, 49, 55, 56, 62, 63, 65, 66, 69, 76, 77, 81, 82, 88, 89, 95, 96, 102, 103, 109, 110, 116, 117, 123, 124, 130, 131, 137, 138, 144, 145, 151, 152, 154, 155, 156, 157, 158, 159, 161, 162, 165, 167, 173, 174, 180, 181, 187, 188, 194, 195, 201, 202, 208, 209, 215, 216, 222, 223, 229, 230, 236, 237, 243, 244, 250, 251, 257, 258, 264, 265, 271, 272, 278, 279, 285, 286, 288, 289, 290, 291, 292, 293, 295, 296, 299, 306, 307, 308, 314, 315, 321, 322, 328, 329, 335, 336, 342, 343, 345, 346, 347, 348, 349, 350, 352, 353, 356, 363, 364, 370, 371, 377, 378, 384, 385, 391, 392, 398, 399, 405, 406, 412, 413, 419, 420, 426, 427, 429, 430, 431, 432, 433, 434, 436, 437, 440, 447, 448, 454, 455, 461, 462, 468, 469, 475, 476, 482, 483, 489, 490, 496, 497, 503, 504, 506, 507, 508, 509, 510, 511, 513, 514, 517, 524, 525, 531, 532, 538, 539, 545, 546, 552, 553, 559, 560, 562, 563, 564, 565, 566, 567, 569, 570, 573, 580, 581, 583, 584, 585, 586, 587, 589, 590, 593, 596, 597, 598, 599, 601, 602, 605, 608, 609, 610, 611, 613, 614, 617, 620, 621, 622, 623, 625, 626, 629, 636, 637, 643, 644, 650, 651, 657, 658, 664, 665, 671, 672, 674, 675, 676, 677, 678, 679, 681, 682, 685, 692, 693, 699, 700, 706, 707, 709, 710, 711, 712, 713, 714, 716, 717, 720, 727, 728, 734, 735, 736, 742, 743, 749, 750, 756, 757, 763, 764, 770, 771, 777, 778, 784, 785, 791, 792, 798, 799, 805, 806, 812, 813, 819, 820, 826, 827, 828, 834, 835, 841, 842, 848, 849, 855, 856, 862, 863, 869, 870, 876, 877, 883, 884, 890, 891, 897, 898, 900, 901, 902, 903, 904, 905, 911, 912, 918, 919, 925, 926, 928, 929, 932, 934, 940, 941, 947, 948, 954, 955, 961, 962, 964, 965, 966, 967, 968, 969, 975, 976, 982, 983, 989, 990, 996, 997, 1003, 1004, 1010, 1011, 1017, 1018, 1024, 1025, 1031, 1032, 1034, 1035, 1038, 1040, 1044, 1045, 1051, 1052, 1058, 1059, 1065, 1066, 1072, 1073, 1079, 1080, 1084, 1085, 1091, 1092, 1094, 1095, 1096, 1097, 1098, 1099, 1101, 1102, 1105, 1112, 1113, 1115, 1116, 1117, 1118, 1119, 1120, 1126, 1127, 1129, 1130, 1133, 1140, 1141, 1147, 1148, 1149, 1155, 1156, 1158, 1159, 1160, 1161, 1162, 1163, 1169, 1170, 1176, 1177, 1183, 1184, 1190, 1191, 1197, 1198, 1204, 1205, 1211, 1212, 1218, 1219, 1225, 1226, 1232, 1233, 1239, 1240, 1246, 1247, 1253, 1254, 1260, 1261, 1267, 1268, 1274, 1275, 1281, 1282, 1288, 1289, 1290, 1296, 1297, 1303, 1304, 1310, 1311, 1317, 1318, 1324, 1325, 1331, 1332, 1338, 1339, 1345, 1346, 1352, 1353, 1359, 1360, 1366, 1367, 1373, 1374, 1380, 1381, 1387, 1388, 1394, 1395, 1401, 1402, 1408, 1409, 1415, 1416, 1422, 1423, 1429, 1430, 1436, 1437, 1443, 1444, 1450, 1451, 1455, 1456, 1462, 1463]
def KK (P : Params) : Frag := asL.map fun a => (a, objAt P a)
theorem tree_at (P : Params) : asL.map (fun a => (mk P k131 12 1 0).get a) = asL.map (fun a => some (objAt P a)) := by kernel_rfl
theorem as_low : asL.all (fun a => Nat.blt a k131.n) = true := by kernel_rfl
theorem as_live (P : Params) : asL.all (fun a => !(objAt P a).isFreed) = true := by kernel_rfl
theorem alive_of {o : Obj} (h : o.isFreed = false) : alive o = some o := by
  obtain ⟨c, d, data, sl⟩ := o
  cases data <;> first | rfl | exact nomatch h
theorem KK_in (w : World) : (KK w.params).In (H1 w.params) := fun a o h => by
  obtain ⟨b, hm, e⟩ := List.mem_map.mp (mem_lookup h)
  cases e
  have g : (mk w.params k131 12 1 0).get a = some (objAt w.params a) := List.map_inj_left.mp (tree_at w.params) a hm
  have lt : a < k131.n := Nat.le_of_ble_eq_true (all_inv (f := fun a => Nat.blt a k131.n) as_low hm)
  have lv : (objAt w.params a).isFreed = false := not_true (all_inv (f := fun a => !(objAt w.params a).isFreed) (as_live w.params) hm)
  show (absHeap (mk w.params k131 12 1 0) k131.n {}).get? a = some (objAt w.params a)
  rw [abs_get lt g]
  exact alive_of lv
theorem all_split {α : Type} (f : α → Bool) (n : Nat) {l : List α} (h1 : (l.take n).all f = true) (h2 : (l.drop n).all f = true) : l.all f = true := by
  rw [← List.take_append_drop n l, List.all_append, h1, h2]; rfl
theorem ff0 (P : Params) : ((fnsG.drop 0).take 12).all (fun p => fnFit (KK P) 12 p.1 p.2) = true := by kernel_rfl
theorem ff12 (P : Params) : ((fnsG.drop 12).take 12).all (fun p => fnFit (KK P) 12 p.1 p.2) = true := by kernel_rfl
theorem ff24 (P : Params) : ((fnsG.drop 24).take 12).all (fun p => fnFit (KK P) 12 p.1 p.2) = true := by kernel_rfl
theorem ff36 (P : Params) : ((fnsG.drop 36).take 12).all (fun p => fnFit (KK P) 12 p.1 p.2) = true := by kernel_rfl
theorem ff48 (P : Params) : ((fnsG.drop 48).take 12).all (fun p => fnFit (KK P) 12 p.1 p.2) = true := by kernel_rfl
theorem ff60 (P : Params) : ((fnsG.drop 60).take 12).all (fun p => fnFit (KK P) 12 p.1 p.2) = true := by kernel_rfl
theorem ff72 (P : Params) : ((fnsG.drop 72).take 12).all (fun p => fnFit (KK P) 12 p.1 p.2) = true := by kernel_rfl
theorem ff84 (P : Params) : ((fnsG.drop 84).take 12).all (fun p => fnFit (KK P) 12 p.1 p.2) = true := by kernel_rfl
theorem ffE (P : Params) : (fnsG.drop 96).all (fun p => fnFit (KK P) 12 p.1 p.2) = true := by kernel_rfl
theorem fc (P : Params) : clsG.all (fun p => clsFit (KK P) ntG p.1 p.2) = true := by kernel_rfl
theorem ff (P : Params) : fnsG.all (fun p => fnFit (KK P) 12 p.1 p.2) = true := by
  have h := ffE P
  have h := all_split _ 12 (l := fnsG.drop 84) (ff84 P) (by rw [List.drop_drop]; exact h)
  have h := all_split _ 12 (l := fnsG.drop 72) (ff72 P) (by rw [List.drop_drop]; exact h)
  have h := all_split _ 12 (l := fnsG.drop 60) (ff60 P) (by rw [List.drop_drop]; exact h)
  have h := all_split _ 12 (l := fnsG.drop 48) (ff48 P) (by rw [List.drop_drop]; exact h)
  have h := all_split _ 12 (l := fnsG.drop 36) (ff36 P) (by rw [List.drop_drop]; exact h)
  have h := all_split _ 12 (l := fnsG.drop 24) (ff24 P) (by rw [List.drop_drop]; exact h)
  have h := all_split _ 12 (l := fnsG.drop 12) (ff12 P) (by rw [List.drop_drop]; exact h)
  have h := all_split _ 12 (l := fnsG.drop 0) (ff0 P) (by rw [List.drop_drop]; exact h)
  exact h
theorem fitsK (P : Params) : Fits (KK P) := ⟨ff P, fc P, by kernel_rfl, by kernel_rfl, by kernel_rfl, by kernel_rfl⟩
end
end MineHd

-- H6
open PySem PySem.W PySem.Calls PyProof.Rows Mine
namespace MineHd
theorem run20 (w : World) (os : OsState) : topRun treeTable pw w 11 (some (.ref 6)) 20000 ⟨boot_heap w.params, #[], boot_drawn, boot_toks, os⟩ (topStub pw) = some ⟨H1 w.params, #[], boot_drawn, k131.toks, os⟩ := by
  obtain ⟨M, hM, r⟩ := run w os
  have r := topRun_mono (20000 - M) _ _ _ _ r
  rw [show M + (20000 - M) = 20000 by have := Nat.le_of_ble_eq_true hM; omega] at r
  exact r
theorem left : LeftO pw qv loose Xt (fun s => s.heap) (fun w => H1 w.params) 20000 :=
  LeftO.of_pieces (H₀ := boot_heap) (H₁ := H1) (gs₀ := Array.mk []) (gs₁ := #[]) (d₀ := boot_drawn) (d₁ := boot_drawn) (k₀ := boot_toks) (k₁ := k131.toks) (m₀ := 11) (ann := some (.ref 6)) (M := 20000) open0 size0 run20 (by decide)
    fun w => by funext os; exact Prod.ext (look1 w os) (Prod.ext (look2 w os) rfl)
noncomputable def Kept (w : World) (h : Heap) : Prop := ∀ b o, (H1 w.params).get? b = some o → h.get? b = some o
theorem good_true {c : ClaimW} {cl : Str → Option Addr} {mean : ExcName → Option Value} {args : List WData} {s₁ : Shared} {h' : Heap} {tk : Tok} (hr : ∀ cls, c.raises args cls = false) (hp : c.post args (.bool true) args = true) (hg : s₁.gens = #[])
    (hk : ∀ b o, s₁.heap.get? b = some o → h'.get? b = some o) : GoodWG c cl mean args s₁ (.ok (.ret (.bool true))) { s₁ with heap := h', toks := tk } :=
  GoodW.toG ⟨.inl ⟨.bool true, .bool true, [], rfl, hr, .bool true, hp, fun _ => ⟨List.nodup_nil, fun _ ha => nomatch ha⟩⟩, hk, rfl, hg⟩
set_option maxHeartbeats 8000000 in
theorem holds (k1 : Challenge.rw_pf0405_01.row.wellSaid = true) : Challenge.rw_pf0405_01.row.Holds := by
  refine MineHd.holds_open (q := qv) (loose := loose) (Xt := Xt) (XP := XL qv []) (Yf := fun s => s.heap) (Ya := fun w => H1 w.params) (YP := Kept) (N := 20000) left (fun w s e b o h => by have e' : s.heap = H1 w.params := e; rw [e']; exact h) (fun w h h' k q b o e => q b o (k b o e))
    (fun s e => xl_of s (Bool.and_eq_true_iff.mp e).1) XL.keeps (by rfl) (by rfl) (by rfl) (fun s e => recFacts_of (Bool.and_eq_true_iff.mp e).2) (by rfl) k1 (by decide +kernel) ⟨rfl, rfl, rfl, rfl, rfl, by decide +kernel⟩ ?hw ?hc
  case hw => w_witness2
  intro w s₀ s₁ mg mb G Y fa o pm cd doc dV kV ho hd hcd hD hmg hg args vals as hpre hlay hrd hwl hlo
  have KX : (KK w.params).In s₁.heap := Frag.In.keeps (KK_in w) Y
  refine Ground.open G ?_
  intro T B D TE TW
  have he := Dflts.none hD rfl
  subst he
  wrow_args hpre hlay hrd hwl hlo
  rename Heap.IsList _ _ _ => hL
  rename IntsAre _ _ => hI
  rename ¬ _ < _ => hlen
  have good : ∀ (l : List Int) h' tk, (∀ b o, s₁.heap.get? b = some o → h'.get? b = some o) → GoodWG Challenge.rw_pf0405_01.row.claim (classAt s₀.heap) (ExcName.means s₀.heap) [ofPy (PyData.list (List.map PyData.int l))] s₁ (.ok (.ret (.bool true))) { s₁ with heap := h', toks := tk } :=
    fun l h' tk hk => good_true (fun cls => by first | rfl | wrow_none_raised) (by first | rfl | wrow_post) hg hk
  refine wpAny_guarded (wpC_call ?_) ?_
  · exact law_entry (B := ⟨Challenge.rw_pf0405_01.row.prog, w, KK w.params, _, _, _, mg, mb, fun _ => 0, cfg []⟩) (fitsK w.params) runs KX T ho hd hcd (by rfl) (by rfl) (by kernel_rfl) rfl rfl rfl (by decide) hL hI (by omega) fun h' tk hk => good _ h' tk hk
  · exact wpAny_pure (good _ s₁.heap s₁.toks fun _ _ e => e)
end MineHd

-- SD3
namespace MineSd
open PySem PySem.W
abbrev p : Program := PySem.Challenge.pw_pf0405_01
abbrev l : OpenLaw := PySem.Challenge.rw_pf0405_01
theorem w2 : decide (l.foot ≤ (behindTheImports l.prog).length) = true := by kernel_rfl
theorem w3 : l.footing.all footLine = true := by kernel_rfl
theorem w4 : noClassBlock l.prog l.footing = true := by kernel_rfl
theorem w5 : l.most.all (fun n => decide (63 ≤ n)) = true := by kernel_rfl
theorem w8 : defStands l.about l.above = true := by kernel_rfl
theorem w9 : l.namesIt = true := by kernel_rfl
theorem w15 : l.own.contains l.name = true := by kernel_rfl
theorem w16 : (l.own.eraseDups.length == l.own.length) = true := by kernel_rfl
theorem w17 : l.own.all (fun n => !builtinNamed n) = true := by kernel_rfl
theorem v2 : l.row.prog.boundNames.contains l.row.name = true := by kernel_rfl
theorem v3 : (!startupNames.contains l.row.name) = true := by kernel_rfl
theorem w12 : (!l.writes || (l.prog.main.body.flatMap importedNames).all fun n => !l.reads n) = true := by kernel_rfl
theorem w13 : (l.prog.main.body.flatMap importedNames).all (fun n => !l.reads n || (drawsOf n l.prog.main.body).all fun mn => mn.2 != ("attrgetter" : Str) && mn.2 != ("methodcaller" : Str)) = true := by kernel_rfl
theorem w18 : namesMeet l.prog l.above (fun _ n => !l.own.contains n) = true := by kernel_rfl
theorem w19 : (namesMeet l.prog l.footing fun sc n => sc.kind == .module || sc.names.lookup n != some .globalExplicit) = true := by kernel_rfl
theorem w14 : namesMeet l.prog l.footing (fun sc n => (!(["type", "isinstance", "issubclass", "getattr", "hasattr"] : List Str).contains n || sc.names.lookup n == some .globalImplicit) &&
    (l.may != some n || sc.kind == .module || sc.names.lookup n == some .globalImplicit)) = true := by kernel_rfl
theorem w7 : noRoadLSs { strict := true, foot := some l.bound', writes := l.writes, may := l.may } l.footing = true := by kernel_rfl
theorem w11 : l.bound'.all (fun n => !builtinNamed n || l.about == [n] || !l.reads n) = true := by kernel_rfl
theorem x1 : sreFenced p.main = true := by kernel_rfl
theorem x2 : ((moduleNames p.main.body).isEmpty || lookedIntoSs (moduleNames p.main.body) p.main.body) = true := by kernel_rfl
theorem x4 : p.boundNames.all (fun n => !worldNames.contains n) = true := by kernel_rfl
theorem x6 : (namesMeet p p.main.body fun _ n => attrL n) = true := by kernel_rfl
theorem y1 : (importedModules p.main.body).all cThrough.contains = true := by kernel_rfl
theorem y2 : readsOut p p.main.body "vars" = false := by kernel_rfl
theorem y3 : readsOut p p.main.body "dir" = false := by kernel_rfl
theorem y4 : readsOut p p.main.body "locals" = false := by kernel_rfl
theorem y5 : (["vars", "dir", "locals"] : List Str).filter (readsOut p p.main.body) = [] := by
  rw [List.filter_cons_of_neg (by rw [y2]; exact Bool.false_ne_true), List.filter_cons_of_neg (by rw [y3]; exact Bool.false_ne_true), List.filter_cons_of_neg (by rw [y4]; exact Bool.false_ne_true)]
  rfl
theorem y6 : noRoadLSs { strict := !true, foot := none, bare := [] } p.main.body = true := by kernel_rfl
theorem x5 : noRoadLSs { strict := !(importedModules p.main.body).all cThrough.contains, foot := none, bare := (["vars", "dir", "locals"] : List Str).filter (readsOut p p.main.body) } p.main.body = true := by
  rw [y1, y5]
  exact y6
theorem x7 : l.row.toRowW.solid = true := by kernel_rfl
theorem x3 : namesResolve p = true := by kernel_rfl
theorem and2 {a b : Bool} (x : a = true) (y : b = true) : (a && b) = true := by rw [x, y]; rfl
theorem looks : looksOpen p = true := and2 (and2 (and2 (and2 (and2 x1 x2) x3) x4) x5) x6
theorem part : l.row.partSaid = true := by
  refine and2 (and2 (and2 (and2 (and2 (and2 (and2 (and2 (and2 (and2 (and2 (and2 (and2 looks ?_) ?_) ?_) ?_) ?_) ?_) x7) ?_) ?_) ?_) ?_) ?_) ?_ <;> kernel_rfl
theorem row : l.row.wellSaid = true := and2 (and2 part v2) v3
theorem said : l.wellSaid = true := by
  refine and2 (and2 (and2 (and2 (and2 (and2 (and2 (and2 (and2 (and2 (and2 (and2 (and2 (and2 (and2 (and2 (and2 (and2 row w2) w3) w4) w5) ?_) w7) w8) w9) ?_) w11) w12) w13) w14) w15) w16) w17) w18) w19 <;> kernel_rfl
end MineSd

theorem PySem.Challenge.cw_pf0405_01_holds : PySem.Challenge.rw_pf0405_01.Holds :=
  PySem.W.holds_law MineSd.said MineHd.holds
